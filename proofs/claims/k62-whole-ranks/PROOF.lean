import PyProof.Rows.All
import Wide.All
import OpenK.AllK
import Wide.FinOn
import HandS.ForMost
import HandS.Evl
import HandS.Deep
import HandS.Wide
import HandS.IsInst
import HandS.Style
import HandS.NoneIn
import HandS.Conv
import HandS.Zip
import HandS.Walk
import KE.SortData
import KE.KDictWalk
import HandS.Dict
import HandS.Iter
import KE.KDictCopyH
import HandS.SortInts
import KE.KDictSum
import PySem.Challenge.RW_meshcore_k62_whole_ranks
set_option Elab.async false
set_option linter.all false
set_option maxRecDepth 100000
set_option maxHeartbeats 4000000
namespace M
open L2 PyProof.Rows PySem.Spec PySem
/-! ### a value stands for a datum, in the part G of the heap -/
mutual
inductive Rp (G : Hp) : V → PyData → Prop
  | non : Rp G .non .none
  | bl (b : Bool) : Rp G (.bl b) (.bool b)
  | int (i : Int) : Rp G (.int i) (.int i)
  | lst {a : Addr} {xs : List V} {ds : List PyData} : G a = some (.lst xs) → RpA G xs ds → Rp G (.ref a) (.list ds)
  | tup {a : Addr} {xs : List V} {ds : List PyData} : G a = some (.tup xs) → RpA G xs ds → Rp G (.ref a) (.tuple ds)
inductive RpA (G : Hp) : List V → List PyData → Prop
  | nil : RpA G [] []
  | cons {v : V} {vs : List V} {d : PyData} {ds : List PyData} : Rp G v d → RpA G vs ds → RpA G (v :: vs) (d :: ds)
end
def Ex (H H' : Hp) : Prop := ∀ a o, H a = some o → H' a = some o
theorem Ex.refl (H : Hp) : Ex H H := fun _ _ h => h
theorem Ex.trans {H H1 H2 : Hp} (a : Ex H H1) (b : Ex H1 H2) : Ex H H2 := fun x o h => b x o (a x o h)
theorem Ex.new {H : Hp} {p : Addr} {o : HO} (h : H p = none) : Ex H (upd H p o) := fun a u e => by rw [upd_ne (ne_of_none e h)]; exact e
/-- the object at an address that H does not know changes -/
theorem Ex.mut {H H' : Hp} {p : Addr} {o : HO} (e : Ex H H') (h : H p = none) : Ex H (upd H' p o) := fun a u q => by rw [upd_ne (ne_of_none q h)]; exact e a u q
mutual
theorem Rp.mono' {G G' : Hp} (el : ∀ a xs, G a = some (.lst xs) → G' a = some (.lst xs)) (et : ∀ a xs, G a = some (.tup xs) → G' a = some (.tup xs)) : ∀ {v : V} {d : PyData}, Rp G v d → Rp G' v d
  | _, _, .non => .non
  | _, _, .bl b => .bl b
  | _, _, .int i => .int i
  | _, _, .lst h r => .lst (el _ _ h) (RpA.mono' el et r)
  | _, _, .tup h r => .tup (et _ _ h) (RpA.mono' el et r)
theorem RpA.mono' {G G' : Hp} (el : ∀ a xs, G a = some (.lst xs) → G' a = some (.lst xs)) (et : ∀ a xs, G a = some (.tup xs) → G' a = some (.tup xs)) : ∀ {vs : List V} {ds : List PyData}, RpA G vs ds → RpA G' vs ds
  | _, _, .nil => .nil
  | _, _, .cons h r => .cons (Rp.mono' el et h) (RpA.mono' el et r)
end
theorem Rp.mono {G G' : Hp} (e : Ex G G') {v : V} {d : PyData} (h : Rp G v d) : Rp G' v d := h.mono' (fun _ _ => e _ _) (fun _ _ => e _ _)
theorem RpA.mono {G G' : Hp} (e : Ex G G') {v : List V} {d : List PyData} (h : RpA G v d) : RpA G' v d := h.mono' (fun _ _ => e _ _) (fun _ _ => e _ _)
mutual
theorem Rp.dp {K : PySem.W.Frag} {G : Hp} : ∀ {v : V} {d : PyData}, Rp G v d → Dp K G v d
  | _, _, .non => .non
  | _, _, .bl b => .bl b
  | _, _, .int i => .int i
  | _, _, .lst h r => .lst (SqL.of h) (RpA.dp r)
  | _, _, .tup h r => .tup (SqT.of h) (RpA.dp r)
theorem RpA.dp {K : PySem.W.Frag} {G : Hp} : ∀ {vs : List V} {ds : List PyData}, RpA G vs ds → DpAll K G vs ds
  | _, _, .nil => .nil
  | _, _, .cons h r => .cons (Rp.dp h) (RpA.dp r)
end
theorem RpA.length {G : Hp} : ∀ {vs : List V} {ds : List PyData}, RpA G vs ds → vs.length = ds.length
  | _, _, .nil => rfl
  | _, _, .cons _ r => congrArg (· + 1) r.length
theorem RpA.get {G : Hp} : ∀ {vs : List V} {ds : List PyData} {i : Nat} {d : PyData}, RpA G vs ds → ds[i]? = some d → ∃ v, vs[i]? = some v ∧ Rp G v d
  | _, _, _, _, .nil, e => by simp at e
  | _, _, 0, _, .cons h r, e => by
    have e' := Option.some.inj e
    exact ⟨_, rfl, e' ▸ h⟩
  | _, _, i + 1, _, .cons h r, e => RpA.get (i := i) r e
theorem RpA.getV {G : Hp} : ∀ {vs : List V} {ds : List PyData} {i : Nat} {v : V}, RpA G vs ds → vs[i]? = some v → ∃ d, ds[i]? = some d ∧ Rp G v d
  | _, _, _, _, .nil, e => by simp at e
  | _, _, 0, _, .cons h r, e => by
    have e' := Option.some.inj e
    exact ⟨_, rfl, e' ▸ h⟩
  | _, _, i + 1, _, .cons h r, e => RpA.getV (i := i) r e
theorem RpA.append {G : Hp} : ∀ {vs ws : List V} {ds es : List PyData}, RpA G vs ds → RpA G ws es → RpA G (vs ++ ws) (ds ++ es)
  | _, _, _, _, .nil, s => s
  | _, _, _, _, .cons h r, s => .cons h (RpA.append r s)
theorem RpA.take {G : Hp} : ∀ {vs : List V} {ds : List PyData} (n : Nat), RpA G vs ds → RpA G (vs.take n) (ds.take n)
  | _, _, 0, _ => .nil
  | _, _, _ + 1, .nil => .nil
  | _, _, n + 1, .cons h r => .cons h (RpA.take n r)
theorem RpA.drop {G : Hp} : ∀ {vs : List V} {ds : List PyData} (n : Nat), RpA G vs ds → RpA G (vs.drop n) (ds.drop n)
  | _, _, 0, r => r
  | _, _, _ + 1, .nil => .nil
  | _, _, n + 1, .cons h r => RpA.drop n r
theorem RpA.ints {G : Hp} : ∀ {vs : List V} {ns : List Int}, RpA G vs (ns.map PyData.int) → vs = ns.map V.int
  | _, [], h => by cases h; rfl
  | _, n :: ns, h => by
    cases h with
    | cons h r =>
      cases h
      rw [RpA.ints r, List.map_cons]
theorem RpA.of_ints {G : Hp} : ∀ (ns : List Int), RpA G (ns.map V.int) (ns.map PyData.int)
  | [] => .nil
  | n :: ns => .cons (.int n) (RpA.of_ints ns)
/-! ### a step: G the known part, H the whole -/
/-- a thing stands there, no tuple -/
def NTup (o : Option HO) : Prop := ∃ u, o = some u ∧ ∀ ys, u ≠ .tup ys
theorem ntup_lst {o : Option HO} {xs : List V} (h : o = some (.lst xs)) : NTup o := ⟨_, h, fun _ z => by cases z⟩
theorem ntup_dT {o : Option HO} {xs} (h : o = some (.dT xs)) : NTup o := ⟨_, h, fun _ z => by cases z⟩
theorem ntup_dK {o : Option HO} {xs} (h : o = some (.dK xs)) : NTup o := ⟨_, h, fun _ z => by cases z⟩
theorem NTup.ne {o : Option HO} (h : NTup o) : o ≠ none := fun e => by
  obtain ⟨u, q, _⟩ := h
  rw [e] at q; cases q
theorem NTup.ex {H H' : Hp} {a : Addr} (h : NTup (H a)) (e : Ex H H') : NTup (H' a) := by
  obtain ⟨u, q, n⟩ := h
  exact ⟨u, e a u q, n⟩
structure Step (G H G' H' : Hp) : Prop where
  g : Ex G G'
  h : Ex H H'
  gh : Ex G' H'
  nw : ∀ a, NTup (H a) → G a = none → G' a = none
theorem Step.refl {G H : Hp} (e : Ex G H) : Step G H G H := ⟨Ex.refl _, Ex.refl _, e, fun _ _ h => h⟩
theorem Step.trans {G H G1 H1 G2 H2 : Hp} (a : Step G H G1 H1) (b : Step G1 H1 G2 H2) : Step G H G2 H2 :=
  ⟨a.g.trans b.g, a.h.trans b.h, b.gh, fun x hx gx => b.nw x (hx.ex a.h) (a.nw x hx gx)⟩
theorem Step.new {G H : Hp} {p : Addr} {o : HO} (e : Ex G H) (h : H p = none) : Step G H (upd G p o) (upd H p o) := by
  have gp : G p = none := by
    cases q : G p with
    | none => rfl
    | some u => rw [e p u q] at h; cases h
  refine ⟨Ex.new gp, Ex.new h, fun a u q => ?_, fun a ha ga => ?_⟩
  · by_cases z : a = p
    · subst z; rw [upd_same] at q ⊢; exact q
    · rw [upd_ne z] at q ⊢; exact e a u q
  · have z : a ≠ p := fun z => ha.ne (z ▸ h)
    rw [upd_ne z]; exact ga
/-- the heap grows by a thing that is not told -/
theorem Step.grow {G H H' : Hp} (e : Ex G H) (h : Ex H H') : Step G H G H' := ⟨Ex.refl _, h, e.trans h, fun _ _ g => g⟩
end M
namespace M
open L2 PyProof.Rows PySem.Spec PySem
/-- what is known of a name's value -/
inductive Sl where
  /-- a datum -/
  | p (d : PyData)
  /-- a list of the def's own, that grows -/
  | o (ds : List PyData)
  /-- a table; one of the def's own, that grows -/
  | t (tb : List (List Int × PyData)) | u (tb : List (List Int × PyData))
  /-- a dict of the def's own from ints -/
  | k (tb : List (Int × PyData))
  /-- this very value -/
  | x (v : V)
  /-- a table that is locked -/
  | f (tb : List (List Int × PyData))
def Sl.own : Sl → Bool
  | .o _ => true
  | .u _ => true
  | .k _ => true
  | _ => false
abbrev keyI (k : List Int) : List Key := k.map Sum.inl
inductive TbA (G : Hp) : List (List Key × V) → List (List Int × PyData) → Prop
  | nil : TbA G [] []
  | cons {k : List Int} {v : V} {d : PyData} {kvs tb} : Rp G v d → TbA G kvs tb → TbA G ((keyI k, v) :: kvs) ((k, d) :: tb)
inductive KbA (G : Hp) : List (Key × V) → List (Int × PyData) → Prop
  | nil : KbA G [] []
  | cons {k : Int} {v : V} {d : PyData} {kvs tb} : Rp G v d → KbA G kvs tb → KbA G ((Sum.inl k, v) :: kvs) ((k, d) :: tb)
theorem TbA.mono {G G' : Hp} (e : Ex G G') : ∀ {kvs tb}, TbA G kvs tb → TbA G' kvs tb
  | _, _, .nil => .nil
  | _, _, .cons h r => .cons (h.mono e) (r.mono e)
theorem KbA.mono {G G' : Hp} (e : Ex G G') : ∀ {kvs tb}, KbA G kvs tb → KbA G' kvs tb
  | _, _, .nil => .nil
  | _, _, .cons h r => .cons (h.mono e) (r.mono e)
theorem TbA.length {G : Hp} : ∀ {kvs tb}, TbA G kvs tb → kvs.length = tb.length
  | _, _, .nil => rfl
  | _, _, .cons _ r => congrArg (· + 1) r.length
theorem KbA.length {G : Hp} : ∀ {kvs tb}, KbA G kvs tb → kvs.length = tb.length
  | _, _, .nil => rfl
  | _, _, .cons _ r => congrArg (· + 1) r.length
/-- the value v is as s says: H0 the heap at the def's entry, G the known part, H the whole -/
def RS (H0 G H : Hp) (v : V) : Sl → Prop
  | .p d => Rp G v d
  | .o ds => ∃ l xs, v = .ref l ∧ H0 l = none ∧ G l = none ∧ H l = some (.lst xs) ∧ RpA G xs ds
  | .t tb => ∃ a kvs, v = .ref a ∧ G a = some (.dT kvs) ∧ TbA G kvs tb
  | .u tb => ∃ a kvs, v = .ref a ∧ H0 a = none ∧ G a = none ∧ H a = some (.dT kvs) ∧ TbA G kvs tb
  | .k tb => ∃ a kvs, v = .ref a ∧ H0 a = none ∧ G a = none ∧ H a = some (.dK kvs) ∧ KbA G kvs tb
  | .x w => v = w
  | .f tb => ∃ a od kvs, v = .ref a ∧ G a = some (.frz od (.dT kvs)) ∧ TbA G kvs tb
theorem some_ne {α : Type} {o : Option α} {a : α} (h : o = some a) : o ≠ none := fun e => by rw [h] at e; cases e
theorem RS.step {H0 G H G' H' : Hp} {v : V} : ∀ {s : Sl}, RS H0 G H v s → Step G H G' H' → RS H0 G' H' v s
  | .p _, h, st => Rp.mono st.g h
  | .o _, ⟨l, xs, e, h0, hg, hh, r⟩, st => ⟨l, xs, e, h0, st.nw l (ntup_lst hh) hg, st.h _ _ hh, r.mono st.g⟩
  | .t _, ⟨a, kvs, e, hg, r⟩, st => ⟨a, kvs, e, st.g _ _ hg, r.mono st.g⟩
  | .u _, ⟨l, xs, e, h0, hg, hh, r⟩, st => ⟨l, xs, e, h0, st.nw l (ntup_dT hh) hg, st.h _ _ hh, r.mono st.g⟩
  | .k _, ⟨l, xs, e, h0, hg, hh, r⟩, st => ⟨l, xs, e, h0, st.nw l (ntup_dK hh) hg, st.h _ _ hh, r.mono st.g⟩
  | .x _, h, _ => h
  | .f _, ⟨a, od, kvs, e, hg, r⟩, st => ⟨a, od, kvs, e, st.g _ _ hg, r.mono st.g⟩
/-- the def's entry: what may change (M), the known part and the whole there -/
structure Wd where
  M : Addr → Prop
  G0 : Hp
  H0 : Hp
structure Wok (W : Wd) (G H : Hp) : Prop where
  g : Ex W.G0 G
  gh : Ex G H
  h : ∀ a o, ¬ W.M a → W.H0 a = some o → H a = some o
  dom : ∀ a, H a = none → W.H0 a = none
  nw : ∀ a, NTup (W.H0 a) → W.G0 a = none → G a = none
  m : ∀ a, W.M a → NTup (W.H0 a) ∧ W.G0 a = none
  mt : ∀ a, W.M a → NTup (H a)
theorem Wok.ntup {W : Wd} {G H : Hp} (w : Wok W G H) {a : Addr} (h : NTup (W.H0 a)) : NTup (H a) := by
  by_cases m : W.M a
  · exact w.mt a m
  · obtain ⟨u, q, n⟩ := h
    exact ⟨u, w.h a u m q, n⟩
theorem Wok.step {W : Wd} {G H G' H' : Hp} (w : Wok W G H) (s : Step G H G' H') : Wok W G' H' :=
  ⟨w.g.trans s.g, s.gh, fun a o m e => s.h a o (w.h a o m e), fun a e => w.dom a (by
    cases q : H a with
    | none => rfl
    | some o => rw [s.h a o q] at e; cases e), fun a h0 g0 => s.nw a (w.ntup h0) (w.nw a h0 g0), w.m, fun a m => (w.mt a m).ex s.h⟩
abbrev Dl := List (Option Sl)
structure Env (W : Wd) (G H : Hp) (σ : L2.St) (δ : Dl) : Prop where
  w : Wok W G H
  len : σ.length = δ.length
  at_ : ∀ (i : Nat) (s : Sl), δ[i]? = some (some s) → ∃ v, σ[i]? = some (some v) ∧ RS W.H0 G H v s
  sep : ∀ (i j : Nat) (si sj : Sl) (l : Addr), δ[i]? = some (some si) → δ[j]? = some (some sj) → si.own = true → sj.own = true → σ[i]? = some (some (.ref l)) → σ[j]? = some (some (.ref l)) → i = j
theorem Env.step {W : Wd} {G H G' H' : Hp} {σ : L2.St} {δ : Dl} (e : Env W G H σ δ) (s : Step G H G' H') : Env W G' H' σ δ :=
  ⟨e.w.step s, e.len, fun i t h => (e.at_ i t h).imp fun _ q => ⟨q.1, q.2.step s⟩, e.sep⟩
/-! ### the readings -/
def tX (δ : Dl) (s : Sl) : TE := fun σ H Q => ∃ (W : Wd) (G : Hp), Env W G H σ δ ∧ ∀ v G' H', Step G H G' H' → RS W.H0 G' H' v s → Q v H'
def tXT (δ : Dl) (b : Bool) : TT := fun σ H Q => ∃ (W : Wd) (G : Hp), Env W G H σ δ ∧ ∀ G' H', Step G H G' H' → Q b H'
inductive RSA (H0 G H : Hp) : List V → List Sl → Prop
  | nil : RSA H0 G H [] []
  | cons {v vs s ss} : RS H0 G H v s → RSA H0 G H vs ss → RSA H0 G H (v :: vs) (s :: ss)
theorem RSA.step {H0 G H G' H' : Hp} : ∀ {vs ss}, RSA H0 G H vs ss → Step G H G' H' → RSA H0 G' H' vs ss
  | _, _, .nil, _ => .nil
  | _, _, .cons h r, s => .cons (h.step s) (r.step s)
theorem RSA.length {H0 G H : Hp} : ∀ {vs ss}, RSA H0 G H vs ss → vs.length = ss.length
  | _, _, .nil => rfl
  | _, _, .cons _ r => congrArg (· + 1) r.length
def tXA (δ : Dl) (ss : List Sl) : TA := fun σ H Q => ∃ (W : Wd) (G : Hp), Env W G H σ δ ∧ ∀ vs G' H', Step G H G' H' → RSA W.H0 G' H' vs ss → Q vs H'
def tXS (δ : Dl) (nx : Dl → Prop) (rt : Sl → Prop) : TS := fun D σ H => ∃ (W : Wd) (G : Hp), Env W G H σ δ ∧ (∀ δ' G' H' σ', Env W G' H' σ' δ' → Ex G G' → nx δ' → D.nx σ' H') ∧ (∀ v s G' H', Wok W G' H' → RS W.H0 G' H' v s → rt s → D.rt v H')
/-- the slots outside ns stand -/
def But (σ σ' : L2.St) (ns : List Nat) : Prop := σ'.length = σ.length ∧ ∀ i, i ∉ ns → σ'[i]? = σ[i]?
def tXG (δ δ' : Dl) (d : PyData) (ns : List Nat) : TG := fun v σ H Q => ∃ (W : Wd) (G : Hp), Env W G H σ δ ∧ Rp G v d ∧ ∀ σ', Env W G H σ' δ' → But σ σ' ns → Q σ' H
/-! ### a def's contexts -/
structure CF where
  P : Program
  w : World
  K : PySem.W.Frag
  mg : Str → Option Value
  base : Heap
  N : List Str
  sc : Scope
  k : Nat
  own : Str → Bool
structure Fam (c : CF) (X : Cx) : Prop where
  P : X.prog = c.P
  w : X.w = c.w
  K : X.K = c.K
  mg : X.mg = c.mg
  base : X.base = c.base
  N : X.N = c.N
  sc : X.env.scope = c.sc
  calm : X.calm = true
  room : Room c.k X.A
  fn : ∀ x, c.own x = true → X.fn x = true
  xe : X.xe = fun _ _ => False
def PX (c : CF) (e : Expr) (δ : Dl) (s : Sl) : Prop := ∀ X, Fam c X → PE X e (tX δ s)
def PXT (c : CF) (e : Expr) (δ : Dl) (b : Bool) : Prop := ∀ X, Fam c X → PT X e (tXT δ b)
def PXA (c : CF) (es : List Expr) (δ : Dl) (ss : List Sl) : Prop := ∀ X, Fam c X → PA X es (tXA δ ss)
def PXS (c : CF) (st : Stmt) (δ : Dl) (nx : Dl → Prop) (rt : Sl → Prop) : Prop := ∀ X, Fam c X → PS X st (tXS δ nx rt)
def PXB (c : CF) (sts : List Stmt) (δ : Dl) (nx : Dl → Prop) (rt : Sl → Prop) : Prop := ∀ X, Fam c X → PSs X sts (tXS δ nx rt)
def PXG (c : CF) (tg : Expr) (δ δ' : Dl) (d : PyData) (ns : List Nat) : Prop := ∀ X, Fam c X → PG X tg (tXG δ δ' d ns)
/-! ### weakening -/
theorem PE.weak {X : Cx} {e : Expr} {t t' : TE} (h : PE X e t) (w : ∀ σ H Q, t' σ H Q → t σ H Q) : PE X e t' := ⟨fun pins s σ H Q I q => h.run pins s σ H Q I (w σ H Q q)⟩
theorem PT.weak {X : Cx} {e : Expr} {t t' : TT} (h : PT X e t) (w : ∀ σ H Q, t' σ H Q → t σ H Q) : PT X e t' := ⟨fun pins s σ H Q I q => h.run pins s σ H Q I (w σ H Q q)⟩
theorem PW.weak {X : Cx} {e : Expr} {t t' : TT} (h : PW X e t) (w : ∀ σ H Q, t' σ H Q → t σ H Q) : PW X e t' := ⟨fun wh pins s σ H Q I q => h.run wh pins s σ H Q I (w σ H Q q)⟩
theorem PA.weak {X : Cx} {e : List Expr} {t t' : TA} (h : PA X e t) (w : ∀ σ H Q, t' σ H Q → t σ H Q) : PA X e t' := ⟨fun pos pins s σ H Q I q => h.run pos pins s σ H Q I (w σ H Q q)⟩
theorem PS.weak {X : Cx} {e : Stmt} {t t' : TS} (h : PS X e t) (w : ∀ D σ H, t' D σ H → t D σ H) : PS X e t' := ⟨fun pins s σ H D I q => h.run pins s σ H D I (w D σ H q)⟩
theorem PSs.weak {X : Cx} {e : List Stmt} {t t' : TS} (h : PSs X e t) (w : ∀ D σ H, t' D σ H → t D σ H) : PSs X e t' := ⟨fun pins s σ H D I q => h.run pins s σ H D I (w D σ H q)⟩
theorem PG.weak {X : Cx} {e : Expr} {t t' : TG} (h : PG X e t) (w : ∀ v σ H Q, t' v σ H Q → t v σ H Q) : PG X e t' := ⟨fun pins s σ H v u Q I r q => h.run pins s σ H v u Q I r (w v σ H Q q)⟩
/-! ### slots -/
theorem lt_of_get {α : Type} {l : List α} {i : Nat} {a : α} (h : l[i]? = some a) : i < l.length := (List.getElem?_eq_some_iff.mp h).1
theorem Env.set {W : Wd} {G H : Hp} {σ : L2.St} {δ : Dl} (e : Env W G H σ δ) {i : Nat} {v : V} {s : Sl} (r : RS W.H0 G H v s)
    (hs : s.own = true → ∀ (j : Nat) (sj : Sl) (l : Addr), j ≠ i → δ[j]? = some (some sj) → sj.own = true → v = .ref l → σ[j]? ≠ some (some (.ref l))) : Env W G H (σ.set i (some v)) (δ.set i (some s)) := by
  refine ⟨e.w, by rw [List.length_set, List.length_set]; exact e.len, fun j t h => ?_, fun a b sa sb l ha hb oa ob ea eb => ?_⟩
  · by_cases z : i = j
    · subst z
      have hl := lt_of_get h
      rw [List.length_set] at hl
      rw [List.getElem?_set_self hl] at h
      have h' := Option.some.inj (Option.some.inj h)
      subst h'
      exact ⟨v, List.getElem?_set_self (by rw [e.len]; exact hl), r⟩
    · rw [List.getElem?_set_ne z] at h ⊢
      exact e.at_ j t h
  · by_cases za : i = a
    · by_cases zb : i = b
      · rw [← za, ← zb]
      · exfalso
        subst za
        have hl := lt_of_get ha
        rw [List.length_set] at hl
        rw [List.getElem?_set_self hl] at ha
        have ha' := Option.some.inj (Option.some.inj ha)
        subst ha'
        rw [List.getElem?_set_ne zb] at hb eb
        rw [List.getElem?_set_self (by rw [e.len]; exact hl)] at ea
        exact hs oa b sb l (fun z => zb z.symm) hb ob (Option.some.inj (Option.some.inj ea)) eb
    · by_cases zb : i = b
      · exfalso
        subst zb
        have hl := lt_of_get hb
        rw [List.length_set] at hl
        rw [List.getElem?_set_self hl] at hb
        have hb' := Option.some.inj (Option.some.inj hb)
        subst hb'
        rw [List.getElem?_set_ne za] at ha ea
        rw [List.getElem?_set_self (by rw [e.len]; exact hl)] at eb
        exact hs ob a sa l (fun z => za z.symm) ha oa (Option.some.inj (Option.some.inj eb)) ea
      · rw [List.getElem?_set_ne za] at ha ea
        rw [List.getElem?_set_ne zb] at hb eb
        exact e.sep a b sa sb l ha hb oa ob ea eb
theorem Env.setP {W : Wd} {G H : Hp} {σ : L2.St} {δ : Dl} (e : Env W G H σ δ) {i : Nat} {v : V} {s : Sl} (r : RS W.H0 G H v s) (ho : s.own = false) : Env W G H (σ.set i (some v)) (δ.set i (some s)) :=
  e.set r fun z => by rw [ho] at z; cases z
/-- what is forgotten -/
theorem Env.drop {W : Wd} {G H : Hp} {σ : L2.St} {δ δ' : Dl} (e : Env W G H σ δ) (hl : δ'.length = δ.length) (h : ∀ (i : Nat) (s : Sl), δ'[i]? = some (some s) → δ[i]? = some (some s)) : Env W G H σ δ' :=
  ⟨e.w, by rw [e.len, hl], fun i s q => e.at_ i s (h i s q), fun i j si sj l a b oa ob => e.sep i j si sj l (h _ _ a) (h _ _ b) oa ob⟩
end M
namespace M
open L2 PyProof.Rows PySem.Spec PySem
/-! ### shapes of data -/
theorem shaped_of {d : PyData} (h : d.canLay0 = true) (n : d.depth ≤ 64) : SeqAt.shaped d = true := by
  unfold SeqAt.shaped
  rw [h, decide_eq_true n]
  rfl
theorem lay_ints : ∀ ns : List Int, PyData.canLayAll0 (ns.map PyData.int) = true
  | [] => by simp [PyData.canLayAll0]
  | n :: ns => by simp [PyData.canLayAll0, PyData.canLay0, lay_ints ns]
theorem dep_ints : ∀ ns : List Int, PyData.depthAll (ns.map PyData.int) = 0
  | [] => by simp [PyData.depthAll]
  | n :: ns => by simp [PyData.depthAll, PyData.depth, dep_ints ns]
/-- a tuple of ints -/
abbrev tupI (ns : List Int) : PyData := .tuple (ns.map PyData.int)
theorem lay_tups : ∀ ts : List (List Int), PyData.canLayAll0 (ts.map tupI) = true
  | [] => by simp [PyData.canLayAll0]
  | t :: ts => by
    have h := lay_tups ts
    have h1 := lay_ints t
    simp [PyData.canLayAll0, PyData.canLay0, h1]
    simpa using h
theorem dep_tups : ∀ ts : List (List Int), PyData.depthAll (ts.map tupI) ≤ 1
  | [] => by simp [PyData.depthAll]
  | t :: ts => by
    have h := dep_tups ts
    have h1 := dep_ints t
    rw [List.map_cons, PyData.depthAll]
    have h2 : PyData.depth (tupI t) = 1 := by simp [PyData.depth, h1]
    rw [h2]
    omega
theorem shaped_tupI (ns : List Int) : SeqAt.shaped (tupI ns) = true := shaped_of (by simp [PyData.canLay0, lay_ints]) (by simp [PyData.depth, dep_ints])
theorem shaped_listI (ns : List Int) : SeqAt.shaped (.list (ns.map PyData.int)) = true := shaped_of (by simp [PyData.canLay0, lay_ints]) (by simp [PyData.depth, dep_ints])
theorem shaped_tups (ts : List (List Int)) : SeqAt.shaped (.list (ts.map tupI)) = true := by
  have h := dep_tups ts
  refine shaped_of (by simpa [PyData.canLay0] using lay_tups ts) ?_
  rw [PyData.depth]
  omega
theorem eqvAll_ints : ∀ a b : List Int, PyData.eqvAll (a.map PyData.int) (b.map PyData.int) = decide (a = b)
  | [], [] => by simp [PyData.eqvAll]
  | [], _ :: _ => by simp [PyData.eqvAll]
  | _ :: _, [] => by simp [PyData.eqvAll]
  | x :: a, y :: b => by
    rw [List.map_cons, List.map_cons, PyData.eqvAll, eqvAll_ints a b, PyData.eqv]
    by_cases h : x = y <;> by_cases h2 : a = b <;> simp [h, h2]
theorem eqv_tupI (a b : List Int) : PyData.eqv (tupI a) (tupI b) = decide (a = b) := by
  rw [PyData.eqv]; exact eqvAll_ints a b
/-! ### two in a row -/
theorem tXop {δ : Dl} {s1 s2 : Sl} {σ : L2.St} {H : Hp} {Q : VK} {r : R2} {W : Wd} {G : Hp} (e : Env W G H σ δ)
    (h : ∀ v1 v2 G2 H2, Step G H G2 H2 → RS W.H0 G2 H2 v1 s1 → RS W.H0 G2 H2 v2 s2 → r v1 v2 H2 Q) : tOp r (tX δ s1) (tX δ s2) σ H Q :=
  ⟨W, G, e, fun _ _ _ st1 r1 => ⟨W, _, e.step st1, fun _ _ _ st2 r2 => h _ _ _ _ (st1.trans st2) (r1.step st2) r2⟩⟩
theorem rs_int {H0 G H : Hp} {v : V} {i : Int} (h : RS H0 G H v (.p (.int i))) : v = .int i := by cases h; rfl
theorem rs_bl {H0 G H : Hp} {v : V} {b : Bool} (h : RS H0 G H v (.p (.bool b))) : v = .bl b := by cases h; rfl
theorem rs_non {H0 G H : Hp} {v : V} (h : RS H0 G H v (.p .none)) : v = .non := by cases h; rfl
theorem rs_tup {H0 G H : Hp} {v : V} {ds : List PyData} (h : RS H0 G H v (.p (.tuple ds))) : ∃ a xs, v = .ref a ∧ G a = some (.tup xs) ∧ RpA G xs ds := by
  cases h with
  | tup h r => exact ⟨_, _, rfl, h, r⟩
theorem rs_lst {H0 G H : Hp} {v : V} {ds : List PyData} (h : RS H0 G H v (.p (.list ds))) : ∃ a xs, v = .ref a ∧ G a = some (.lst xs) ∧ RpA G xs ds := by
  cases h with
  | lst h r => exact ⟨_, _, rfl, h, r⟩
section
variable {c : CF} {δ : Dl} {a b e : Expr} {pos : Pos} {i j : Int} {s : Sl}
/-! ### names, constants -/
theorem px_var {n : Nat} {x : Str} (hN : c.N[n]? = some x) (hv : Vis c.sc x) (hδ : δ[n]? = some (some s)) (hd : (x == ("__debug__" : Str)) = false := by decide) (hcd : (x == ("__classdict__" : Str)) = false := by decide) : PX c (.Name x pos) δ s := fun X f => by
  refine PE.weak (pe_var (i := n) (by rw [f.N]; exact hN) (by rw [f.sc]; exact hv) hd hcd) fun σ H Q ⟨W, G, e, q⟩ => ?_
  obtain ⟨v, h1, h2⟩ := e.at_ n s hδ
  exact ⟨v, h1, q v G H (Step.refl e.w.gh) h2⟩
theorem px_int {k : Nat} : PX c (.Constant (.int i) k pos) δ (.p (.int i)) := fun X f => PE.weak pe_int fun σ H Q ⟨W, G, e, q⟩ => q _ G H (Step.refl e.w.gh) (.int i)
theorem px_bl {k : Nat} {b : Bool} : PX c (.Constant (.bool b) k pos) δ (.p (.bool b)) := fun X f => PE.weak pe_bl fun σ H Q ⟨W, G, e, q⟩ => q _ G H (Step.refl e.w.gh) (.bl b)
theorem px_non {k : Nat} : PX c (.Constant .none k pos) δ (.p .none) := fun X f => PE.weak pe_non fun σ H Q ⟨W, G, e, q⟩ => q _ G H (Step.refl e.w.gh) .non
/-- a module's int -/
theorem px_globI {x : Str} {t : Tok} (hg : c.sc.names.lookup x = some .globalImplicit) (hm : c.mg x = some (.int i t)) (hd : (x == ("__debug__" : Str)) = false := by decide) : PX c (.Name x pos) δ (.p (.int i)) := fun X f => by
  refine PE.weak (pe_glob (v := .int i) (u := .int i t) (show X.env.scope.names.lookup x = _ by rw [f.sc]; exact hg) (by rw [f.mg]; exact hm) ⟨t, rfl⟩ hd) fun σ H Q ⟨W, G, e, q⟩ => q _ G H (Step.refl e.w.gh) (.int i)
/-- a module's object -/
theorem px_globR {x : Str} {u : Addr} (hg : c.sc.names.lookup x = some .globalImplicit) (hm : c.mg x = some (.ref u)) (hd : (x == ("__debug__" : Str)) = false := by decide) : PX c (.Name x pos) δ (.x (.ref u)) := fun X f => by
  refine PE.weak (pe_glob (v := .ref u) (u := .ref u) (show X.env.scope.names.lookup x = _ by rw [f.sc]; exact hg) (by rw [f.mg]; exact hm) rfl hd) fun σ H Q ⟨W, G, e, q⟩ => q _ G H (Step.refl e.w.gh) rfl
/-! ### operators -/
theorem px_opI {op : Operator} {C : Int → Int → Prop} {g : Int → Int → Int} (ho : ∀ X : Cx, OpR X (binaryOp op) (rI C fun i j => .int (g i j))) (ha : PX c a δ (.p (.int i))) (hb : PX c b δ (.p (.int j))) (hc : C i j) : PX c (.BinOp a op b pos) δ (.p (.int (g i j))) := fun X f => by
  refine PE.weak (pe_op (ho X) (ha X f) (hb X f)) fun σ H Q ⟨W, G, e, q⟩ => tXop e fun v1 v2 G2 H2 st r1 r2 => ?_
  rw [rs_int r1, rs_int r2]
  exact ⟨i, j, rfl, rfl, hc, q _ G2 H2 st (.int _)⟩
theorem px_opI0 {op : Operator} {g : Int → Int → Int} (ho : ∀ X : Cx, OpR X (binaryOp op) (rI0 fun i j => .int (g i j))) (ha : PX c a δ (.p (.int i))) (hb : PX c b δ (.p (.int j))) : PX c (.BinOp a op b pos) δ (.p (.int (g i j))) := fun X f => by
  refine PE.weak (pe_op (ho X) (ha X f) (hb X f)) fun σ H Q ⟨W, G, e, q⟩ => tXop e fun v1 v2 G2 H2 st r1 r2 => ?_
  rw [rs_int r1, rs_int r2]
  exact ⟨i, j, rfl, rfl, q _ G2 H2 st (.int _)⟩
theorem px_add (ha : PX c a δ (.p (.int i))) (hb : PX c b δ (.p (.int j))) : PX c (.BinOp a .Add b pos) δ (.p (.int (i + j))) := px_opI0 (g := fun i j => i + j) (fun _ => op_add) ha hb
theorem px_sub (ha : PX c a δ (.p (.int i))) (hb : PX c b δ (.p (.int j))) : PX c (.BinOp a .Sub b pos) δ (.p (.int (i - j))) := px_opI0 (g := fun i j => i - j) (fun _ => op_sub) ha hb
theorem px_mul (ha : PX c a δ (.p (.int i))) (hb : PX c b δ (.p (.int j))) (hc : CMulW i j) : PX c (.BinOp a .Mult b pos) δ (.p (.int (i * j))) := px_opI (C := CMulW) (g := fun i j => i * j) (fun _ => op_mulW) ha hb hc
def CDivX (_ j : Int) : Prop := j ≠ 0 ∧ j.natAbs.log2 < 9000
theorem op_fdivX {X : Cx} : OpR X (binaryOp .FloorDiv) (rI CDivX fun i j => .int (i.fdiv j)) := opI fun _ _ _ _ _ _ _ hc q => floordiv_int hc.1 q (.inl (PyProof.noPylong_of_log2 hc.2))
theorem px_fdiv (ha : PX c a δ (.p (.int i))) (hb : PX c b δ (.p (.int j))) (hc : CDivX i j) : PX c (.BinOp a .FloorDiv b pos) δ (.p (.int (i.fdiv j))) := px_opI (C := CDivX) (g := fun i j => i.fdiv j) (fun _ => op_fdivX) ha hb hc
theorem px_mod (ha : PX c a δ (.p (.int i))) (hb : PX c b δ (.p (.int j))) (hc : j ≠ 0) : PX c (.BinOp a .Mod b pos) δ (.p (.int (i.fmod j))) := px_opI (C := fun _ j => j ≠ 0) (g := fun i j => i.fmod j) (fun _ => op_modN) ha hb hc
theorem px_pow (ha : PX c a δ (.p (.int i))) (hb : PX c b δ (.p (.int j))) (hc : CPow i j) : PX c (.BinOp a .Pow b pos) δ (.p (.int (i ^ j.toNat))) := px_opI (C := CPow) (g := fun i j => i ^ j.toNat) (fun _ => op_pow) ha hb hc
theorem px_neg (ha : PX c a δ (.p (.int i))) : PX c (.UnaryOp .USub a pos) δ (.p (.int (-i))) := fun X f => by
  refine PE.weak (pe_un un_neg (ha X f)) fun σ H Q ⟨W, G, e, q⟩ => ⟨W, G, e, fun v G1 H1 st r => ?_⟩
  rw [rs_int r]
  exact ⟨i, rfl, q _ G1 H1 st (.int _)⟩
/-! ### comparisons -/
theorem pc_of {X : Cx} {op : CmpOp} {r : R2} {ta tb : TE} (ho : OpR X (compareOp op) r) (ha : PE X a ta) (hb : PE X b tb) : PC X op a b (tOp r ta tb) := ⟨fun pins s σ H Q I h => binT ha hb I h fun v u s2 x y H2 I2 rx ry q => ho pins s2 σ H2 x y v u Q I2 rx ry q⟩
theorem PC.weak {X : Cx} {op : CmpOp} {t t' : TE} (h : PC X op a b t) (w : ∀ σ H Q, t' σ H Q → t σ H Q) : PC X op a b t' := ⟨fun pins s σ H Q I q => h.run pins s σ H Q I (w σ H Q q)⟩
def PXC (c : CF) (op : CmpOp) (a b : Expr) (δ : Dl) (x : Bool) : Prop := ∀ X, Fam c X → PC X op a b (tX δ (.p (.bool x)))
theorem px_cmp {op : CmpOp} {x : Bool} (h : PXC c op a b δ x) (hm : behindInMarks op b = false) : PX c (.Compare a [op] [b] pos) δ (.p (.bool x)) := fun X f => pe_cmp (h X f) hm
theorem pxt_cmp {op : CmpOp} {x : Bool} (h : PXC c op a b δ x) (hm : behindInMarks op b = false) : PXT c (.Compare a [op] [b] pos) δ x := fun X f => by
  refine PT.weak (pt_cmp (h X f) hm) fun σ H Q ⟨W, G, e, q⟩ => ⟨W, G, e, fun v G1 H1 st r => ?_⟩
  rw [rs_bl r]
  exact ⟨x, rfl, q G1 H1 st⟩
theorem px_cmpI {op : CmpOp} {g : Int → Int → Bool} (ho : ∀ X : Cx, OpR X (compareOp op) (rI0 fun i j => .bl (g i j))) (ha : PX c a δ (.p (.int i))) (hb : PX c b δ (.p (.int j))) : PXC c op a b δ ((g i j)) := fun X f => by
  refine PC.weak (pc_of (ho X) (ha X f) (hb X f)) fun σ H Q ⟨W, G, e, q⟩ => tXop e fun v1 v2 G2 H2 st r1 r2 => ?_
  rw [rs_int r1, rs_int r2]
  exact ⟨i, j, rfl, rfl, q _ G2 H2 st (.bl _)⟩
theorem px_lt (ha : PX c a δ (.p (.int i))) (hb : PX c b δ (.p (.int j))) : PXC c .Lt a b δ ((decide (i < j))) := px_cmpI (g := fun i j => decide (i < j)) (fun _ => op_lt) ha hb
theorem px_le (ha : PX c a δ (.p (.int i))) (hb : PX c b δ (.p (.int j))) : PXC c .LtE a b δ ((decide (i ≤ j))) := px_cmpI (g := fun i j => decide (i ≤ j)) (fun _ => op_le) ha hb
theorem px_gt (ha : PX c a δ (.p (.int i))) (hb : PX c b δ (.p (.int j))) : PXC c .Gt a b δ ((decide (j < i))) := px_cmpI (g := fun i j => decide (j < i)) (fun _ => op_gt) ha hb
theorem px_ge (ha : PX c a δ (.p (.int i))) (hb : PX c b δ (.p (.int j))) : PXC c .GtE a b δ ((decide (j ≤ i))) := px_cmpI (g := fun i j => decide (j ≤ i)) (fun _ => op_ge) ha hb
theorem px_eqI (ha : PX c a δ (.p (.int i))) (hb : PX c b δ (.p (.int j))) : PXC c .Eq a b δ ((decide (i = j))) := fun X f => by
  refine PC.weak (pc_of op_eq (ha X f) (hb X f)) fun σ H Q ⟨W, G, e, q⟩ => tXop e fun v1 v2 G2 H2 st r1 r2 => ?_
  rw [rs_int r1, rs_int r2]
  refine ⟨rfl, ?_⟩
  have z : decide (V.int i = V.int j) = decide (i = j) := by simp
  rw [z]
  exact q _ G2 H2 st (.bl _)
theorem px_neI (ha : PX c a δ (.p (.int i))) (hb : PX c b δ (.p (.int j))) : PXC c .NotEq a b δ ((!decide (i = j))) := fun X f => by
  refine PC.weak (pc_of op_ne (ha X f) (hb X f)) fun σ H Q ⟨W, G, e, q⟩ => tXop e fun v1 v2 G2 H2 st r1 r2 => ?_
  rw [rs_int r1, rs_int r2]
  refine ⟨rfl, ?_⟩
  have z : decide (V.int i = V.int j) = decide (i = j) := by simp
  rw [z]
  exact q _ G2 H2 st (.bl _)
theorem px_eqB {x y : Bool} (ha : PX c a δ (.p (.bool x))) (hb : PX c b δ (.p (.bool y))) : PXC c .Eq a b δ ((decide (x = y))) := fun X f => by
  refine PC.weak (pc_of op_eq (ha X f) (hb X f)) fun σ H Q ⟨W, G, e, q⟩ => tXop e fun v1 v2 G2 H2 st r1 r2 => ?_
  rw [rs_bl r1, rs_bl r2]
  refine ⟨rfl, ?_⟩
  have z : decide (V.bl x = V.bl y) = decide (x = y) := by simp
  rw [z]
  exact q _ G2 H2 st (.bl _)
theorem px_neB {x y : Bool} (ha : PX c a δ (.p (.bool x))) (hb : PX c b δ (.p (.bool y))) : PXC c .NotEq a b δ ((!decide (x = y))) := fun X f => by
  refine PC.weak (pc_of op_ne (ha X f) (hb X f)) fun σ H Q ⟨W, G, e, q⟩ => tXop e fun v1 v2 G2 H2 st r1 r2 => ?_
  rw [rs_bl r1, rs_bl r2]
  refine ⟨rfl, ?_⟩
  have z : decide (V.bl x = V.bl y) = decide (x = y) := by simp
  rw [z]
  exact q _ G2 H2 st (.bl _)
theorem px_isN {d : PyData} {k : Nat} {p2 : Pos} (ha : PX c a δ (.p d)) : PXC c .Is a (.Constant .none k p2) δ ((match d with | .none => true | _ => false)) := fun X f => by
  refine PC.weak (pc_of op_isN (ha X f) pe_non) fun σ H Q ⟨W, G, e, q⟩ => ⟨W, G, e, fun v G1 H1 st r => ⟨rfl, ?_⟩⟩
  cases r <;> exact q _ G1 H1 st (.bl _)
/-- data equal -/
theorem px_eqD {d e : PyData} (ha : PX c a δ (.p d)) (hb : PX c b δ (.p e)) (sd : SeqAt.shaped d = true) (se : SeqAt.shaped e = true) : PXC c .Eq a b δ ((PyData.eqv d e)) := fun X f => by
  refine PC.weak (pc_of (op_eqD f.room.units) (ha X f) (hb X f)) fun σ H Q ⟨W, G, e, q⟩ => tXop e fun v1 v2 G2 H2 st r1 r2 => ?_
  exact ⟨_, _, (Rp.mono st.gh r1).dp, (Rp.mono st.gh r2).dp, sd, se, q _ G2 H2 st (.bl _)⟩
theorem px_neD {d e : PyData} (ha : PX c a δ (.p d)) (hb : PX c b δ (.p e)) (sd : SeqAt.shaped d = true) (se : SeqAt.shaped e = true) : PXC c .NotEq a b δ ((!PyData.eqv d e)) := fun X f => by
  refine PC.weak (pc_of (op_neD f.room.units) (ha X f) (hb X f)) fun σ H Q ⟨W, G, e, q⟩ => tXop e fun v1 v2 G2 H2 st r1 r2 => ?_
  exact ⟨_, _, (Rp.mono st.gh r1).dp, (Rp.mono st.gh r2).dp, sd, se, q _ G2 H2 st (.bl _)⟩
end
end M
namespace M
open L2 PyProof.Rows PySem.Spec PySem
section
variable {c : CF} {δ : Dl} {a b e t : Expr} {pos : Pos} {i j : Int} {s : Sl}
/-! ### tests -/
theorem pxt_val {x : Bool} (h : PX c e δ (.p (.bool x))) (he : ∀ env whole, isTrue e env whole = (do let v ← whole; standAt e.pos; holding [v] (truthy v))) : PXT c e δ x := fun X f => by
  refine PT.weak (pt_val (h X f) (he X.env)) fun σ H Q ⟨W, G, e, q⟩ => ⟨W, G, e, fun v G1 H1 st r => ?_⟩
  rw [rs_bl r]
  exact ⟨x, rfl, q G1 H1 st⟩
theorem pxt_not {x : Bool} (h : PXT c e δ x) : PXT c (.UnaryOp .Not e pos) δ (!x) := fun X f => by
  refine PT.weak (pt_not (h X f)) fun σ H Q ⟨W, G, e, q⟩ => ⟨W, G, e, fun G1 H1 st => q G1 H1 st⟩
/-- a chain of and, or -/
def PXW (c : CF) (e : Expr) (δ : Dl) (b : Bool) : Prop := ∀ X, Fam c X → PW X e (tXT δ b)
theorem PXW.pt {x : Bool} (h : PXW c e δ x) : PXT c e δ x := fun X f => (h X f).pt
theorem pxw_and1 {x : Bool} (h : PXT c a δ x) : PXW c (.BoolOp .And [a] pos) δ x := fun X f => pw_and1 (h X f)
theorem pxw_or1 {x : Bool} (h : PXT c a δ x) : PXW c (.BoolOp .Or [a] pos) δ x := fun X f => pw_or1 (h X f)
theorem tXT_false_of {δ : Dl} : True := trivial
/-- the second is read only where the first holds -/
theorem pxw_and {x y : Bool} {rest : List Expr} (h1 : PXT c a δ x) (h2 : x = true → PXW c (.BoolOp .And (b :: rest) pos) δ y) : PXW c (.BoolOp .And (a :: b :: rest) pos) δ (x && y) := fun X f => by
  have h2' : PW X (.BoolOp .And (b :: rest) pos) (fun σ H Q => x = true ∧ tXT δ y σ H Q) := ⟨fun wh pins s σ H Q I q => (h2 q.1 X f).run wh pins s σ H Q I q.2⟩
  refine PW.weak (pw_and (h1 X f) h2') fun σ H Q ⟨W, G, e, q⟩ => ⟨W, G, e, fun G1 H1 st => ?_⟩
  cases x with
  | true =>
    refine iteT ⟨rfl, W, G1, e.step st, fun G2 H2 st2 => ?_⟩
    exact q G2 H2 (st.trans st2)
  | false =>
    refine iteF ?_
    exact q G1 H1 st
theorem pxw_or {x y : Bool} {rest : List Expr} (h1 : PXT c a δ x) (h2 : x = false → PXW c (.BoolOp .Or (b :: rest) pos) δ y) : PXW c (.BoolOp .Or (a :: b :: rest) pos) δ (x || y) := fun X f => by
  have h2' : PW X (.BoolOp .Or (b :: rest) pos) (fun σ H Q => x = false ∧ tXT δ y σ H Q) := ⟨fun wh pins s σ H Q I q => (h2 q.1 X f).run wh pins s σ H Q I q.2⟩
  refine PW.weak (pw_or (h1 X f) h2') fun σ H Q ⟨W, G, e, q⟩ => ⟨W, G, e, fun G1 H1 st => ?_⟩
  cases x with
  | false =>
    refine iteF ⟨rfl, W, G1, e.step st, fun G2 H2 st2 => ?_⟩
    exact q G2 H2 (st.trans st2)
  | true =>
    refine iteT ?_
    exact q G1 H1 st
/-- as values -/
theorem px_one {op : BoolOp} (h : PX c a δ s) : PX c (.BoolOp op [a] pos) δ s := fun X f => pe_one (h X f)
theorem px_and {x y : Bool} {rest : List Expr} (h1 : PX c a δ (.p (.bool x))) (h2 : x = true → PX c (.BoolOp .And (b :: rest) pos) δ (.p (.bool y))) : PX c (.BoolOp .And (a :: b :: rest) pos) δ (.p (.bool (x && y))) := fun X f => by
  have h2' : PE X (.BoolOp .And (b :: rest) pos) (fun σ H Q => x = true ∧ tX δ (.p (.bool y)) σ H Q) := ⟨fun pins s σ H Q I q => (h2 q.1 X f).run pins s σ H Q I q.2⟩
  refine PE.weak (pe_and (h1 X f) h2') fun σ H Q ⟨W, G, e, q⟩ => ⟨W, G, e, fun v G1 H1 st r => ?_⟩
  rw [rs_bl r]
  refine ⟨x, rfl, ?_⟩
  cases x with
  | true =>
    refine iteT ⟨rfl, W, G1, e.step st, fun v G2 H2 st2 r2 => ?_⟩
    exact q v G2 H2 (st.trans st2) r2
  | false =>
    refine iteF ?_
    exact q _ G1 H1 st (.bl _)
theorem px_or {x y : Bool} {rest : List Expr} (h1 : PX c a δ (.p (.bool x))) (h2 : x = false → PX c (.BoolOp .Or (b :: rest) pos) δ (.p (.bool y))) : PX c (.BoolOp .Or (a :: b :: rest) pos) δ (.p (.bool (x || y))) := fun X f => by
  have h2' : PE X (.BoolOp .Or (b :: rest) pos) (fun σ H Q => x = false ∧ tX δ (.p (.bool y)) σ H Q) := ⟨fun pins s σ H Q I q => (h2 q.1 X f).run pins s σ H Q I q.2⟩
  refine PE.weak (pe_or (h1 X f) h2') fun σ H Q ⟨W, G, e, q⟩ => ⟨W, G, e, fun v G1 H1 st r => ?_⟩
  rw [rs_bl r]
  refine ⟨x, rfl, ?_⟩
  cases x with
  | false =>
    refine iteF ⟨rfl, W, G1, e.step st, fun v G2 H2 st2 r2 => ?_⟩
    exact q v G2 H2 (st.trans st2) r2
  | true =>
    refine iteT ?_
    exact q _ G1 H1 st (.bl _)
theorem px_not {x : Bool} (h : PX c a δ (.p (.bool x))) : PX c (.UnaryOp .Not a pos) δ (.p (.bool (!x))) := fun X f => by
  refine PE.weak (pe_not (h X f)) fun σ H Q ⟨W, G, e, q⟩ => ⟨W, G, e, fun v G1 H1 st r => ?_⟩
  rw [rs_bl r]
  exact ⟨x, rfl, q _ G1 H1 st (.bl _)⟩
theorem px_if {x : Bool} (ht : PXT c t δ x) (h1 : x = true → PX c a δ s) (h2 : x = false → PX c b δ s) : PX c (.IfExp t a b pos) δ s := fun X f => by
  have h1' : PE X a (fun σ H Q => x = true ∧ tX δ s σ H Q) := ⟨fun pins s σ H Q I q => (h1 q.1 X f).run pins s σ H Q I q.2⟩
  have h2' : PE X b (fun σ H Q => x = false ∧ tX δ s σ H Q) := ⟨fun pins s σ H Q I q => (h2 q.1 X f).run pins s σ H Q I q.2⟩
  refine PE.weak (pe_ifExp (ht X f) h1' h2') fun σ H Q ⟨W, G, e, q⟩ => ⟨W, G, e, fun G1 H1 st => ?_⟩
  cases x with
  | true => exact iteT ⟨rfl, W, G1, e.step st, fun v G2 H2 st2 r2 => q v G2 H2 (st.trans st2) r2⟩
  | false => exact iteF ⟨rfl, W, G1, e.step st, fun v G2 H2 st2 r2 => q v G2 H2 (st.trans st2) r2⟩
/-- a <= b <= c of ints -/
theorem px_leLe {d : Expr} {k : Int} (ha : PX c a δ (.p (.int i))) (hb : PX c b δ (.p (.int j))) (hd : PX c d δ (.p (.int k))) (hm : lastMarks [.LtE, .LtE] [b, d] = false) : PX c (.Compare a [.LtE, .LtE] [b, d] pos) δ (.p (.bool (decide (i ≤ j) && decide (j ≤ k)))) := fun X f => by
  refine PE.weak (pe_chain op_le op_le (ha X f) (hb X f) (hd X f) hm) fun σ H Q ⟨W, G, e, q⟩ => ⟨W, G, e, fun v1 G1 H1 st1 r1 => ⟨W, G1, e.step st1, fun v2 G2 H2 st2 r2 => ?_⟩⟩
  rw [rs_int r1, rs_int r2]
  refine ⟨i, j, rfl, rfl, _, rfl, ?_⟩
  by_cases h : i ≤ j
  · rw [decide_eq_true h, Bool.true_and] at q
    rw [decide_eq_true h]
    refine iteT ⟨W, G2, (e.step st1).step st2, fun v3 G3 H3 st3 r3 => ?_⟩
    rw [rs_int r3]
    exact ⟨j, k, rfl, rfl, q _ G3 H3 ((st1.trans st2).trans st3) (.bl _)⟩
  · rw [decide_eq_false h, Bool.false_and] at q
    rw [decide_eq_false h]
    exact iteF (q _ G2 H2 (st1.trans st2) (.bl _))
theorem pxt_leLe {d : Expr} {k : Int} (ha : PX c a δ (.p (.int i))) (hb : PX c b δ (.p (.int j))) (hd : PX c d δ (.p (.int k))) (hm : lastMarks [.LtE, .LtE] [b, d] = false) : PXT c (.Compare a [.LtE, .LtE] [b, d] pos) δ (decide (i ≤ j) && decide (j ≤ k)) := fun X f => by
  refine PT.weak (pt_chain op_le op_le (ha X f) (hb X f) (hd X f) hm) fun σ H Q ⟨W, G, e, q⟩ => ⟨W, G, e, fun v1 G1 H1 st1 r1 => ⟨W, G1, e.step st1, fun v2 G2 H2 st2 r2 => ?_⟩⟩
  rw [rs_int r1, rs_int r2]
  refine ⟨i, j, rfl, rfl, _, rfl, ?_⟩
  by_cases h : i ≤ j
  · rw [decide_eq_true h, Bool.true_and] at q
    rw [decide_eq_true h]
    refine iteT ⟨W, G2, (e.step st1).step st2, fun v3 G3 H3 st3 r3 => ?_⟩
    rw [rs_int r3]
    exact ⟨j, k, rfl, rfl, _, rfl, q G3 H3 ((st1.trans st2).trans st3)⟩
  · rw [decide_eq_false h, Bool.false_and] at q
    rw [decide_eq_false h]
    exact iteF ⟨_, rfl, q G2 H2 (st1.trans st2)⟩
/-! ### lists and tuples written -/
theorem pxa_nil : PXA c [] δ [] := fun X f => PA.weak pa_nil fun σ H Q ⟨W, G, e, q⟩ => q [] G H (Step.refl e.w.gh) .nil
theorem pxa_cons {es : List Expr} {ss : List Sl} (ha : PX c e δ s) (hr : PXA c es δ ss) (hs : ∀ env, starEach (e :: es) env = (false, eval e env) :: starEach es env) : PXA c (e :: es) δ (s :: ss) := fun X f =>
  PA.weak (pa_cons (ha X f) (hr X f) (hs X.env)) fun σ H Q ⟨W, G, e, q⟩ => ⟨W, G, e, fun v G1 H1 st r => ⟨W, G1, e.step st, fun vs G2 H2 st2 r2 => q _ G2 H2 (st.trans st2) (.cons (r.step st2) r2)⟩⟩
theorem RSA.data {H0 G H : Hp} : ∀ {vs : List V} {ds : List PyData}, RSA H0 G H vs (ds.map Sl.p) → RpA G vs ds
  | _, [], h => by cases h; exact .nil
  | _, d :: ds, h => by
    cases h with
    | cons h r => exact .cons h (RSA.data r)
theorem RpA.rsa {H0 G H : Hp} : ∀ {vs : List V} {ds : List PyData}, RpA G vs ds → RSA H0 G H vs (ds.map Sl.p)
  | _, _, .nil => .nil
  | _, _, .cons h r => .cons h (RpA.rsa r)
theorem px_tup {es : List Expr} {ds : List PyData} {k : Nat} (ha : PXA c es δ (ds.map Sl.p)) (hl : ds.length ≤ 1000 := by exact Nat.le_of_ble_eq_true rfl) : PX c (.Tuple es k pos) δ (.p (.tuple ds)) := fun X f => by
  refine PE.weak (pe_tup (ha X f)) fun σ H Q ⟨W, G, e, q⟩ => ⟨W, G, e, fun vs G1 H1 st r => ?_⟩
  have r' := r.data
  refine ⟨by rw [r'.length]; exact Nat.le_of_lt (small1000 hl), fun p hp => ?_⟩
  have st2 : Step G1 H1 (upd G1 p (.tup vs)) (upd H1 p (.tup vs)) := Step.new st.gh hp
  exact q _ _ _ (st.trans st2) (.tup upd_same (r'.mono st2.g))
theorem px_lst {es : List Expr} {ds : List PyData} (ha : PXA c es δ (ds.map Sl.p)) (hl : ds.length ≤ 1000 := by exact Nat.le_of_ble_eq_true rfl) : PX c (.List es pos) δ (.p (.list ds)) := fun X f => by
  refine PE.weak (pe_lst (ha X f)) fun σ H Q ⟨W, G, e, q⟩ => ⟨W, G, e, fun vs G1 H1 st r => ?_⟩
  have r' := r.data
  refine ⟨by rw [r'.length]; exact Nat.le_of_lt (small1000 hl), fun p hp => ?_⟩
  have st2 : Step G1 H1 (upd G1 p (.lst vs)) (upd H1 p (.lst vs)) := Step.new st.gh hp
  exact q _ _ _ (st.trans st2) (.lst upd_same (r'.mono st2.g))
theorem none_of_ex {G H : Hp} (e : Ex G H) {p : Addr} (h : H p = none) : G p = none := by
  cases q : G p with
  | none => rfl
  | some u => rw [e p u q] at h; cases h
/-- a list that is to grow -/
theorem px_lstO {es : List Expr} {ds : List PyData} (ha : PXA c es δ (ds.map Sl.p)) (hl : ds.length ≤ 1000 := by exact Nat.le_of_ble_eq_true rfl) : PX c (.List es pos) δ (.o ds) := fun X f => by
  refine PE.weak (pe_lst (ha X f)) fun σ H Q ⟨W, G, e, q⟩ => ⟨W, G, e, fun vs G1 H1 st r => ?_⟩
  have r' := r.data
  refine ⟨by rw [r'.length]; exact Nat.le_of_lt (small1000 hl), fun p hp => ?_⟩
  exact q _ _ _ (st.trans (Step.grow st.gh (Ex.new hp))) ⟨p, vs, rfl, (e.w.step st).dom p hp, none_of_ex st.gh hp, upd_same, r'⟩
/-- an empty dict that is to grow: keys that are tuples | ints -/
theorem px_dictT : PX c (.Dict [] [] pos) δ (.u []) := fun X f => by
  refine PE.weak pe_dnewT fun σ H Q ⟨W, G, e, q⟩ => fun p hp => ?_
  exact q _ _ _ (Step.grow e.w.gh (Ex.new hp)) ⟨p, [], rfl, e.w.dom p hp, none_of_ex e.w.gh hp, upd_same, .nil⟩
theorem px_dictK : PX c (.Dict [] [] pos) δ (.k []) := fun X f => by
  refine PE.weak pe_dnewK fun σ H Q ⟨W, G, e, q⟩ => fun p hp => ?_
  exact q _ _ _ (Step.grow e.w.gh (Ex.new hp)) ⟨p, [], rfl, e.w.dom p hp, none_of_ex e.w.gh hp, upd_same, .nil⟩
/-! ### items -/
theorem atI_rp {G : Hp} {xs : List V} {ds : List PyData} {d : PyData} (r : RpA G xs ds) (h : atI ds i = some d) : ∃ v, atI xs i = some v ∧ Rp G v d := by
  unfold atI at h ⊢
  rw [r.length]
  cases q : ixN ds.length i with
  | none => rw [q] at h; cases h
  | some n =>
    rw [q] at h
    exact r.get h
theorem px_ixT {ds : List PyData} {d : PyData} (ha : PX c a δ (.p (.tuple ds))) (hb : PX c b δ (.p (.int i))) (hd : atI ds i = some d) (hs : PlainIx b) : PX c (.Subscript a b pos) δ (.p d) := fun X f => by
  refine PE.weak (pe_ix ix_tup (ha X f) (hb X f) hs) fun σ H Q ⟨W, G, e, q⟩ => tXop e fun v1 v2 G2 H2 st r1 r2 => ?_
  obtain ⟨p, xs, rfl, hp, r⟩ := rs_tup r1
  rw [rs_int r2]
  obtain ⟨v, hv, rv⟩ := atI_rp r hd
  exact ⟨p, xs, i, v, rfl, rfl, SqT.of (st.gh _ _ hp), hv, q _ G2 H2 st rv⟩
theorem px_ixL {ds : List PyData} {d : PyData} (ha : PX c a δ (.p (.list ds))) (hb : PX c b δ (.p (.int i))) (hd : atI ds i = some d) (hs : PlainIx b) : PX c (.Subscript a b pos) δ (.p d) := fun X f => by
  refine PE.weak (pe_ix ix_list (ha X f) (hb X f) hs) fun σ H Q ⟨W, G, e, q⟩ => tXop e fun v1 v2 G2 H2 st r1 r2 => ?_
  obtain ⟨p, xs, rfl, hp, r⟩ := rs_lst r1
  rw [rs_int r2]
  obtain ⟨v, hv, rv⟩ := atI_rp r hd
  exact ⟨p, xs, i, v, rfl, rfl, SqL.of (st.gh _ _ hp), hv, q _ G2 H2 st rv⟩
/-- an item of a tuple of the module -/
theorem px_ixK {u : Addr} {ns : List Int} {n : Int} (ha : PX c a δ (.x (.ref u))) (hb : PX c b δ (.p (.int i))) (hu : ∀ H, SqT c.K H u (ns.map V.int)) (hd : atI ns i = some n) (hs : PlainIx b) : PX c (.Subscript a b pos) δ (.p (.int n)) := fun X f => by
  refine PE.weak (pe_ix ix_tup (ha X f) (hb X f) hs) fun σ H Q ⟨W, G, e, q⟩ => tXop e fun v1 v2 G2 H2 st r1 r2 => ?_
  obtain rfl : v1 = .ref u := r1
  rw [rs_int r2]
  have h2 : atI (ns.map V.int) i = some (.int n) := by
    unfold atI at hd ⊢
    rw [List.length_map]
    cases q : ixN ns.length i with
    | none => rw [q] at hd; cases hd
    | some m =>
      rw [q] at hd
      have hd' : ns[m]? = some n := hd
      show (ns.map V.int)[m]? = _
      rw [List.getElem?_map, hd']
      rfl
  exact ⟨u, _, i, _, rfl, rfl, by rw [f.K]; exact hu H2, h2, q _ G2 H2 st (.int n)⟩
/-! ### slices -/
theorem RpA.cut {G : Hp} {xs : List V} {ds : List PyData} (r : RpA G xs ds) (lo hi : Nat) : RpA G ((xs.drop lo).take hi) ((ds.drop lo).take hi) := (r.drop lo).take hi
/-- xs[n:] -/
theorem px_from {ds : List PyData} {n : Nat} {p2 : Pos} {k : Nat} {p3 : Pos} (ha : PX c a δ (.p (.list ds))) : PX c (.Subscript a (.Slice (some (.Constant (.int (n : Nat)) k p3)) none none p2) pos) δ (.p (.list (ds.drop n))) := fun X f => by
  refine PE.weak (pe_slice sl_list (ha X f) (po_some pe_int) po_none) fun σ H Q ⟨W, G, e, q⟩ => ⟨W, G, e, fun v G1 H1 st r => ⟨_, rfl, ?_⟩⟩
  obtain ⟨p, xs, rfl, hp, r⟩ := rs_lst r
  refine ⟨p, xs, rfl, SqL.of (st.gh _ _ hp), fun u hu => ?_⟩
  have st2 : Step G1 H1 (upd G1 u (.lst (cutV xs (some (n : Int)) none))) (upd H1 u (.lst (cutV xs (some (n : Int)) none))) := Step.new st.gh hu
  refine q _ _ _ (st.trans st2) (.lst upd_same ?_)
  have hc : cutV xs (some (n : Int)) none = xs.drop n := by
    unfold cutV
    rw [HT.sIx_nat, HT.sIx_none]
    by_cases h : n ≤ xs.length
    · rw [Nat.min_eq_left h]
      exact List.take_of_length_le (by rw [List.length_drop]; exact Nat.le_refl _)
    · rw [Nat.min_eq_right (by omega), List.drop_length, List.take_nil, List.drop_eq_nil_of_le (by omega)]
  have r2 := (r.drop n).mono st2.g
  rw [hc] at r2 ⊢
  exact r2
/-- xs[:n] -/
theorem px_upto {ds : List PyData} {n : Nat} {p2 : Pos} {k : Nat} {p3 : Pos} (ha : PX c a δ (.p (.list ds))) : PX c (.Subscript a (.Slice none (some (.Constant (.int (n : Nat)) k p3)) none p2) pos) δ (.p (.list (ds.take n))) := fun X f => by
  refine PE.weak (pe_slice sl_list (ha X f) po_none (po_some pe_int)) fun σ H Q ⟨W, G, e, q⟩ => ⟨W, G, e, fun v G1 H1 st r => ⟨_, rfl, ?_⟩⟩
  obtain ⟨p, xs, rfl, hp, r⟩ := rs_lst r
  refine ⟨p, xs, rfl, SqL.of (st.gh _ _ hp), fun u hu => ?_⟩
  have st2 : Step G1 H1 (upd G1 u (.lst (cutV xs none (some (n : Int))))) (upd H1 u (.lst (cutV xs none (some (n : Int))))) := Step.new st.gh hu
  refine q _ _ _ (st.trans st2) (.lst upd_same ?_)
  have hc : cutV xs none (some (n : Int)) = xs.take n := by
    unfold cutV
    rw [HT.sIx_nat, HT.sIx_none, Nat.sub_zero, List.drop_zero, ← List.take_take, List.take_length]
  have r2 := (r.take n).mono st2.g
  rw [hc] at r2 ⊢
  exact r2
/-- t[:n] of a tuple, not the whole -/
theorem px_uptoT {ds : List PyData} {n : Nat} {p2 : Pos} (ha : PX c a δ (.p (.tuple ds))) (hb : PX c b δ (.p (.int (n : Nat)))) (hn : n < ds.length) : PX c (.Subscript a (.Slice none (some b) none p2) pos) δ (.p (.tuple (ds.take n))) := fun X f => by
  refine PE.weak (pe_slice sl_tup (ha X f) po_none (po_some (hb X f))) fun σ H Q ⟨W, G, e, q⟩ => ⟨W, G, e, fun v G1 H1 st r => ⟨W, G1, e.step st, fun v2 G2 H2 st1 r1 => ?_⟩⟩
  obtain ⟨p, xs, rfl, hp, r⟩ := rs_tup (r.step st1)
  rw [rs_int r1]
  have hl := r.length
  refine ⟨_, rfl, p, xs, rfl, SqT.of (st1.gh _ _ hp), ?_, fun u hu => ?_⟩
  · rw [HT.sIx_none, HT.sIx_nat]
    intro z
    have := z.2
    omega
  have st2 : Step G2 H2 (upd G2 u (.tup (cutV xs none (some (n : Int))))) (upd H2 u (.tup (cutV xs none (some (n : Int))))) := Step.new st1.gh hu
  refine q _ _ _ ((st.trans st1).trans st2) (.tup upd_same ?_)
  have hc : cutV xs none (some (n : Int)) = xs.take n := by
    unfold cutV
    rw [HT.sIx_nat, HT.sIx_none, Nat.sub_zero, List.drop_zero, ← List.take_take, List.take_length]
  have r2 := (r.take n).mono st2.g
  rw [hc] at r2 ⊢
  exact r2
/-! ### in, not in -/
theorem inV_ints (n : Int) : ∀ ns : List Int, inV (.int n) (ns.map V.int) = ns.contains n
  | [] => rfl
  | m :: ns => by
    have ih := inV_ints n ns
    unfold inV at ih ⊢
    rw [List.map_cons, List.any_cons, ih, List.contains_cons]
    show (m == n || _) = (n == m || _)
    rw [Bool.beq_comm]
theorem flat_ints : ∀ ns : List Int, (ns.map V.int).all flatV = true
  | [] => rfl
  | _ :: ns => by
    rw [List.map_cons, List.all_cons, flat_ints ns]
    rfl
theorem px_inT {ns : List Int} (ha : PX c a δ (.p (.int i))) (hb : PX c b δ (.p (.tuple (ns.map PyData.int)))) : PXC c .In a b δ ((ns.contains i)) := fun X f => by
  refine PC.weak (pc_of op_in_seq (ha X f) (hb X f)) fun σ H Q ⟨W, G, e, q⟩ => tXop e fun v1 v2 G2 H2 st r1 r2 => ?_
  obtain ⟨p, xs, rfl, hp, r⟩ := rs_tup r2
  rw [rs_int r1]
  rw [r.ints] at hp
  refine ⟨p, _, rfl, .inr (SqT.of (st.gh _ _ hp)), rfl, flat_ints ns, ?_⟩
  rw [inV_ints]
  exact q _ G2 H2 st (.bl _)
theorem px_inL {ns : List Int} (ha : PX c a δ (.p (.int i))) (hb : PX c b δ (.p (.list (ns.map PyData.int)))) : PXC c .In a b δ ((ns.contains i)) := fun X f => by
  refine PC.weak (pc_of op_in_seq (ha X f) (hb X f)) fun σ H Q ⟨W, G, e, q⟩ => tXop e fun v1 v2 G2 H2 st r1 r2 => ?_
  obtain ⟨p, xs, rfl, hp, r⟩ := rs_lst r2
  rw [rs_int r1]
  rw [r.ints] at hp
  refine ⟨p, _, rfl, .inl (SqL.of (st.gh _ _ hp)), rfl, flat_ints ns, ?_⟩
  rw [inV_ints]
  exact q _ G2 H2 st (.bl _)
theorem px_niT {ns : List Int} (ha : PX c a δ (.p (.int i))) (hb : PX c b δ (.p (.tuple (ns.map PyData.int)))) : PXC c .NotIn a b δ ((!ns.contains i)) := fun X f => by
  refine PC.weak (pc_of op_notIn_seq (ha X f) (hb X f)) fun σ H Q ⟨W, G, e, q⟩ => tXop e fun v1 v2 G2 H2 st r1 r2 => ?_
  obtain ⟨p, xs, rfl, hp, r⟩ := rs_tup r2
  rw [rs_int r1]
  rw [r.ints] at hp
  refine ⟨p, _, rfl, .inr (SqT.of (st.gh _ _ hp)), rfl, flat_ints ns, ?_⟩
  rw [if_pos rfl, inV_ints]
  exact q _ G2 H2 st (.bl _)
theorem px_niL {ns : List Int} (ha : PX c a δ (.p (.int i))) (hb : PX c b δ (.p (.list (ns.map PyData.int)))) : PXC c .NotIn a b δ ((!ns.contains i)) := fun X f => by
  refine PC.weak (pc_of op_notIn_seq (ha X f) (hb X f)) fun σ H Q ⟨W, G, e, q⟩ => tXop e fun v1 v2 G2 H2 st r1 r2 => ?_
  obtain ⟨p, xs, rfl, hp, r⟩ := rs_lst r2
  rw [rs_int r1]
  rw [r.ints] at hp
  refine ⟨p, _, rfl, .inl (SqL.of (st.gh _ _ hp)), rfl, flat_ints ns, ?_⟩
  rw [if_pos rfl, inV_ints]
  exact q _ G2 H2 st (.bl _)
/-- a tuple of ints in a list of such -/
theorem px_inDL {n : List Int} {ts : List (List Int)} (ha : PX c a δ (.p (tupI n))) (hb : PX c b δ (.p (.list (ts.map tupI)))) : PXC c .In a b δ ((decide (n ∈ ts))) := fun X f => by
  refine PC.weak (pc_of (op_inD (by have := f.room.un; omega)) (ha X f) (hb X f)) fun σ H Q ⟨W, G, e, q⟩ => tXop e fun v1 v2 G2 H2 st r1 r2 => ?_
  refine ⟨_, _, (Rp.mono st.gh r1).dp, (Rp.mono st.gh r2).dp, shaped_tupI n, shaped_tups ts, ?_⟩
  have z : ((ts.map tupI).any fun z => PyData.eqv z (tupI n)) = decide (n ∈ ts) := by
    rw [List.any_map]
    have : ((fun z => PyData.eqv z (tupI n)) ∘ tupI) = fun t => decide (t = n) := by
      funext t
      exact eqv_tupI t n
    rw [this]
    apply Bool.eq_iff_iff.mpr
    simp
  rw [z]
  exact q _ G2 H2 st (.bl _)
/-! ### xs + ys -/
theorem px_cat {ds es : List PyData} (ha : PX c a δ (.p (.list ds))) (hb : PX c b δ (.p (.list es))) (hl : ds.length + es.length ≤ 100000) : PX c (.BinOp a .Add b pos) δ (.p (.list (ds ++ es))) := fun X f => by
  refine PE.weak (pe_op op_cat (ha X f) (hb X f)) fun σ H Q ⟨W, G, e, q⟩ => tXop e fun v1 v2 G2 H2 st r1 r2 => ?_
  obtain ⟨p, xs, rfl, hp, r⟩ := rs_lst r1
  obtain ⟨p', xs', rfl, hp', r'⟩ := rs_lst r2
  refine ⟨p, p', xs, xs', rfl, rfl, st.gh _ _ hp, st.gh _ _ hp', ?_, fun u hu => ?_⟩
  · rw [r.length, r'.length]
    exact Nat.le_trans hl (by decide)
  have st2 : Step G2 H2 (upd G2 u (.lst (xs ++ xs'))) (upd H2 u (.lst (xs ++ xs'))) := Step.new st.gh hu
  exact q _ _ _ (st.trans st2) (.lst upd_same ((r.append r').mono st2.g))
end
end M
namespace M
open L2 PyProof.Rows PySem.Spec PySem
/-- a global name of the def -/
abbrev GlN (c : CF) (x : Str) : Prop := c.sc.names.lookup x = some .globalImplicit
theorem RS.re {H0 H0' G H : Hp} {v : V} : ∀ {s : Sl}, s.own = false → RS H0 G H v s → RS H0' G H v s
  | .p _, _, h => h
  | .t _, _, h => h
  | .x _, _, h => h
  | .f _, _, h => h
theorem RSA.re {H0 H0' G H : Hp} : ∀ {vs ss}, (∀ s ∈ ss, Sl.own s = false) → RSA H0 G H vs ss → RSA H0' G H vs ss
  | _, _, _, .nil => .nil
  | _, _, n, .cons h r => .cons (h.re (n _ List.mem_cons_self)) (r.re fun s m => n s (List.mem_cons_of_mem _ m))
/-- a def's promise by data: called with ss it gives s -/
def FR (R : List Sl → Sl → Prop) : Sp := fun vs H Q _ => ∃ (G : Hp) (ss : List Sl) (s : Sl), Ex G H ∧ RSA H G H vs ss ∧ R ss s ∧ ∀ v G' H', Step G H G' H' → RS H G' H' v s → Q v H'
structure Fn (P : Program) (w : World) (K : PySem.W.Frag) (mg : Str → Option Value) (base : Heap) (x : Str) (R : List Sl → Sl → Prop) (k : Nat) : Prop where
  ex : ∃ (f : Addr) (fd : FuncData) (ps : List Str), FnOk P w K mg base CX0 k f fd ps (FR R) ∧ mg x = some (.ref f) ∧ PySem.W.keepIn K (.ref f) = true ∧ Binds K fd ps []
theorem Fn.mono {P : Program} {w : World} {K : PySem.W.Frag} {mg : Str → Option Value} {base : Heap} {x : Str} {R : List Sl → Sl → Prop} {k k' : Nat} (F : Fn P w K mg base x R k) (h : k ≤ k') : Fn P w K mg base x R k' := by
  obtain ⟨f, fd, ps, a, b, c, d⟩ := F.ex
  exact ⟨f, fd, ps, a.mono h, b, c, d⟩
def slots (N : List Str) (ss : List Sl) : Dl := ss.map some ++ List.replicate (N.length - ss.length) none
theorem env_start {W : Wd} {G H : Hp} {N : List Str} {vs : List V} {ss : List Sl} (w : Wok W G H) (r : RSA W.H0 G H vs ss) (no : ∀ s ∈ ss, Sl.own s = false) : Env W G H (L2.start N vs) (slots N ss) := by
  have hl := r.length
  refine ⟨w, ?_, fun i s h => ?_, fun i j si sj l a b oa => ?_⟩
  · unfold L2.start slots
    simp [hl]
  · unfold slots at h
    have hi : i < ss.length := by
      by_cases z : i < ss.length
      · exact z
      · rw [List.getElem?_append_right (by simpa using z)] at h
        rw [List.getElem?_replicate] at h
        split at h <;> simp at h
    rw [List.getElem?_append_left (by simpa using hi), List.getElem?_map] at h
    have hs : ss[i]? = some s := by
      cases q : ss[i]? with
      | none => rw [q] at h; cases h
      | some t => rw [q] at h; rw [Option.some.inj (Option.some.inj h)]
    have get : ∀ {vs ss} {i : Nat}, RSA W.H0 G H vs ss → ss[i]? = some s → ∃ v, vs[i]? = some v ∧ RS W.H0 G H v s := by
      intro vs ss i r
      induction r generalizing i with
      | nil => intro h; simp at h
      | cons h r ih =>
        intro e
        cases i with
        | zero => exact ⟨_, rfl, (Option.some.inj e) ▸ h⟩
        | succ i => exact ih e
    obtain ⟨v, h1, h2⟩ := get r hs
    refine ⟨v, ?_, h2⟩
    unfold L2.start
    rw [List.getElem?_append_left (by rw [List.length_map]; exact lt_of_get h1), List.getElem?_map, h1]
    rfl
  · exfalso
    unfold slots at a
    have hi : i < ss.length := by
      by_cases z : i < ss.length
      · exact z
      · rw [List.getElem?_append_right (by simpa using z)] at a
        rw [List.getElem?_replicate] at a
        split at a <;> simp at a
    rw [List.getElem?_append_left (by simpa using hi), List.getElem?_map] at a
    cases q : ss[i]? with
    | none => rw [q] at a; cases a
    | some t =>
      rw [q] at a
      have z : t = si := Option.some.inj (Option.some.inj a)
      rw [← z, no t (List.mem_of_getElem? q)] at oa
      cases oa
theorem RSA.noown {G H : Hp} : ∀ {vs ss}, RSA H G H vs ss → ∀ s ∈ ss, Sl.own s = false
  | _, _, .nil, s, m => by cases m
  | _, _, .cons (s := t) h r, s, m => by
    rcases List.mem_cons.mp m with e | m
    · subst e
      cases s with
      | p d => rfl
      | t d => rfl
      | x d => rfl
      | f d => rfl
      | o ds =>
        obtain ⟨l, xs, _, h0, _, h1, _⟩ := h
        rw [h0] at h1; cases h1
      | u ds =>
        obtain ⟨l, xs, _, h0, _, h1, _⟩ := h
        rw [h0] at h1; cases h1
      | k ds =>
        obtain ⟨l, xs, _, h0, _, h1, _⟩ := h
        rw [h0] at h1; cases h1
    · exact RSA.noown r s m
/-- THE RULE of a def by data -/
theorem fn_mk {P : Program} {w : World} {K : PySem.W.Frag} {mg : Str → Option Value} {base : Heap} {x qual : Str} {st : Stmt} {f : Addr} {fd : FuncData} {N ps : List Str} {k : Nat} {R : List Sl → Sl → Prop}
    (F : L2.Fun K x qual st f fd) (S : FnScope N ps (defScope st)) (hm : mg x = some (.ref f)) (hb : Binds K fd ps []) (len : ∀ ss s, R ss s → ss.length = ps.length)
    (body : ∀ ss s, R ss s → PXB ⟨P, w, K, mg, base, N, defScope st, k, fun _ => true⟩ (defBody st) (slots N ss) (fun _ => s = .p .none) (fun s' => s' = s)) : Fn P w K mg base x R (k + 1) := by
  refine ⟨f, fd, ps, F.ok S (fun vs H Q E h => ?_) (fun cdv A outer s H vs Q E hr h => ?_), hm, F.kp, hb⟩
  · obtain ⟨G, ss, s, _, r, hR, _⟩ := h
    rw [r.length]
    exact len ss s hR
  · obtain ⟨G, ss, s', ex, r, hR, q⟩ := h
    refine ⟨_, body ss s' hR _ ⟨rfl, rfl, rfl, rfl, rfl, rfl, rfl, rfl, hr, fun _ _ => rfl, rfl⟩, ⟨fun _ => False, G, H⟩, G, ?_, ?_, ?_⟩
    · exact env_start ⟨Ex.refl _, ex, fun a o _ e => e, fun a e => e, fun a _ g => g, fun a z => z.elim, fun a z => z.elim⟩ r r.noown
    · intro δ' G' H' σ' e' _ hs
      exact q .non G' H' ⟨e'.w.g, fun a o z => e'.w.h a o (fun z => z) z, e'.w.gh, fun a h0 g => e'.w.nw a h0 g⟩ (by rw [hs]; exact .non)
    · intro v s2 G' H' w' r' hs
      rw [hs] at r'
      exact q v G' H' ⟨w'.g, fun a o z => w'.h a o (fun z => z) z, w'.gh, fun a h0 g => w'.nw a h0 g⟩ r'
theorem noown_all {ss : List Sl} (h : ss.all (fun t => !t.own) = true) : ∀ t ∈ ss, Sl.own t = false := fun t m => by
  have := List.all_eq_true.mp h t m
  simpa using this
section
variable {c : CF} {δ : Dl} {a b e t : Expr} {pos p2 : Pos} {i j : Int} {s : Sl}
/-- a def's call -/
theorem px_call {x : Str} {es : List Expr} {ss : List Sl} {R : List Sl → Sl → Prop} {k : Nat} (F : Fn c.P c.w c.K c.mg c.base x R k) (hk : k ≤ c.k) (hg : GlN c x) (ha : PXA c (e :: es) δ ss) (hR : R ss s) (no : ss.all (fun t => !t.own) = true)
    (he : ∀ env, starEach (e :: es) env = (false, eval e env) :: starEach es env) (hpl : ∀ env, (backTo pos (starEach es env)).any (·.1) = false) (hdb : (x == ("__debug__" : Str)) = false := by decide) (so : s.own = false := by rfl) : PX c (.Call (.Name x p2) (e :: es) [] pos) δ s := fun X f => by
  obtain ⟨fa, fd, ps, F, hm, kp, hb⟩ := F.ex
  have F' : FnOk X.prog X.w X.K X.mg X.base CX0 k fa fd ps (FR R) := by rw [f.P, f.w, f.K, f.mg, f.base]; exact F
  refine PE.weak (pe_call F' (f.room.mono hk) (show X.env.scope.names.lookup x = _ by rw [f.sc]; exact hg) (by rw [f.mg]; exact hm) (by rw [f.K]; exact kp) (by rw [f.K]; exact hb) .nil pass0 (ha X f) hdb (he X.env) (hpl X.env)) fun σ H Q ⟨W, G, e, q⟩ => ⟨W, G, e, fun vs G1 H1 st r => ?_⟩
  refine ⟨G1, ss, s, st.gh, by rw [List.append_nil]; exact r.re (noown_all no), hR, fun v G' H' st2 r2 => ?_⟩
  exact q v G' H' (st.trans st2) (r2.re so)
/-! ### built-ins -/
/-- of one argument, by what it gives for a value -/
theorem px_b1 {x : Str} {id : String} {r : Cx → List V → Hp → VK → Prop} {s' : Sl} (hc : ∀ X, Fam c X → CallR X (.builtin id) (r X)) (hv : bootBuiltins x = some (.builtin id)) (hm : c.mg x = none) (hg : GlN c x) (ha : PX c a δ s')
    (h : ∀ X, Fam c X → ∀ (W : Wd) (G H : Hp) (σ : L2.St) v (Q : VK), Env W G H σ δ → RS W.H0 G H v s' → (∀ v2 G2 H2, Step G H G2 H2 → RS W.H0 G2 H2 v2 s → Q v2 H2) → r X [v] H Q)
    (na : ∀ env, starEach [a] env = (false, eval a env) :: starEach [] env) (hn : x ≠ "__name__" := by decide) (hdb : (x == ("__debug__" : Str)) = false := by decide) : PX c (.Call (.Name x p2) [a] [] pos) δ s := fun X f => by
  refine PE.weak (pe_callB (hc X f) (show X.env.scope.names.lookup x = _ by rw [f.sc]; exact hg) (by rw [f.mg]; exact hm) hv (pa_cons (ha X f) pa_nil (na X.env)) hn hdb (na X.env)) fun σ H Q ⟨W, G, e, q⟩ => ⟨W, G, e, fun v G1 H1 st r1 => ?_⟩
  exact h X f W G1 H1 σ v Q (e.step st) r1 fun v2 G2 H2 st2 r2 => q v2 G2 H2 (st.trans st2) r2
theorem px_t1 {x : Str} {T : String} {r : Cx → List V → Hp → VK → Prop} {s' : Sl} (hc : ∀ X, Fam c X → CallR X (.type T) (r X)) (hv : bootBuiltins x = some (.type T)) (hm : c.mg x = none) (hg : GlN c x) (ha : PX c a δ s')
    (h : ∀ X, Fam c X → ∀ (W : Wd) (G H : Hp) (σ : L2.St) v (Q : VK), Env W G H σ δ → RS W.H0 G H v s' → (∀ v2 G2 H2, Step G H G2 H2 → RS W.H0 G2 H2 v2 s → Q v2 H2) → r X [v] H Q)
    (na : ∀ env, starEach [a] env = (false, eval a env) :: starEach [] env) (hn : x ≠ "__name__" := by decide) (hdb : (x == ("__debug__" : Str)) = false := by decide) : PX c (.Call (.Name x p2) [a] [] pos) δ s := fun X f => by
  refine PE.weak (pe_callTy (hc X f) (show X.env.scope.names.lookup x = _ by rw [f.sc]; exact hg) (by rw [f.mg]; exact hm) hv (pa_cons (ha X f) pa_nil (na X.env)) hn hdb (na X.env)) fun σ H Q ⟨W, G, e, q⟩ => ⟨W, G, e, fun v G1 H1 st r1 => ?_⟩
  exact h X f W G1 H1 σ v Q (e.step st) r1 fun v2 G2 H2 st2 r2 => q v2 G2 H2 (st.trans st2) r2
theorem px_lenL {ds : List PyData} (hm : c.mg "len" = none) (hg : GlN c "len") (ha : PX c a δ (.p (.list ds))) (na : ∀ env, starEach [a] env = (false, eval a env) :: starEach [] env) : PX c (.Call (.Name "len" p2) [a] [] pos) δ (.p (.int (ds.length : Nat))) := by
  refine px_b1 (id := "len") (fun X f => call_len_seq) boot_len hm hg ha ?_ na
  intro X f W G H σ v Q e r k
  obtain ⟨p, xs, rfl, hp, ra⟩ := rs_lst r
  refine ⟨p, xs, rfl, .inl (SqL.of (e.w.gh _ _ hp)), ?_⟩
  rw [ra.length]
  exact k _ G H (Step.refl e.w.gh) (.int _)
theorem px_lenT {ds : List PyData} (hm : c.mg "len" = none) (hg : GlN c "len") (ha : PX c a δ (.p (.tuple ds))) (na : ∀ env, starEach [a] env = (false, eval a env) :: starEach [] env) : PX c (.Call (.Name "len" p2) [a] [] pos) δ (.p (.int (ds.length : Nat))) := by
  refine px_b1 (id := "len") (fun X f => call_len_seq) boot_len hm hg ha ?_ na
  intro X f W G H σ v Q e r k
  obtain ⟨p, xs, rfl, hp, ra⟩ := rs_tup r
  refine ⟨p, xs, rfl, .inr (SqT.of (e.w.gh _ _ hp)), ?_⟩
  rw [ra.length]
  exact k _ G H (Step.refl e.w.gh) (.int _)
theorem px_lenO {ds : List PyData} (hm : c.mg "len" = none) (hg : GlN c "len") (ha : PX c a δ (.o ds)) (na : ∀ env, starEach [a] env = (false, eval a env) :: starEach [] env) : PX c (.Call (.Name "len" p2) [a] [] pos) δ (.p (.int (ds.length : Nat))) := by
  refine px_b1 (id := "len") (fun X f => call_len_seq) boot_len hm hg ha ?_ na
  intro X f W G H σ v Q e r k
  obtain ⟨p, xs, rfl, _, _, hp, ra⟩ := r
  refine ⟨p, xs, rfl, .inl (SqL.of hp), ?_⟩
  rw [ra.length]
  exact k _ G H (Step.refl e.w.gh) (.int _)
theorem px_abs (hm : c.mg "abs" = none) (hg : GlN c "abs") (ha : PX c a δ (.p (.int i))) (na : ∀ env, starEach [a] env = (false, eval a env) :: starEach [] env) : PX c (.Call (.Name "abs" p2) [a] [] pos) δ (.p (.int (i.natAbs : Int))) := by
  refine px_b1 (id := "abs") (fun X f => call_abs) (by decide +kernel) hm hg ha ?_ na
  intro X f W G H σ v Q e r k
  rw [rs_int r]
  refine ⟨i, rfl, ?_⟩
  have z : (if i < 0 then -i else i) = (i.natAbs : Int) := by split <;> omega
  rw [z]
  exact k _ G H (Step.refl e.w.gh) (.int _)
theorem px_int1 (hm : c.mg "int" = none) (hg : GlN c "int") (ha : PX c a δ (.p (.int i))) (na : ∀ env, starEach [a] env = (false, eval a env) :: starEach [] env) : PX c (.Call (.Name "int" p2) [a] [] pos) δ (.p (.int i)) := by
  refine px_t1 (T := "int") (fun X f => call_int1) (by decide +kernel) hm hg ha ?_ na
  intro X f W G H σ v Q e r k
  rw [rs_int r]
  exact .inl ⟨i, rfl, k _ G H (Step.refl e.w.gh) (.int _)⟩
theorem px_max {ns : List Int} {m : Int} (hm : c.mg "max" = none) (hg : GlN c "max") (ha : PX c a δ (.p (.list (ns.map PyData.int)))) (h1 : m ∈ ns) (h2 : ∀ y ∈ ns, y ≤ m) (na : ∀ env, starEach [a] env = (false, eval a env) :: starEach [] env) : PX c (.Call (.Name "max" p2) [a] [] pos) δ (.p (.int m)) := by
  refine px_b1 (id := "max") (fun X f => cr_max f.calm) (by decide +kernel) hm hg ha ?_ na
  intro X f W G H σ v Q e r k
  obtain ⟨p, xs, rfl, hp, ra⟩ := rs_lst r
  rw [ra.ints] at hp
  refine ⟨p, ns, rfl, SqL.of (e.w.gh _ _ hp), List.length_pos_of_mem h1, fun m' h1' h2' => ?_⟩
  have z : m' = m := Int.le_antisymm (h2 _ h1') (h2' _ h1)
  rw [z]
  exact k _ G H (Step.refl e.w.gh) (.int _)
/-- list(xs) -/
theorem px_listL {ds : List PyData} (hm : c.mg "list" = none) (hg : GlN c "list") (ha : PX c a δ (.p (.list ds))) (na : ∀ env, starEach [a] env = (false, eval a env) :: starEach [] env) : PX c (.Call (.Name "list" p2) [a] [] pos) δ (.p (.list ds)) := by
  refine px_t1 (T := "list") (fun X f => call_list_of) (by decide +kernel) hm hg ha ?_ na
  intro X f W G H σ v Q e r k
  obtain ⟨p, xs, rfl, hp, ra⟩ := rs_lst r
  refine ⟨p, xs, rfl, .inl (SqL.of (e.w.gh _ _ hp)), fun l hl => ?_⟩
  have st : Step G H (upd G l (.lst xs)) (upd H l (.lst xs)) := Step.new e.w.gh hl
  exact k _ _ _ st (.lst upd_same (ra.mono st.g))
theorem px_listT {ds : List PyData} (hm : c.mg "list" = none) (hg : GlN c "list") (ha : PX c a δ (.p (.tuple ds))) (na : ∀ env, starEach [a] env = (false, eval a env) :: starEach [] env) : PX c (.Call (.Name "list" p2) [a] [] pos) δ (.p (.list ds)) := by
  refine px_t1 (T := "list") (fun X f => call_list_of) (by decide +kernel) hm hg ha ?_ na
  intro X f W G H σ v Q e r k
  obtain ⟨p, xs, rfl, hp, ra⟩ := rs_tup r
  refine ⟨p, xs, rfl, .inr (SqT.of (e.w.gh _ _ hp)), fun l hl => ?_⟩
  have st : Step G H (upd G l (.lst xs)) (upd H l (.lst xs)) := Step.new e.w.gh hl
  exact k _ _ _ st (.lst upd_same (ra.mono st.g))
/-- tuple(xs) -/
theorem px_tupleL {ds : List PyData} (hm : c.mg "tuple" = none) (hg : GlN c "tuple") (ha : PX c a δ (.p (.list ds))) (na : ∀ env, starEach [a] env = (false, eval a env) :: starEach [] env) : PX c (.Call (.Name "tuple" p2) [a] [] pos) δ (.p (.tuple ds)) := by
  refine px_t1 (T := "tuple") (fun X f => call_tuple_of) (by decide +kernel) hm hg ha ?_ na
  intro X f W G H σ v Q e r k
  obtain ⟨p, xs, rfl, hp, ra⟩ := rs_lst r
  refine ⟨p, xs, rfl, .inl ⟨SqL.of (e.w.gh _ _ hp), fun l hl => ?_⟩⟩
  have st : Step G H (upd G l (.tup xs)) (upd H l (.tup xs)) := Step.new e.w.gh hl
  exact k _ _ _ st (.tup upd_same (ra.mono st.g))
/-! ### isinstance(x, T), T a built-in class by its name -/
def tyD : PyData → String
  | .none => "NoneType"
  | .bool _ => "bool"
  | .int _ => "int"
  | .str _ => "str"
  | .list _ => "list"
  | .tuple _ => "tuple"
  | .dict _ => "dict"
theorem Rp.ty {K : PySem.W.Frag} {H : Hp} {v : V} {d : PyData} (h : Rp H v d) : TyX K H v (.type (tyD d)) := by
  cases h with
  | non => exact .base .non
  | bl b => exact .base (.bl b)
  | int i => exact .base (.int i)
  | lst h r => exact .base (.lst h)
  | tup h r => exact .base (.tup h)
/-- a built-in class as a value -/
theorem px_cls {x : Str} {T : String} (hm : c.mg x = none) (hg : GlN c x) (hv : bootBuiltins x = some (.type T)) (hn : x ≠ "__name__" := by decide) (hd : (x == ("__debug__" : Str)) = false := by decide) : PX c (.Name x pos) δ (.x (.ty T)) := fun X f =>
  PE.weak (pe_bltn (v := .ty T) (u := .type T) (show X.env.scope.names.lookup x = _ by rw [f.sc]; exact hg) (by rw [f.mg]; exact hm) hv rfl hn hd) fun σ H Q ⟨W, G, e, q⟩ => q _ G H (Step.refl e.w.gh) rfl
theorem px_isi {d : PyData} {T : String} {r : Bool} (hm : c.mg "isinstance" = none) (hg : GlN c "isinstance") (ha : PX c a δ (.p d)) (hb : PX c b δ (.x (.ty T))) (hk : kitB (tyD d) T = some r)
    (na : ∀ env, starEach [a, b] env = (false, eval a env) :: starEach [b] env) (nb : ∀ env, starEach [b] env = (false, eval b env) :: starEach [] env) (hpl : ∀ env, (backTo pos (starEach [b] env)).any (·.1) = false) : PX c (.Call (.Name "isinstance" p2) [a, b] [] pos) δ (.p (.bool r)) := fun X f => by
  refine PE.weak (pe_callB call_isi (show X.env.scope.names.lookup _ = _ by rw [f.sc]; exact hg) (by rw [f.mg]; exact hm) (by decide +kernel) (pa_cons (ha X f) (pa_cons (hb X f) pa_nil (nb X.env)) (na X.env)) (by decide) (by decide) (na X.env) (hpl X.env)) fun σ H Q ⟨W, G, e, q⟩ => ⟨W, G, e, fun v G1 H1 st r1 => ⟨W, G1, e.step st, fun v2 G2 H2 st2 r2 => ?_⟩⟩
  obtain rfl : v2 = .ty T := r2
  refine ⟨v, .ty T, _, _, r, rfl, .ty T, (Rp.mono (st2.g.trans st2.gh) r1).ty, kit_ty hk, q _ G2 H2 (st.trans st2) (.bl _)⟩
/-- isinstance(x, (S, T)) -/
theorem px_isi2 {d : PyData} {S T : String} {r1 r2 : Bool} {e1 e2 : Expr} {k : Nat} {p3 : Pos} (hm : c.mg "isinstance" = none) (hg : GlN c "isinstance") (ha : PX c a δ (.p d)) (h1 : PX c e1 δ (.x (.ty S))) (h2 : PX c e2 δ (.x (.ty T))) (hk1 : kitB (tyD d) S = some r1) (hk2 : kitB (tyD d) T = some r2)
    (na : ∀ env, starEach [a, .Tuple [e1, e2] k p3] env = (false, eval a env) :: starEach [.Tuple [e1, e2] k p3] env) (nb : ∀ env, starEach [.Tuple [e1, e2] k p3] env = (false, eval (.Tuple [e1, e2] k p3) env) :: starEach [] env) (hpl : ∀ env, (backTo pos (starEach [.Tuple [e1, e2] k p3] env)).any (·.1) = false)
    (n1 : ∀ env, starEach [e1, e2] env = (false, eval e1 env) :: starEach [e2] env) (n2 : ∀ env, starEach [e2] env = (false, eval e2 env) :: starEach [] env) : PX c (.Call (.Name "isinstance" p2) [a, .Tuple [e1, e2] k p3] [] pos) δ (.p (.bool (r1 || r2))) := fun X f => by
  refine PE.weak (pe_callB call_isiT (show X.env.scope.names.lookup _ = _ by rw [f.sc]; exact hg) (by rw [f.mg]; exact hm) (by decide +kernel) (pa_cons (ha X f) (pa_cons (pe_tup (pa_cons (h1 X f) (pa_cons (h2 X f) pa_nil (n2 X.env)) (n1 X.env))) pa_nil (nb X.env)) (na X.env)) (by decide) (by decide) (na X.env) (hpl X.env)) fun σ H Q ⟨W, G, e, q⟩ => ⟨W, G, e, fun v G1 H1 st r => ⟨W, G1, e.step st, fun v2 G2 H2 st2 r2 => ⟨W, G2, (e.step st).step st2, fun v3 G3 H3 st3 r3 => ?_⟩⟩⟩
  obtain rfl : v2 = .ty S := r2
  obtain rfl : v3 = .ty T := r3
  refine ⟨by show 2 ≤ sizeLine; decide, fun u hu => ?_⟩
  have st4 : Step G3 H3 G3 (upd H3 u (.tup [.ty S, .ty T])) := Step.grow st3.gh (Ex.new hu)
  have sa := (st2.trans st3).trans st4
  refine ⟨v, u, [.ty S, .ty T], .type (tyD d), [.type S, .type T], _, rfl, upd_same, .cons (.ty S) (.cons (.ty T) .nil), (Rp.mono (sa.g.trans sa.gh) r).ty, ?_, q _ _ _ (st.trans sa) (.bl _)⟩
  refine kitAny_cons (kit_ty hk1) (fun z => ?_) (fun z => by rw [z]; rfl)
  rw [z, Bool.false_or]
  refine kitAny_cons (kit_ty hk2) (fun z2 => ?_) (fun z2 => z2)
  rw [z2]
  exact kitAny_nil
end
end M
namespace M
open L2 PyProof.Rows PySem.Spec PySem
/-- an environment of a scope -/
def envS (sc : Scope) : PySem.Env := { scope := sc, locals := 0, globals := 0, cells := [] }
theorem swapped_env (ts : List Expr) (v : Expr) (env : PySem.Env) : swappedStores ts v env = swappedStores ts v (envS env.scope) := rfl
theorem Fam.swap {c : CF} {X : Cx} (f : Fam c X) {ts : List Expr} {v : Expr} {r : Sem (Option (List Str))} (h : swappedStores ts v (envS c.sc) = r) : swappedStores ts v X.env = r := by
  rw [swapped_env, f.sc]; exact h
section
variable {c : CF} {δ δ1 δ2 δ' : Dl} {a b e t tg : Expr} {pos p2 p3 : Pos} {i j : Int} {s : Sl} {nx nx1 : Dl → Prop} {rt : Sl → Prop} {st : Stmt} {sts : List Stmt} {n : Nat} {d : PyData} {ns : List Nat}
/-! ### blocks -/
theorem pxb_nil (h : nx δ) : PXB c [] δ nx rt := fun X f => PSs.weak pss_nil fun D σ H ⟨W, G, e, q, _⟩ => q δ G H σ e (Ex.refl _) h
theorem pxb_cons (h1 : PXS c st δ nx1 rt) (h2 : ∀ δ', nx1 δ' → PXB c sts δ' nx rt) : PXB c (st :: sts) δ nx rt := fun X f => by
  have h2' : PSs X sts (fun D σ H => ∃ δ', nx1 δ' ∧ tXS δ' nx rt D σ H) := ⟨fun pins s σ H D I ⟨δ', n1, q⟩ => (h2 δ' n1 X f).run pins s σ H D I q⟩
  refine PSs.weak (pss_cons (h1 X f) h2') fun D σ H ⟨W, G, e, q, r⟩ => ⟨W, G, e, fun δ1 G1 H1 σ1 e1 x1 n1 => ⟨δ1, n1, W, G1, e1, fun δ2 G2 H2 σ2 e2 x2 n2 => q δ2 G2 H2 σ2 e2 (x1.trans x2) n2, r⟩, r⟩
theorem pxb_seq (h1 : PXS c st δ (fun d => d = δ1) rt) (h2 : PXB c sts δ1 nx rt) : PXB c (st :: sts) δ nx rt := pxb_cons h1 fun δ' z => by rw [z]; exact h2
theorem PXS.weak (h : PXS c st δ nx1 rt) (w : ∀ δ', nx1 δ' → nx δ') : PXS c st δ nx rt := fun X f => PS.weak (h X f) fun D σ H ⟨W, G, e, q, r⟩ => ⟨W, G, e, fun δ' G' H' σ' e' x' n' => q δ' G' H' σ' e' x' (w δ' n'), r⟩
theorem PXB.weak (h : PXB c sts δ nx1 rt) (w : ∀ δ', nx1 δ' → nx δ') : PXB c sts δ nx rt := fun X f => PSs.weak (h X f) fun D σ H ⟨W, G, e, q, r⟩ => ⟨W, G, e, fun δ' G' H' σ' e' x' n' => q δ' G' H' σ' e' x' (w δ' n'), r⟩
theorem pxb_one (h : PXS c st δ nx rt) : PXB c [st] δ nx rt := pxb_cons h fun δ' z => pxb_nil z
/-- what is known may be forgotten -/
theorem pxb_drop (h : PXB c sts δ' nx rt) (hl : δ'.length = δ.length) (hi : ∀ (i : Nat) (s : Sl), δ'[i]? = some (some s) → δ[i]? = some (some s)) : PXB c sts δ nx rt := fun X f => PSs.weak (h X f) fun D σ H ⟨W, G, e, q, r⟩ => ⟨W, G, e.drop hl hi, q, r⟩
/-- a list of the def's own is no longer to grow -/
theorem Env.freeze {W : Wd} {G H : Hp} {σ : L2.St} {ds : List PyData} (e : Env W G H σ δ) (h : δ[n]? = some (some (.o ds))) : ∃ G', Ex G G' ∧ Env W G' H σ (δ.set n (some (.p (.list ds)))) := by
  obtain ⟨v, hv, l, xs, rfl, h0, hg, hh, r⟩ := e.at_ n _ h
  have xg : Ex G (upd G l (.lst xs)) := Ex.new hg
  refine ⟨upd G l (.lst xs), xg, ⟨e.w.g.trans xg, fun a u q => ?_, e.w.h, e.w.dom, fun a h1 h2 => ?_, e.w.m, e.w.mt⟩, by rw [List.length_set]; exact e.len, fun k s hs => ?_, fun k m sk sm u hk hm ok om ek em => ?_⟩
  · by_cases z : a = l
    · subst z; rw [upd_same] at q; rw [← q]; exact hh
    · rw [upd_ne z] at q; exact e.w.gh a u q
  · have z : a ≠ l := fun z => h1.ne (z ▸ h0)
    rw [upd_ne z]; exact e.w.nw a h1 h2
  · by_cases z : n = k
    · subst z
      have hl := lt_of_get h
      rw [List.getElem?_set_self hl] at hs
      have hs' := Option.some.inj (Option.some.inj hs)
      subst hs'
      exact ⟨_, hv, .lst upd_same (r.mono xg)⟩
    · rw [List.getElem?_set_ne z] at hs
      obtain ⟨w, hw, rw_⟩ := e.at_ k s hs
      refine ⟨w, hw, ?_⟩
      have other : ∀ l', w = .ref l' → s.own = true → l' ≠ l := fun l' ew os q => z (e.sep n k _ s l h hs rfl os hv (by rw [hw, ew, q]))
      cases s with
      | p d => exact Rp.mono xg rw_
      | x d => exact rw_
      | f tb =>
        obtain ⟨a, od, kvs, e1, e2, e3⟩ := rw_
        exact ⟨a, od, kvs, e1, xg _ _ e2, e3.mono xg⟩
      | t tb =>
        obtain ⟨a, kvs, e1, e2, e3⟩ := rw_
        exact ⟨a, kvs, e1, xg _ _ e2, e3.mono xg⟩
      | o ds =>
        obtain ⟨l', ys, e1, e2, e3, e4, e5⟩ := rw_
        exact ⟨l', ys, e1, e2, by rw [upd_ne (other l' e1 rfl)]; exact e3, e4, e5.mono xg⟩
      | u ds =>
        obtain ⟨l', ys, e1, e2, e3, e4, e5⟩ := rw_
        exact ⟨l', ys, e1, e2, by rw [upd_ne (other l' e1 rfl)]; exact e3, e4, e5.mono xg⟩
      | k ds =>
        obtain ⟨l', ys, e1, e2, e3, e4, e5⟩ := rw_
        exact ⟨l', ys, e1, e2, by rw [upd_ne (other l' e1 rfl)]; exact e3, e4, e5.mono xg⟩
  · have nk : n ≠ k := fun z => by
      subst z
      rw [List.getElem?_set_self (lt_of_get h)] at hk
      rw [← Option.some.inj (Option.some.inj hk)] at ok
      cases ok
    have nm : n ≠ m := fun z => by
      subst z
      rw [List.getElem?_set_self (lt_of_get h)] at hm
      rw [← Option.some.inj (Option.some.inj hm)] at om
      cases om
    rw [List.getElem?_set_ne nk] at hk
    rw [List.getElem?_set_ne nm] at hm
    exact e.sep k m sk sm u hk hm ok om ek em
theorem pxb_freeze {ds : List PyData} (hn : δ[n]? = some (some (.o ds))) (h : PXB c sts (δ.set n (some (.p (.list ds)))) nx rt) : PXB c sts δ nx rt := fun X f => PSs.weak (h X f) fun D σ H ⟨W, G, e, q, r⟩ => by
  obtain ⟨G', x', e'⟩ := e.freeze hn
  exact ⟨W, G', e', fun δ' G2 H2 σ2 e2 x2 n2 => q δ' G2 H2 σ2 e2 (x'.trans x2) n2, r⟩
/-- .. it is lent for an expression whose value is flat -/
def flatD : PyData → Bool
  | .none => true
  | .bool _ => true
  | .int _ => true
  | _ => false
theorem rp_flat {G G' : Hp} {v : V} (fd : flatD d = true) (h : Rp G v d) : Rp G' v d := by
  cases h with
  | non => exact .non
  | bl b => exact .bl b
  | int i => exact .int i
  | lst h r => cases fd
  | tup h r => cases fd
theorem px_lend {ds : List PyData} (hn : δ[n]? = some (some (.o ds))) (h : PX c e (δ.set n (some (.p (.list ds)))) (.p d)) (fd : flatD d = true) : PX c e δ (.p d) := fun X f => PE.weak (h X f) fun σ H Q ⟨W, G, e, q⟩ => by
  obtain ⟨G', x', e'⟩ := e.freeze hn
  exact ⟨W, G', e', fun v G2 H2 st r => q v G H2 (Step.grow e.w.gh st.h) (rp_flat fd r)⟩
theorem pxt_lend {x : Bool} {ds : List PyData} (hn : δ[n]? = some (some (.o ds))) (h : PXT c e (δ.set n (some (.p (.list ds)))) x) : PXT c e δ x := fun X f => PT.weak (h X f) fun σ H Q ⟨W, G, e, q⟩ => by
  obtain ⟨G', x', e'⟩ := e.freeze hn
  exact ⟨W, G', e', fun G2 H2 st => q G H2 (Step.grow e.w.gh st.h)⟩
/-! ### small statements -/
theorem pxs_never (h : False) : PXS c st δ nx rt := h.elim
theorem pxs_ret (h : PX c e δ s) (hs : rt s) : PXS c (.Return (some e) pos) δ nx rt := fun X f => PS.weak (ps_ret (h X f)) fun D σ H ⟨W, G, e, q, r⟩ => ⟨W, G, e, fun v G1 H1 st r1 => r v s G1 H1 (e.w.step st) r1 hs⟩
theorem pxs_expr (h : PX c e δ s) (hs : ∀ env, swapsWith e none pos.line env = pure false) : PXS c (.Expr e pos) δ (fun d => d = δ) rt := fun X f => PS.weak (ps_expr (h X f) (hs X.env)) fun D σ H ⟨W, G, e, q, r⟩ => ⟨W, G, e, fun v G1 H1 st r1 => q δ G1 H1 σ (e.step st) st.g rfl⟩
theorem pxs_if {x : Bool} {b1 b2 : List Stmt} (ht : PXT c t δ x) (h1 : x = true → PXB c b1 δ nx rt) (h2 : x = false → PXB c b2 δ nx rt) : PXS c (.If t b1 b2 pos) δ nx rt := fun X f => by
  have h1' : PSs X b1 (fun D σ H => x = true ∧ tXS δ nx rt D σ H) := ⟨fun pins s σ H D I q => (h1 q.1 X f).run pins s σ H D I q.2⟩
  have h2' : PSs X b2 (fun D σ H => x = false ∧ tXS δ nx rt D σ H) := ⟨fun pins s σ H D I q => (h2 q.1 X f).run pins s σ H D I q.2⟩
  refine PS.weak (ps_if (ht X f) h1' h2') fun D σ H ⟨W, G, e, q, r⟩ => ⟨W, G, e, fun G1 H1 st => ?_⟩
  cases x with
  | true => exact iteT ⟨rfl, W, G1, e.step st, fun δ' G2 H2 σ2 e2 x2 n2 => q δ' G2 H2 σ2 e2 (st.g.trans x2) n2, r⟩
  | false => exact iteF ⟨rfl, W, G1, e.step st, fun δ' G2 H2 σ2 e2 x2 n2 => q δ' G2 H2 σ2 e2 (st.g.trans x2) n2, r⟩
/-- name = value -/
theorem pxs_set {x : Str} (hN : c.N.Nodup) (hi : c.N[n]? = some x) (hx : Loc c.sc x) (hf : c.own x = true ∨ c.sc.names.lookup x = some .local) (h : PX c e δ s) (so : s.own = false) (hs : ∀ env, swapsWith e (some (.Name x p2)) pos.line env = pure false) : PXS c (.Assign [.Name x p2] e pos) δ (fun d => d = δ.set n (some s)) rt := fun X f => by
  refine PS.weak (ps_set (i := n) (by rw [f.N]; exact hN) (by rw [f.N]; exact hi) (by rw [f.sc]; exact hx) (h X f) (hs X.env) (by rw [f.sc]; exact hf.imp (f.fn x) id)) fun D σ H ⟨W, G, e, q, r⟩ => ⟨W, G, e, fun v G1 H1 st r1 => ?_⟩
  exact q _ G1 H1 _ ((e.step st).setP r1 so) st.g rfl
/-- .. a new list or dict that is to grow -/
def PXN (c : CF) (e : Expr) (δ : Dl) (s : Sl) : Prop := ∀ X, Fam c X → PE X e (fun σ H Q => ∃ (W : Wd) (G : Hp), Env W G H σ δ ∧ ∀ v G' H', Step G H G' H' → RS W.H0 G' H' v s → (∀ l, v = .ref l → H l = none) → Q v H')
theorem pxn_lst {es : List Expr} {ds : List PyData} (ha : PXA c es δ (ds.map Sl.p)) (hl : ds.length ≤ 1000 := by exact Nat.le_of_ble_eq_true rfl) : PXN c (.List es pos) δ (.o ds) := fun X f => by
  refine PE.weak (pe_lst (ha X f)) fun σ H Q ⟨W, G, e, q⟩ => ⟨W, G, e, fun vs G1 H1 st r => ?_⟩
  have r' := r.data
  refine ⟨by rw [r'.length]; exact Nat.le_of_lt (small1000 hl), fun p hp => ?_⟩
  exact q _ _ _ (st.trans (Step.grow st.gh (Ex.new hp))) ⟨p, vs, rfl, (e.w.step st).dom p hp, none_of_ex st.gh hp, upd_same, r'⟩ fun l z => by
    have z' := V.ref.inj z
    subst z'
    exact none_of_ex st.h hp
theorem pxn_dictT : PXN c (.Dict [] [] pos) δ (.u []) := fun X f => by
  refine PE.weak pe_dnewT fun σ H Q ⟨W, G, e, q⟩ => fun p hp => ?_
  exact q _ _ _ (Step.grow e.w.gh (Ex.new hp)) ⟨p, [], rfl, e.w.dom p hp, none_of_ex e.w.gh hp, upd_same, .nil⟩ fun l z => by
    have z' := V.ref.inj z
    subst z'
    exact hp
theorem pxn_dictK : PXN c (.Dict [] [] pos) δ (.k []) := fun X f => by
  refine PE.weak pe_dnewK fun σ H Q ⟨W, G, e, q⟩ => fun p hp => ?_
  exact q _ _ _ (Step.grow e.w.gh (Ex.new hp)) ⟨p, [], rfl, e.w.dom p hp, none_of_ex e.w.gh hp, upd_same, .nil⟩ fun l z => by
    have z' := V.ref.inj z
    subst z'
    exact hp
theorem own_there {H0 G H : Hp} {l : Addr} : ∀ {s : Sl}, s.own = true → RS H0 G H (.ref l) s → H l ≠ none
  | .o _, _, ⟨_, _, e, _, _, h, _⟩ => by cases e; exact some_ne h
  | .u _, _, ⟨_, _, e, _, _, h, _⟩ => by cases e; exact some_ne h
  | .k _, _, ⟨_, _, e, _, _, h, _⟩ => by cases e; exact some_ne h
theorem Env.setN {W : Wd} {G H G1 H1 : Hp} {σ : L2.St} {v : V} (e : Env W G H σ δ) (st : Step G H G1 H1) (r : RS W.H0 G1 H1 v s) (nw : ∀ l, v = .ref l → H l = none) : Env W G1 H1 (σ.set n (some v)) (δ.set n (some s)) :=
  (e.step st).set r fun _ j sj l _ hj oj ev eσ => by
    obtain ⟨w, hw, rw_⟩ := e.at_ j sj hj
    rw [eσ] at hw
    have z := Option.some.inj (Option.some.inj hw)
    subst z
    exact own_there oj rw_ (nw l ev)
theorem pxs_setN {x : Str} (hN : c.N.Nodup) (hi : c.N[n]? = some x) (hx : Loc c.sc x) (hf : c.own x = true ∨ c.sc.names.lookup x = some .local) (h : PXN c e δ s) (hs : ∀ env, swapsWith e (some (.Name x p2)) pos.line env = pure false) : PXS c (.Assign [.Name x p2] e pos) δ (fun d => d = δ.set n (some s)) rt := fun X f => by
  refine PS.weak (ps_set (i := n) (by rw [f.N]; exact hN) (by rw [f.N]; exact hi) (by rw [f.sc]; exact hx) (h X f) (hs X.env) (by rw [f.sc]; exact hf.imp (f.fn x) id)) fun D σ H ⟨W, G, e, q, r⟩ => ⟨W, G, e, fun v G1 H1 st r1 nw => ?_⟩
  exact q _ G1 H1 _ (e.setN st r1 nw) st.g rfl
/-! ### targets -/
theorem pxg_name {x : Str} (hN : c.N.Nodup) (hi : c.N[n]? = some x) (hx : Loc c.sc x) (hf : c.own x = true ∨ c.sc.names.lookup x = some .local) : PXG c (.Name x pos) δ (δ.set n (some (.p d))) d [n] := fun X f =>
  PG.weak (pg_name (i := n) (by rw [f.N]; exact hN) (by rw [f.N]; exact hi) (by rw [f.sc]; exact hx) (by rw [f.sc]; exact hf.imp (f.fn x) id)) fun v σ H Q ⟨W, G, e, r, q⟩ => q _ (e.setP (s := .p d) r rfl) ⟨List.length_set, fun i hi => List.getElem?_set_ne (fun z => hi (by rw [z]; exact List.mem_singleton.mpr rfl))⟩
def tXGs (δ δ' : Dl) (ds : List PyData) (ns : List Nat) : TGs := fun vs σ H Q => ∃ (W : Wd) (G : Hp), Env W G H σ δ ∧ RpA G vs ds ∧ ∀ σ', Env W G H σ' δ' → But σ σ' ns → Q σ' H
def PXGs (c : CF) (ts : List Expr) (δ δ' : Dl) (ds : List PyData) (ns : List Nat) : Prop := ∀ X, Fam c X → PGs X ts (tXGs δ δ' ds ns)
theorem PGs.weak {X : Cx} {ts : List Expr} {t t' : TGs} (h : PGs X ts t) (w : ∀ v σ H Q, t' v σ H Q → t v σ H Q) : PGs X ts t' := ⟨fun pins s σ H v u Q I r q => h.run pins s σ H v u Q I r (w v σ H Q q)⟩
theorem pxgs_nil : PXGs c [] δ δ [] [] := fun X f => PGs.weak pgs_nil fun v σ H Q ⟨W, G, e, r, q⟩ => by
  cases r
  exact ⟨rfl, q σ e ⟨rfl, fun _ _ => rfl⟩⟩
theorem pxgs_cons {es : List Expr} {ds : List PyData} {ms : List Nat} (h1 : PXG c e δ δ1 d ns) (h2 : PXGs c es δ1 δ2 ds ms) (hs : ∀ env, (assignEach (e :: es) env).map (·.2) = assign e env :: (assignEach es env).map (·.2)) : PXGs c (e :: es) δ δ2 (d :: ds) (ns ++ ms) := fun X f => PGs.weak (pgs_cons (h1 X f) (h2 X f) (hs X.env)) fun v σ H Q ⟨W, G, e, r, q⟩ => by
  cases r with
  | cons r1 r2 =>
    refine ⟨_, _, rfl, W, G, e, r1, fun σ1 e1 k1 => ⟨W, G, e1, r2, fun σ2 e2 k2 => q σ2 e2 ⟨k2.1.trans k1.1, fun i hi => ?_⟩⟩⟩
    rw [List.mem_append, not_or] at hi
    rw [k2.2 i hi.2, k1.2 i hi.1]
theorem pxg_tup {es : List Expr} {ds : List PyData} {k : Nat} (h : PXGs c es δ δ' ds ns) (hn : ∀ env, (assignEach es env).length = ds.length) (hst : ∀ env, (assignEach es env).findIdx? (·.1) = none) : PXG c (.Tuple es k pos) δ δ' (.tuple ds) ns := fun X f =>
  PG.weak (pg_tup f.calm (h X f) (hn X.env) (hst X.env)) fun v σ H Q ⟨W, G, e, r, q⟩ => by
    obtain ⟨p, xs, rfl, hp, r⟩ := rs_tup (H0 := H) (H := H) r
    exact ⟨p, xs, rfl, SqT.of (e.w.gh _ _ hp), r.length, W, G, e, r, q⟩
theorem pxg_unl {es : List Expr} {ds : List PyData} {k : Nat} (h : PXGs c es δ δ' ds ns) (hn : ∀ env, (assignEach es env).length = ds.length) (hst : ∀ env, (assignEach es env).findIdx? (·.1) = none) : PXG c (.Tuple es k pos) δ δ' (.list ds) ns := fun X f =>
  PG.weak (pg_unl f.calm (h X f) (hn X.env) (hst X.env)) fun v σ H Q ⟨W, G, e, r, q⟩ => by
    obtain ⟨p, xs, rfl, hp, r⟩ := rs_lst (H0 := H) (H := H) r
    exact ⟨p, xs, rfl, SqL.of (e.w.gh _ _ hp), r.length, W, G, e, r, q⟩
/-- target = value -/
theorem pxs_asg (h : PX c e δ (.p d)) (hg : PXG c tg δ δ' d ns) (hs : ∀ env, swapsWithSole [tg] e pos.line env = pure false) (hw : swappedStores [tg] e (envS c.sc) = pure none) (h1 : ∀ env, (assignEach [tg] env).map (·.2) = [assign tg env]) : PXS c (.Assign [tg] e pos) δ (fun d => d = δ') rt := fun X f =>
  PS.weak (ps_asg (h X f) (hg X f) (hs X.env) (f.swap hw) (h1 X.env)) fun D σ H ⟨W, G, e, q, r⟩ => ⟨W, G, e, fun v G1 H1 st r1 => ⟨W, G1, e.step st, r1, fun σ' e' _ => q δ' G1 H1 σ' e' st.g rfl⟩⟩
/-- a, b = x, y -/
theorem pxs_par {n1 n2 : Nat} {x y : Str} {s1 s2 : Sl} {px py pt : Pos} {kt k2 : Nat} {pt2 : Pos} (hN : c.N.Nodup) (hi : c.N[n1]? = some x) (hj : c.N[n2]? = some y) (hij : n1 ≠ n2) (hx : c.sc.names.lookup x = some .local) (hy : c.sc.names.lookup y = some .local) (ha : PXA c [a, b] δ [s1, s2]) (o1 : s1.own = false) (o2 : s2.own = false)
    (hw : swappedStores [.Tuple [.Name x px, .Name y py] kt pt] (.Tuple [a, b] k2 pt2) (envS c.sc) = pure (some [x, y])) (hs : ∀ env, swapsWithSole [.Tuple [.Name x px, .Name y py] kt pt] (.Tuple [a, b] k2 pt2) pos.line env = pure false) :
    PXS c (.Assign [.Tuple [.Name x px, .Name y py] kt pt] (.Tuple [a, b] k2 pt2) pos) δ (fun d => d = (δ.set n1 (some s1)).set n2 (some s2)) rt := fun X f => by
  refine PS.weak (ps_par f.calm (by rw [f.N]; exact hN) (by rw [f.N]; exact hi) (by rw [f.N]; exact hj) hij (by rw [f.sc]; exact hx) (by rw [f.sc]; exact hy) (ha X f) (f.swap hw) (hs X.env)) fun D σ H ⟨W, G, e, q, r⟩ => ⟨W, G, e, fun vs G1 H1 st r1 => ?_⟩
  cases r1 with
  | cons h1 r1 =>
    cases r1 with
    | cons h2 r2 =>
      cases r2
      exact ⟨_, _, rfl, q _ G1 H1 _ (((e.step st).setP h1 o1).setP h2 o2) st.g rfl⟩
theorem pxs_par3 {n1 n2 n3 : Nat} {x y z : Str} {s1 s2 s3 : Sl} {px py pz pt : Pos} {kt k2 : Nat} {pt2 : Pos} {e3 : Expr} (hN : c.N.Nodup) (hi : c.N[n1]? = some x) (hj : c.N[n2]? = some y) (hk : c.N[n3]? = some z) (hij : n1 ≠ n2) (hik : n1 ≠ n3) (hjk : n2 ≠ n3) (hx : c.sc.names.lookup x = some .local) (hy : c.sc.names.lookup y = some .local) (hz : c.sc.names.lookup z = some .local) (ha : PXA c [a, b, e3] δ [s1, s2, s3]) (o1 : s1.own = false) (o2 : s2.own = false) (o3 : s3.own = false)
    (hw : swappedStores [.Tuple [.Name x px, .Name y py, .Name z pz] kt pt] (.Tuple [a, b, e3] k2 pt2) (envS c.sc) = pure (some [x, y, z])) (hs : ∀ env, swapsWithSole [.Tuple [.Name x px, .Name y py, .Name z pz] kt pt] (.Tuple [a, b, e3] k2 pt2) pos.line env = pure false) :
    PXS c (.Assign [.Tuple [.Name x px, .Name y py, .Name z pz] kt pt] (.Tuple [a, b, e3] k2 pt2) pos) δ (fun d => d = ((δ.set n1 (some s1)).set n2 (some s2)).set n3 (some s3)) rt := fun X f => by
  refine PS.weak (ps_par3 f.calm (by rw [f.N]; exact hN) (by rw [f.N]; exact hi) (by rw [f.N]; exact hj) (by rw [f.N]; exact hk) hij hik hjk (by rw [f.sc]; exact hx) (by rw [f.sc]; exact hy) (by rw [f.sc]; exact hz) (ha X f) (f.swap hw) (hs X.env)) fun D σ H ⟨W, G, e, q, r⟩ => ⟨W, G, e, fun vs G1 H1 st r1 => ?_⟩
  cases r1 with
  | cons h1 r1 =>
    cases r1 with
    | cons h2 r2 =>
      cases r2 with
      | cons h3 r3 =>
        cases r3
        exact ⟨_, _, _, rfl, q _ G1 H1 _ ((((e.step st).setP h1 o1).setP h2 o2).setP h3 o3) st.g rfl⟩
end
end M
namespace M
open L2 PyProof.Rows PySem.Spec PySem
/-! ### what is walked -/
/-- at turn i the i-th of ds comes: it is told by the known part, which may take it in -/
def YSrc (G1 : Hp) (ds : List PyData) : Nat → Hp → V → Hp → Prop := fun i H x H' => H' = H ∧ ∀ G', Ex G1 G' → Ex G' H → ∃ G'' d, Step G' H G'' H ∧ ds[i]? = some d ∧ Rp G'' x d
theorem ysrc_of {G1 : Hp} {xs : List V} {ds : List PyData} (r : RpA G1 xs ds) {i : Nat} {H : Hp} {x : V} {H' : Hp} (y : YAt xs i H x H') : YSrc G1 ds i H x H' := ⟨y.1, fun G' e1 e2 => by
  obtain ⟨d, hd, rd⟩ := r.getV y.2
  exact ⟨G', d, Step.refl e2, hd, rd.mono e1⟩⟩
/-- iter gives the data ds, one after another -/
def Src (c : CF) (tg iter : Expr) (δ : Dl) (ds : List PyData) : Prop := ∀ X, Fam c X → PI X tg iter (fun σ H R => ∃ (W : Wd) (G : Hp), Env W G H σ δ ∧ ∀ J G1 H1, Step G H G1 H1 → Walk J ds.length (fun H' => Ex G1 H') (YSrc G1 ds) → R J H1)
theorem PI.weak {X : Cx} {tg iter : Expr} {w w' : TI} (h : PI X tg iter w) (k : ∀ σ H R, w' σ H R → w σ H R) : PI X tg iter w' := ⟨fun pins s σ H R I q => h.run pins s σ H R I (k σ H R q)⟩
section
variable {c : CF} {δ δ1 δ2 δ' : Dl} {a b e t tg iter : Expr} {pos p2 p3 : Pos} {i j : Int} {s : Sl} {nx nx1 : Dl → Prop} {rt : Sl → Prop} {st : Stmt} {sts : List Stmt} {n : Nat} {d : PyData} {ns : List Nat} {ds : List PyData}
theorem src_list (h : PX c iter δ (.p (.list ds))) : Src c tg iter δ ds := fun X f => PI.weak (pi_list (h X f)) fun σ H R ⟨W, G, e, q⟩ => ⟨W, G, e, fun v G1 H1 st r => by
  obtain ⟨p, xs, rfl, hp, r⟩ := rs_lst r
  refine ⟨p, rfl, ⟨xs, SqL.of (st.gh _ _ hp)⟩, q _ G1 H1 st ?_⟩
  rw [← r.length]
  exact walk_list.mono (fun H' e' => SqL.of (e' _ _ hp)) fun i H x H' _ _ y => ysrc_of r y⟩
theorem src_tup (h : PX c iter δ (.p (.tuple ds))) : Src c tg iter δ ds := fun X f => PI.weak (pi_tup (h X f)) fun σ H R ⟨W, G, e, q⟩ => ⟨W, G, e, fun v G1 H1 st r => by
  obtain ⟨p, xs, rfl, hp, r⟩ := rs_tup r
  refine ⟨p, rfl, ⟨xs, SqT.of (st.gh _ _ hp)⟩, q _ G1 H1 st ?_⟩
  rw [← r.length]
  exact walk_tup.mono (fun H' e' => SqT.of (e' _ _ hp)) fun i H x H' _ _ y => ysrc_of r y⟩
/-- the ints lo, lo + 1, .. (n of them) -/
def rgD (lo : Int) (n : Nat) : List PyData := (List.range n).map fun i => PyData.int (lo + (i : Nat))
theorem rgD_length (lo : Int) (n : Nat) : (rgD lo n).length = n := by unfold rgD; simp
theorem rgD_get {lo : Int} {n i : Nat} (h : i < n) : (rgD lo n)[i]? = some (.int (lo + (i : Nat))) := by unfold rgD; simp [h]
theorem rgD_rp (G : Hp) (lo : Int) (n : Nat) : RpA G ((List.range n).map fun i => V.int (lo + (i : Nat))) (rgD lo n) := by
  unfold rgD
  induction List.range n with
  | nil => exact .nil
  | cons x r ih => exact .cons (.int _) ih
theorem walk_rg {lo : Int} {n : Nat} {G1 : Hp} : Walk (Itr lo n) (rgD lo n).length (fun H' => Ex G1 H') (YSrc G1 (rgD lo n)) := by
  rw [rgD_length]
  refine walk_range.mono (fun _ _ => trivial) fun i H x H' hi _ y => ⟨y.1, fun G' _ e2 => ⟨G', _, Step.refl e2, rgD_get hi, ?_⟩⟩
  rw [y.2]
  exact .int _
theorem src_range1 {n : Nat} (hm : c.mg "range" = none) (hg : GlN c "range") (h : PX c a δ (.p (.int n))) (hn : n ≤ 100000) (hs : ∀ env, starEach [a] env = [(false, eval a env)]) : Src c tg (.Call (.Name "range" p2) [a] [] pos) δ (rgD 0 n) := fun X f => PI.weak (pi_range1 (show X.env.scope.names.lookup _ = _ by rw [f.sc]; exact hg) (by rw [f.mg]; exact hm) (pa_cons (h X f) pa_nil (hs X.env)) (hs X.env)) fun σ H R ⟨W, G, e, q⟩ => ⟨W, G, e, fun v G1 H1 st r => by
  rw [rs_int r]
  refine ⟨(n : Int), rfl, by omega, by omega, ?_⟩
  rw [Int.toNat_natCast]
  exact q _ G1 H1 st walk_rg⟩
theorem src_range2 (hm : c.mg "range" = none) (hg : GlN c "range") (h : PX c a δ (.p (.int i))) (h2 : PX c b δ (.p (.int j))) (hi : -100000 ≤ i ∧ i ≤ 100000) (hj : -100000 ≤ j ∧ j ≤ 100000) (hs : ∀ env, starEach [a, b] env = [(false, eval a env), (false, eval b env)]) (hs2 : ∀ env, starEach [b] env = [(false, eval b env)]) : Src c tg (.Call (.Name "range" p2) [a, b] [] pos) δ (rgD i (j - i).toNat) := fun X f => PI.weak (pi_range2 (show X.env.scope.names.lookup _ = _ by rw [f.sc]; exact hg) (by rw [f.mg]; exact hm) (pa_cons (h X f) (pa_cons (h2 X f) pa_nil (hs2 X.env)) (by rw [hs X.env, hs2 X.env])) (hs X.env) (hs2 X.env)) fun σ H R ⟨W, G, e, q⟩ => ⟨W, G, e, fun v G1 H1 st r => ⟨W, G1, e.step st, fun v2 G2 H2 st2 r2 => by
  rw [rs_int r, rs_int r2]
  exact ⟨i, j, rfl, ⟨by omega, by omega, by omega, by omega⟩, q _ G2 H2 (st.trans st2) walk_rg⟩⟩⟩
/-! ### for -/
def gFor (c : CF) (tg : Expr) (body : List Stmt) (Pv : Nat → Dl → Prop) (rt : Sl → Prop) : TG := fun v σ H Q => ∃ i d δ' δ'' ns, PXG c tg δ' δ'' d ns ∧ PXB c body δ'' (Pv (i + 1)) rt ∧ tXG δ' δ'' d ns v σ H Q
def bFor (c : CF) (body : List Stmt) (Pv : Nat → Dl → Prop) (rt : Sl → Prop) : TS := fun D σ H => ∃ i δ'', PXB c body δ'' (Pv (i + 1)) rt ∧ tXS δ'' (Pv (i + 1)) rt D σ H
theorem pxs_for {body : List Stmt} (Pv : Nat → Dl → Prop) (hs : Src c tg iter δ ds) (h0 : Pv 0 δ) (ht : ∀ i d δ', ds[i]? = some d → Pv i δ' → ∃ δ'' ns, PXG c tg δ' δ'' d ns ∧ PXB c body δ'' (Pv (i + 1)) rt) (hd : ∀ δ', Pv ds.length δ' → nx δ') (hf : ∀ env x, foldedSetIterable iter env x = pure x) : PXS c (.For tg iter body [] pos) δ nx rt := fun X f => by
  have hg : PG X tg (gFor c tg body Pv rt) := by
    refine ⟨fun pins s σ H v u Q I r q => ?_⟩
    obtain ⟨i, d, δ', δ'', ns, h1, h2, q⟩ := q
    exact (h1 X f).run pins s σ H v u Q I r q
  have hb : PSs X body (bFor c body Pv rt) := by
    refine ⟨fun pins s σ H D I q => ?_⟩
    obtain ⟨i, δ'', h2, q⟩ := q
    exact (h2 X f).run pins s σ H D I q
  refine PS.weak (ps_for (by rw [f.xe]; exact PassesOwn.never) f.calm (hs X f) hg hb (hf X.env)) fun D σ H ⟨W, G, e, q, r⟩ => ⟨W, G, e, fun J G1 H1 st wk => ?_⟩
  refine for_it (g := gFor c tg body Pv rt) (tb := bFor c body Pv rt) (D := D) wk (fun i σ' H' => ∃ G' δ', Env W G' H' σ' δ' ∧ Ex G1 G' ∧ Pv i δ') ⟨G1, δ, e.step st, Ex.refl _, h0⟩ (fun i σ' H' _ ⟨G', δ', e', x', _⟩ => x'.trans e'.w.gh) ?_ ?_
  · intro i x σ' H' H'' hi ⟨G', δ', e', x', pv⟩ ⟨hH, hx⟩
    subst hH
    obtain ⟨G'', d, sg, hd, rd⟩ := hx G' x' e'.w.gh
    obtain ⟨δ'', ns, h1, h2⟩ := ht i d δ' hd pv
    exact ⟨i, d, δ', δ'', ns, h1, h2, W, G'', e'.step sg, rd, fun σ2 e2 _ => ⟨i, δ'', h2, W, G'', e2, fun δ3 G3 H3 σ3 e3 x3 n3 => ⟨G3, δ3, e3, (x'.trans sg.g).trans x3, n3⟩, r⟩⟩
  · intro σ' H' ⟨G', δ', e', x', pv⟩
    exact q δ' G' H' σ' e' (st.g.trans x') (hd δ' pv)
/-! ### while -/
def cWh (c : CF) (t : Expr) : TT := fun σ H Q => ∃ δ' x, PXT c t δ' x ∧ tXT δ' x σ H Q
def bWh (c : CF) (body : List Stmt) (Pv : Nat → Dl → Prop) (rt : Sl → Prop) : TS := fun D σ H => ∃ m δ', PXB c body δ' (fun δ'' => ∃ m', m' < m ∧ Pv m' δ'') rt ∧ tXS δ' (fun δ'' => ∃ m', m' < m ∧ Pv m' δ'') rt D σ H
theorem pxs_while {body : List Stmt} (Pv : Nat → Dl → Prop) (m0 : Nat) (h0 : Pv m0 δ) (ht : ∀ m δ', Pv m δ' → ∃ x, PXT c t δ' x ∧ (x = true → PXB c body δ' (fun δ'' => ∃ m', m' < m ∧ Pv m' δ'') rt) ∧ (x = false → nx δ')) : PXS c (.While t body [] pos) δ nx rt := fun X f => by
  have hc : PT X t (cWh c t) := by
    refine ⟨fun pins s σ H Q I q => ?_⟩
    obtain ⟨δ', x, h1, q⟩ := q
    exact (h1 X f).run pins s σ H Q I q
  have hb : PSs X body (bWh c body Pv rt) := by
    refine ⟨fun pins s σ H D I q => ?_⟩
    obtain ⟨m, δ', h2, q⟩ := q
    exact (h2 X f).run pins s σ H D I q
  refine PS.weak (ps_while (by rw [f.xe]; exact PassesOwn.never) hc hb) fun D σ H ⟨W, G, e, q, r⟩ => ?_
  refine ⟨fun m σ' H' => ∃ G' δ', Env W G' H' σ' δ' ∧ Ex G G' ∧ Pv m δ', ⟨m0, G, δ, e, Ex.refl _, h0⟩, fun m σ' H' ⟨G', δ', e', x', pv⟩ => ?_⟩
  obtain ⟨x, h1, h2, h3⟩ := ht m δ' pv
  refine ⟨δ', x, h1, W, G', e', fun G2 H2 st2 => ?_⟩
  cases x with
  | true =>
    refine iteT ⟨fun σ3 H3 => ∃ m', m' < m ∧ ∃ G3 δ3, Env W G3 H3 σ3 δ3 ∧ Ex G G3 ∧ Pv m' δ3, fun σ3 H3 z => z, m, δ', h2 rfl, W, G2, e'.step st2, fun δ3 G3 H3 σ3 e3 x3 n3 => ?_, r⟩
    obtain ⟨m', hm', pv'⟩ := n3
    exact ⟨m', hm', G3, δ3, e3, (x'.trans st2.g).trans x3, pv'⟩
  | false => exact iteF (q δ' G2 H2 σ' (e'.step st2) (x'.trans st2.g) (h3 rfl))
/-! ### things of the def's own are written -/
theorem Env.write {W : Wd} {G H : Hp} {σ : L2.St} {l : Addr} {u : HO} {s s' : Sl} (e : Env W G H σ δ) (hn : δ[n]? = some (some s)) (os : s.own = true) (hv : σ[n]? = some (some (.ref l))) (h0 : W.H0 l = none) (hg : G l = none) (r : RS W.H0 G (upd H l u) (.ref l) s') (os' : s'.own = true) : Env W G (upd H l u) σ (δ.set n (some s')) := by
  refine ⟨⟨e.w.g, fun a o q => ?_, fun a o m q => ?_, fun a q => ?_, e.w.nw, e.w.m, fun a m => ?_⟩, by rw [List.length_set]; exact e.len, fun k t hk => ?_, fun k m sk sm a hk hm ok om ek em => ?_⟩
  · have z : a ≠ l := fun z => by rw [z, hg] at q; cases q
    rw [upd_ne z]; exact e.w.gh a o q
  · have z : a ≠ l := fun z => by rw [z, h0] at q; cases q
    rw [upd_ne z]; exact e.w.h a o m q
  · have z : a ≠ l := fun z => by rw [z, upd_same] at q; cases q
    rw [upd_ne z] at q; exact e.w.dom a q
  · have z : a ≠ l := fun z => (e.w.m a m).1.ne (z ▸ h0)
    rw [upd_ne z]; exact e.w.mt a m
  · by_cases z : n = k
    · subst z
      rw [List.getElem?_set_self (lt_of_get hn)] at hk
      have hk' := Option.some.inj (Option.some.inj hk)
      subst hk'
      exact ⟨_, hv, r⟩
    · rw [List.getElem?_set_ne z] at hk
      obtain ⟨w, hw, rw_⟩ := e.at_ k t hk
      refine ⟨w, hw, ?_⟩
      have other : ∀ l', w = .ref l' → t.own = true → l' ≠ l := fun l' ew ot q => z (e.sep n k s t l hn hk os ot hv (by rw [hw, ew, q]))
      cases t with
      | p d => exact rw_
      | x d => exact rw_
      | f d => exact rw_
      | t tb => exact rw_
      | o ds =>
        obtain ⟨l', ys, e1, e2, e3, e4, e5⟩ := rw_
        exact ⟨l', ys, e1, e2, e3, by rw [upd_ne (other l' e1 rfl)]; exact e4, e5⟩
      | u ds =>
        obtain ⟨l', ys, e1, e2, e3, e4, e5⟩ := rw_
        exact ⟨l', ys, e1, e2, e3, by rw [upd_ne (other l' e1 rfl)]; exact e4, e5⟩
      | k ds =>
        obtain ⟨l', ys, e1, e2, e3, e4, e5⟩ := rw_
        exact ⟨l', ys, e1, e2, e3, by rw [upd_ne (other l' e1 rfl)]; exact e4, e5⟩
  · have back : ∀ (k : Nat) (sk : Sl), (δ.set n (some s'))[k]? = some (some sk) → sk.own = true → ∃ sk', δ[k]? = some (some sk') ∧ sk'.own = true := fun k sk hk ok => by
      by_cases z : n = k
      · subst z; exact ⟨s, hn, os⟩
      · rw [List.getElem?_set_ne z] at hk; exact ⟨sk, hk, ok⟩
    obtain ⟨sk', hk', ok'⟩ := back k sk hk ok
    obtain ⟨sm', hm', om'⟩ := back m sm hm om
    exact e.sep k m sk' sm' a hk' hm' ok' om' ek em
/-- xs.append(e) -/
theorem pxs_append {x : Str} {apos : Pos} (hN : c.N[n]? = some x) (hv : Vis c.sc x) (hδ : δ[n]? = some (some (.o ds))) (he : PX c e δ (.p d)) (hl : ds.length < 100000)
    (hbase : ∀ env, attributeBase (.Name x p2) "append" env (eval (.Name x p2) env) = eval (.Name x p2) env)
    (hfew : ∀ env, ((backTo p3 (starEach [e] env)).all (fun x => !x.1) && (backToKw p3 (keywordEach [] env)).all (fun x => x.1.isSome) && decide ([e].length + ([] : List Keyword).length + (if ([] : List Keyword).isEmpty then 0 else 1) < 30)) = true)
    (hline : (apos.endLine == p3.line) = true) (hs : ∀ env, starEach [e] env = (false, eval e env) :: starEach [] env) (hplain : ∀ env, (backTo p3 (starEach [] env)).any (·.1) = false) (hsw : ∀ env, swapsWith (.Call (.Attribute (.Name x p2) "append" apos) [e] [] p3) none pos.line env = pure false)
    (hd : (x == ("__debug__" : Str)) = false := by decide) (hcd : (x == ("__classdict__" : Str)) = false := by decide) :
    PXS c (.Expr (.Call (.Attribute (.Name x p2) "append" apos) [e] [] p3) pos) δ (fun d' => d' = δ.set n (some (.o (ds ++ [d])))) rt := fun X f => by
  refine PS.weak (ps_expr (pe_bm PySem.F.plainAttrs_list PySem.F.slot_list_append PySem.F.type_list_append mt_append (pe_var (i := n) (by rw [f.N]; exact hN) (by rw [f.sc]; exact hv) hd hcd) (pa_cons (he X f) pa_nil (hs X.env)) (hbase X.env) (hfew X.env) hline (hs X.env) (hplain X.env)) (hsw X.env)) fun D σ H ⟨W, G, e, q, r⟩ => ?_
  obtain ⟨v, hv1, hrs⟩ := e.at_ n _ hδ
  obtain ⟨l, xs, rfl, h0, hg, hh, rx⟩ := hrs
  refine ⟨.ref l, hv1, .inl ⟨rfl, xs, SqL.of hh⟩, W, G, e, fun v2 G2 H2 st r2 => ?_⟩
  refine ⟨l, xs, v2, rfl, rfl, st.h _ _ hh, by rw [rx.length]; exact Nat.lt_of_lt_of_le hl (by decide), ?_⟩
  have hg2 := st.nw l (ntup_lst hh) hg
  exact q _ G2 _ σ ((e.step st).write (s' := .o (ds ++ [d])) hδ rfl hv1 h0 hg2 ⟨l, _, rfl, h0, hg2, upd_same, (rx.mono st.g).append (.cons r2 .nil)⟩ rfl) st.g rfl
end
end M
namespace M
open L2 PyProof.Rows PySem.Spec PySem
/-! ### the slots of a block's own names -/
def wipeD (δ : Dl) : List Nat → Dl
  | [] => δ
  | v :: vs => (wipeD δ vs).set v none
theorem wipeD_length (δ : Dl) : ∀ vs : List Nat, (wipeD δ vs).length = δ.length
  | [] => rfl
  | v :: vs => by unfold wipeD; rw [List.length_set, wipeD_length δ vs]
theorem wipeD_some {δ : Dl} {i : Nat} {x : Sl} : ∀ {vs : List Nat}, (wipeD δ vs)[i]? = some (some x) → δ[i]? = some (some x) ∧ i ∉ vs
  | [], h => ⟨h, by simp⟩
  | v :: vs, h => by
    unfold wipeD at h
    by_cases hi : v = i
    · subst hi
      by_cases hv : v < (wipeD δ vs).length
      · rw [List.getElem?_set_self hv] at h; cases h
      · rw [List.getElem?_eq_none (by simpa using hv)] at h; cases h
    · rw [List.getElem?_set_ne hi] at h
      obtain ⟨h1, h2⟩ := wipeD_some h
      exact ⟨h1, fun m => by
        rcases List.mem_cons.mp m with e | m
        · exact hi e.symm
        · exact h2 m⟩
theorem wipe_in {σ : L2.St} {i : Nat} : ∀ {vs : List Nat}, i ∈ vs → i < σ.length → (wipe σ vs)[i]? = some none
  | v :: vs, h, hl => by
    unfold wipe
    by_cases z : v = i
    · subst z
      exact List.getElem?_set_self (by rw [wipe_length]; exact hl)
    · rw [List.getElem?_set_ne z]
      rcases List.mem_cons.mp h with e | m
      · exact absurd e.symm z
      · exact wipe_in m hl
theorem wipe_eq {σ σ' : L2.St} {vs : List Nat} (hl : σ'.length = σ.length) (h : ∀ i, i ∉ vs → σ'[i]? = σ[i]?) : wipe σ' vs = wipe σ vs := by
  apply List.ext_getElem?
  intro i
  by_cases m : i ∈ vs
  · by_cases l : i < σ.length
    · rw [wipe_in m l, wipe_in m (by rw [hl]; exact l)]
    · rw [List.getElem?_eq_none (by rw [wipe_length]; omega), List.getElem?_eq_none (by rw [wipe_length]; omega)]
  · rw [wipe_out m, wipe_out m, h i m]
theorem wipe_wipe {σ : L2.St} {vs : List Nat} : wipe (wipe σ vs) vs = wipe σ vs := wipe_eq (wipe_length _ _) fun i m => wipe_out m
theorem Env.wipe {W : Wd} {G H : Hp} {σ : L2.St} {δ : Dl} (e : Env W G H σ δ) (vs : List Nat) : Env W G H (wipe σ vs) (wipeD δ vs) :=
  ⟨e.w, by rw [wipe_length, wipeD_length]; exact e.len, fun i s h => by
    obtain ⟨h1, h2⟩ := wipeD_some h
    rw [wipe_out h2]
    exact e.at_ i s h1, fun i j si sj l a b oa ob ea eb => by
    obtain ⟨a1, a2⟩ := wipeD_some a
    obtain ⟨b1, b2⟩ := wipeD_some b
    rw [wipe_out a2] at ea
    rw [wipe_out b2] at eb
    exact e.sep i j si sj l a1 b1 oa ob ea eb⟩
/-- a comprehension's block -/
def CF.blk (c : CF) (scope : Scope) : CF := { c with sc := relS scope c.sc, own := fun x => scope.names.lookup x == some .cell }
theorem Fam.blk {c : CF} {X : Cx} (f : Fam c X) (s : Shared) (H : Hp) (scope : Scope) (C : Addr) (cl : List (Str × Addr)) (fp : List Addr) : Fam (c.blk scope) (X.blk s H scope (compEnvC scope cl C X.env) fp) :=
  ⟨f.P, f.w, f.K, f.mg, f.base, f.N, by
    show relabel scope X.env = relS scope c.sc
    rw [← f.sc]
    rfl, f.calm, f.room, fun x h => h, rfl⟩
/-- a clause's tests -/
def PXI (c : CF) (ifs : List Expr) (δ : Dl) (b : Bool) : Prop := ∀ X, Fam c X → PTs X ifs (tXT δ b)
section
variable {c : CF} {δ δ1 δ2 δ' : Dl} {a b e t tg iter elt : Expr} {pos p2 p3 : Pos} {i j : Int} {s : Sl} {nx nx1 : Dl → Prop} {rt : Sl → Prop} {n : Nat} {d : PyData} {ns : List Nat} {ds : List PyData}
theorem PTs.weak {X : Cx} {ifs : List Expr} {t t' : TT} (h : PTs X ifs t) (w : ∀ σ H Q, t' σ H Q → t σ H Q) : PTs X ifs t' := ⟨fun pins s σ H Q I q => h.run pins s σ H Q I (w σ H Q q)⟩
theorem pxi_nil : PXI c [] δ true := fun X f => PTs.weak pts_nil fun σ H Q ⟨W, G, e, q⟩ => q G H (Step.refl e.w.gh)
theorem pxi_one {x : Bool} (h : PXT c t δ x) : PXI c [t] δ x := fun X f => pts_one (h X f)
/-- one turn of a comprehension -/
structure Turn1 (c' : CF) (tg elt : Expr) (ifs : List Expr) (δw : Dl) (vs : List Nat) (d : PyData) (cond : Bool) (y : PyData) (δt : Dl) (ns : List Nat) : Prop where
  tgt : PXG c' tg δw δt d ns
  sub : ∀ n ∈ ns, n ∈ vs
  ifs : PXI c' ifs δt cond
  elt : cond = true → PX c' elt δt (.p y)
def gLc (c' : CF) (tg elt : Expr) (ifs : List Expr) (δw : Dl) (vs : List Nat) : TG := fun v σ H Q => ∃ d b y δt ns, Turn1 c' tg elt ifs δw vs d b y δt ns ∧ tXG δw δt d ns v σ H Q
def tLcT (c' : CF) (tg elt : Expr) (ifs : List Expr) (δw : Dl) (vs : List Nat) : TT := fun σ H Q => ∃ d b y δt ns, Turn1 c' tg elt ifs δw vs d b y δt ns ∧ tXT δt b σ H Q
def tLcE (c' : CF) (tg elt : Expr) (ifs : List Expr) (δw : Dl) (vs : List Nat) : TE := fun σ H Q => ∃ d y δt ns, Turn1 c' tg elt ifs δw vs d true y δt ns ∧ tX δt (.p y) σ H Q
/-- what a comprehension reads -/
def lcOut {α : Type} (cond : α → Bool) (y : α → PyData) (ts : List α) : List PyData := (ts.filter cond).map y
theorem lcOut_snoc {α : Type} {cond : α → Bool} {y : α → PyData} {ts : List α} {i : Nat} {t : α} (h : ts[i]? = some t) : lcOut cond y (ts.take (i + 1)) = lcOut cond y (ts.take i) ++ (if cond t = true then [y t] else []) := by
  unfold lcOut
  rw [List.take_add_one, h, List.filter_append, List.map_append]
  congr 1
  show List.map y (List.filter cond [t]) = _
  rw [List.filter_cons]
  split <;> rfl
theorem lcOut_le {α : Type} {cond : α → Bool} {y : α → PyData} {ts : List α} : (lcOut cond y ts).length ≤ ts.length := by
  unfold lcOut
  rw [List.length_map]
  exact List.length_filter_le _ _
theorem lc_read {α : Type} {enc : α → PyData} {ts : List α} {c' : CF} {ifs : List Expr} {vs : List Nat} {cond : α → Bool} {y : α → PyData} {σ : L2.St} {H : Hp} {Q : VK} {wi : TI} {W : Wd} {G : Hp} (e : Env W G H σ δ)
    (hw : ∀ (R : It → Hp → Prop), (∃ (W : Wd) (G : Hp), Env W G H σ δ ∧ ∀ J G1 H1, Step G H G1 H1 → Walk J (ts.map enc).length (fun H' => Ex G1 H') (YSrc G1 (ts.map enc)) → R J H1) → wi σ H R)
    (ht : ∀ t ∈ ts, ∃ δt ns, Turn1 c' tg elt ifs (wipeD δ vs) vs (enc t) (cond t) (y t) δt ns) (hl : ts.length ≤ 100000)
    (q : ∀ v G' H', Step G H G' H' → Rp G' v (.list (lcOut cond y ts)) → Q v H') : tLc wi (gLc c' tg elt ifs (wipeD δ vs) vs) (tLcT c' tg elt ifs (wipeD δ vs) vs) (tLcE c' tg elt ifs (wipeD δ vs) vs) vs σ H Q := by
  refine hw _ ⟨W, G, e, fun J G1 H1 st wk D hD => ?_⟩
  have e1 := e.step st
  have hD0 : W.H0 D = none := e1.w.dom D hD
  have gD : G1 D = none := none_of_ex st.gh hD
  refine lc_it (tt := tLcT c' tg elt ifs (wipeD δ vs) vs) (te := tLcE c' tg elt ifs (wipeD δ vs) vs) (g := gLc c' tg elt ifs (wipeD δ vs) vs) wk (fun i H' => ∃ G' acc, Env W G' H' σ δ ∧ Ex G1 G' ∧ (∀ a, NTup (H1 a) → G1 a = none → G' a = none) ∧ Ex H1 H' ∧ G' D = none ∧ H' D = some (.lst acc) ∧ RpA G' acc (lcOut cond y (ts.take i))) ?_ (fun i H' _ ⟨G', acc, e', x', _⟩ => x'.trans e'.w.gh) ?_ ?_
  · have st0 : Step G1 H1 G1 (upd H1 D (.lst [])) := Step.grow st.gh (Ex.new hD)
    exact ⟨G1, [], e1.step st0, Ex.refl _, fun _ _ z => z, st0.h, gD, upd_same, .nil⟩
  · intro i x H' H'' hi ⟨Ga, acc, ea, xa, nwa, xh', gDa, hD', raa⟩ ⟨hH, hx⟩
    subst hH
    obtain ⟨G', d, sg, hd, rd⟩ := hx Ga xa ea.w.gh
    have e' := ea.step sg
    have x' := xa.trans sg.g
    have nw' : ∀ a, NTup (H1 a) → G1 a = none → G' a = none := fun a h1 h2 => sg.nw a (h1.ex xh') (nwa a h1 h2)
    have gD' := sg.nw D (ntup_lst hD') gDa
    have ra := raa.mono sg.g
    rw [List.getElem?_map] at hd
    cases ht1 : ts[i]? with
    | none => rw [ht1] at hd; cases hd
    | some t =>
    rw [ht1] at hd
    obtain rfl : enc t = d := Option.some.inj hd
    obtain ⟨δt, ns, T⟩ := ht t (List.mem_of_getElem? ht1)
    refine ⟨_, _, _, δt, ns, T, W, G', e'.wipe vs, rd, fun σ2 e2 k2 => ⟨?_, _, _, _, δt, ns, T, W, G', e2, fun G3 H3 st3 => ?_⟩⟩
    · rw [wipe_eq k2.1 fun i hi => k2.2 i fun m => hi (T.sub i m), wipe_wipe]
    · have sa : Step G1 H1 G' H'' := ⟨x', xh', e'.w.gh, nw'⟩
      have dG3 : G3 D = none := st3.nw D (ntup_lst hD') gD'
      cases hc : cond t with
      | true =>
        refine iteT ⟨_, y t, δt, ns, hc ▸ T, W, G3, e2.step st3, fun v G4 H4 st4 r4 => ?_⟩
        have dG4 : G4 D = none := st4.nw D (ntup_lst (st3.h _ _ hD')) dG3
        have hD4 := st4.h _ _ (st3.h _ _ hD')
        have sb := sa.trans (st3.trans st4)
        refine ⟨acc, hD4, ?_, G4, acc ++ [v], ?_, sb.g, sb.nw, fun a o z => ?_, dG4, upd_same, ?_⟩
        · rw [ra.length]
          have h1 := lcOut_le (cond := cond) (y := y) (ts := ts.take i)
          have h2 : (ts.take i).length ≤ ts.length := by rw [List.length_take]; exact Nat.min_le_right _ _
          rw [sizeLine_eq]
          omega
        · have e4 := e1.step sb
          refine ⟨⟨e4.w.g, fun a o z => by
            have zn : a ≠ D := fun z2 => by rw [z2, dG4] at z; cases z
            rw [upd_ne zn]; exact e4.w.gh a o z, fun a o m z => by
            have zn : a ≠ D := fun z2 => by rw [z2, hD0] at z; cases z
            rw [upd_ne zn]; exact e4.w.h a o m z, fun a z => by
            have zn : a ≠ D := fun z2 => by rw [z2, upd_same] at z; cases z
            rw [upd_ne zn] at z; exact e4.w.dom a z, e4.w.nw, e4.w.m, fun a m => by
            have zn : a ≠ D := fun z2 => (e4.w.m a m).1.ne (z2 ▸ hD0)
            rw [upd_ne zn]; exact e4.w.mt a m⟩, e4.len, fun k t hk => ?_, e4.sep⟩
          obtain ⟨w, hw, rw_⟩ := e4.at_ k t hk
          refine ⟨w, hw, ?_⟩
          have other : ∀ l', w = .ref l' → t.own = true → l' ≠ D := fun l' ew ot q2 => by
            obtain ⟨w0, hw0, rw0⟩ := e1.at_ k t hk
            rw [hw] at hw0
            have z := Option.some.inj (Option.some.inj hw0)
            rw [← z, ew, q2] at rw0
            exact own_there ot rw0 hD
          cases t with
          | p d => exact rw_
          | x d => exact rw_
          | f d => exact rw_
          | t tb => exact rw_
          | o ds =>
            obtain ⟨l', ys, e1, e2, e3, e4, e5⟩ := rw_
            exact ⟨l', ys, e1, e2, e3, by rw [upd_ne (other l' e1 rfl)]; exact e4, e5⟩
          | u ds =>
            obtain ⟨l', ys, e1, e2, e3, e4, e5⟩ := rw_
            exact ⟨l', ys, e1, e2, e3, by rw [upd_ne (other l' e1 rfl)]; exact e4, e5⟩
          | k ds =>
            obtain ⟨l', ys, e1, e2, e3, e4, e5⟩ := rw_
            exact ⟨l', ys, e1, e2, e3, by rw [upd_ne (other l' e1 rfl)]; exact e4, e5⟩
        · have zn : a ≠ D := fun z2 => by rw [z2, hD] at z; cases z
          rw [upd_ne zn]; exact sb.h a o z
        · rw [lcOut_snoc ht1, if_pos hc]
          exact (ra.mono (st3.g.trans st4.g)).append (.cons r4 .nil)
      | false =>
        refine iteF ?_
        have sb := sa.trans st3
        refine ⟨G3, acc, e1.step sb, sb.g, sb.nw, sb.h, dG3, st3.h _ _ hD', ?_⟩
        rw [lcOut_snoc ht1, if_neg (by rw [hc]; exact Bool.false_ne_true), List.append_nil]
        exact ra.mono st3.g
  · intro H' ⟨G', acc, e', x', nw', xh', gD', hD', ra⟩
    rw [List.length_map, List.take_length] at ra
    have xg : Ex G' (upd G' D (.lst acc)) := Ex.new gD'
    refine q _ (upd G' D (.lst acc)) H' (st.trans ⟨x'.trans xg, xh', fun a o z => ?_, fun a h1 h2 => ?_⟩) (.lst upd_same (ra.mono xg))
    · by_cases z2 : a = D
      · subst z2; rw [upd_same] at z; rw [← z]; exact hD'
      · rw [upd_ne z2] at z; exact e'.w.gh a o z
    · have zn : a ≠ D := fun z2 => h1.ne (z2 ▸ hD)
      rw [upd_ne zn]; exact nw' a h1 h2
/-- the parts of a comprehension, for all contexts of the def -/
theorem lc_hg {c : CF} {tg elt : Expr} {ifs : List Expr} {scope : Scope} {vs : List Nat} {δw : Dl} {X : Cx} (f : Fam (c.blk scope) X) : PG X tg (gLc (c.blk scope) tg elt ifs δw vs) ∧ PTs X ifs (tLcT (c.blk scope) tg elt ifs δw vs) ∧ PE X elt (tLcE (c.blk scope) tg elt ifs δw vs) := by
  refine ⟨⟨fun pins s σ H v u Q I r q => ?_⟩, ⟨fun pins s σ H Q I q => ?_⟩, ⟨fun pins s σ H Q I q => ?_⟩⟩
  · obtain ⟨d, b, y, δt, ns, T, q⟩ := q
    exact (T.tgt X f).run pins s σ H v u Q I r q
  · obtain ⟨d, b, y, δt, ns, T, q⟩ := q
    exact (T.ifs X f).run pins s σ H Q I q
  · obtain ⟨d, y, δt, ns, T, q⟩ := q
    exact (T.elt rfl X f).run pins s σ H Q I q
/-- [elt for tg in iter if ..] -/
theorem px_lc {α : Type} {enc : α → PyData} {ts : List α} {ifs : List Expr} {scope : Scope} {own : List (Str × Nat)} (cond : α → Bool) (y : α → PyData) (hN : c.N.Nodup) (hs : Src c tg iter δ (ts.map enc)) (ok : blkC c.N c.sc scope own = true) (hf : ∀ env x, foldedSetIterable iter env x = pure x)
    (ht : ∀ t ∈ ts, ∃ δt ns, Turn1 (c.blk scope) tg elt ifs (wipeD δ (own.map (·.2))) (own.map (·.2)) (enc t) (cond t) (y t) δt ns) (hl : ts.length ≤ 100000) : PX c (.ListComp elt [⟨tg, iter, ifs, 0⟩] scope pos) δ (.p (.list (lcOut cond y ts))) := fun X f => by
  refine PE.weak (pe_lc (own := own) f.calm (by rw [f.N]; exact hN) (hs X f) (by rw [f.N, f.sc]; exact blkOk_by ok) (fun s H C cl fp => (lc_hg (tg := tg) (elt := elt) (ifs := ifs) (vs := own.map (·.2)) (δw := wipeD δ (own.map (·.2))) (f.blk s H scope C cl fp)).1) (fun s H C cl fp => (lc_hg (tg := tg) (elt := elt) (ifs := ifs) (vs := own.map (·.2)) (δw := wipeD δ (own.map (·.2))) (f.blk s H scope C cl fp)).2.1) (fun s H C cl fp => (lc_hg (tg := tg) (elt := elt) (ifs := ifs) (vs := own.map (·.2)) (δw := wipeD δ (own.map (·.2))) (f.blk s H scope C cl fp)).2.2) (hf X.env)) fun σ H Q ⟨W, G, e, q⟩ => ?_
  exact lc_read e (fun R h => h) ht hl q
/-- name = [elt for tg in iter if ..] where the comprehension is stored at once -/
theorem pxs_setLc {α : Type} {enc : α → PyData} {ts : List α} {x : Str} {ifs : List Expr} {scope : Scope} {own : List (Str × Nat)} (cond : α → Bool) (y : α → PyData) (hN : c.N.Nodup) (hi : c.N[n]? = some x) (hx : c.sc.names.lookup x = some .local) (hk : c.sc.kind = .function) (hs : Src c tg iter δ (ts.map enc)) (ok : blkC c.N c.sc scope own = true) (hf : ∀ env x, foldedSetIterable iter env x = pure x)
    (ht : ∀ t ∈ ts, ∃ δt ns, Turn1 (c.blk scope) tg elt ifs (wipeD δ (own.map (·.2))) (own.map (·.2)) (enc t) (cond t) (y t) δt ns) (hl : ts.length ≤ 100000) (hln : (p2.line == p3.line) = true) (ha : (scope.names.any fun (n, k) => n == x && (k == .local || k == .cell)) = false) :
    PXS c (.Assign [.Name x p2] (.ListComp elt [⟨tg, iter, ifs, 0⟩] scope p3) pos) δ (fun d => d = δ.set n (some (.p (.list (lcOut cond y ts))))) rt := fun X f => by
  refine PS.weak (ps_setLc (own := own) (i := n) f.calm (by rw [f.N]; exact hN) (by rw [f.N]; exact hi) (by rw [f.sc]; exact hx) (sw_true (by rw [f.sc]; exact hk) (by rw [f.sc]; exact hx) hln ha) (hs X f) (by rw [f.N, f.sc]; exact blkOk_by ok) (fun s H C cl fp => (lc_hg (tg := tg) (elt := elt) (ifs := ifs) (vs := own.map (·.2)) (δw := wipeD δ (own.map (·.2))) (f.blk s H scope C cl fp)).1) (fun s H C cl fp => (lc_hg (tg := tg) (elt := elt) (ifs := ifs) (vs := own.map (·.2)) (δw := wipeD δ (own.map (·.2))) (f.blk s H scope C cl fp)).2.1) (fun s H C cl fp => (lc_hg (tg := tg) (elt := elt) (ifs := ifs) (vs := own.map (·.2)) (δw := wipeD δ (own.map (·.2))) (f.blk s H scope C cl fp)).2.2) (hf X.env)) fun D σ H ⟨W, G, e, q, r⟩ => ?_
  exact lc_read e (fun R h => h) ht hl fun v G1 H1 st r1 => q _ G1 H1 _ ((e.step st).setP (s := .p _) r1 rfl) st.g rfl
end
end M
namespace M
open L2 PyProof.Rows PySem.Spec PySem
def OwnFree (δ : Dl) : Prop := ∀ (k : Nat) (t : Sl), δ[k]? = some (some t) → t.own = false
theorem Env.laid {W : Wd} {G H : Hp} {σ : L2.St} {δ : Dl} {D : Addr} {u : HO} (e : Env W G H σ δ) (no : OwnFree δ) (g : G D = none) (h0 : W.H0 D = none) : Env W G (upd H D u) σ δ := by
  refine ⟨⟨e.w.g, fun a o z => by
    have zn : a ≠ D := fun z2 => by rw [z2, g] at z; cases z
    rw [upd_ne zn]; exact e.w.gh a o z, fun a o m z => by
    have zn : a ≠ D := fun z2 => by rw [z2, h0] at z; cases z
    rw [upd_ne zn]; exact e.w.h a o m z, fun a z => by
    have zn : a ≠ D := fun z2 => by rw [z2, upd_same] at z; cases z
    rw [upd_ne zn] at z; exact e.w.dom a z, e.w.nw, e.w.m, fun a m => by
    have zn : a ≠ D := fun z2 => (e.w.m a m).1.ne (z2 ▸ h0)
    rw [upd_ne zn]; exact e.w.mt a m⟩, e.len, fun k t hk => ?_, e.sep⟩
  obtain ⟨w, hw, rw_⟩ := e.at_ k t hk
  have n := no k t hk
  refine ⟨w, hw, ?_⟩
  cases t with
  | p d => exact rw_
  | x d => exact rw_
  | f d => exact rw_
  | t tb => exact rw_
  | o ds => cases n
  | u ds => cases n
  | k ds => cases n
section
variable {c : CF} {δ : Dl} {tg iter elt tg1 iter1 : Expr} {pos p2 p3 : Pos} {n : Nat}
/-- one inner turn -/
structure Turn2 (c' : CF) (tg1 elt : Expr) (δw : Dl) (vs1 : List Nat) (d : PyData) (y : PyData) (δt : Dl) (ns : List Nat) : Prop where
  tgt : PXG c' tg1 δw δt d ns
  sub : ∀ n ∈ ns, n ∈ vs1
  elt : PX c' elt δt (.p y)
/-- one outer turn -/
structure Turn0 (c' : CF) (tg tg1 iter1 elt : Expr) (δw : Dl) (vs vs1 : List Nat) (d : PyData) (δt : Dl) (ns : List Nat) (ds1 ys : List PyData) : Prop where
  tgt : PXG c' tg δw δt d ns
  sub : ∀ n ∈ ns, n ∈ vs
  no : OwnFree δt
  src : Src c' tg1 iter1 δt ds1
  len : ys.length = ds1.length
  elt : ∀ (i : Nat) (d1 y : PyData), ds1[i]? = some d1 → ys[i]? = some y → ∃ δ2 ns2, Turn2 c' tg1 elt (wipeD δt vs1) vs1 d1 y δ2 ns2
def gLc2 (c' : CF) (tg tg1 iter1 elt : Expr) (δw : Dl) (vs vs1 : List Nat) : TG := fun v σ H Q => ∃ d δt ns ds1 ys, Turn0 c' tg tg1 iter1 elt δw vs vs1 d δt ns ds1 ys ∧ tXG δw δt d ns v σ H Q
def iLc2 (c' : CF) (tg tg1 iter1 elt : Expr) (δw : Dl) (vs vs1 : List Nat) : TI := fun σ H R => ∃ d δt ns ds1 ys, Turn0 c' tg tg1 iter1 elt δw vs vs1 d δt ns ds1 ys ∧ ∃ (W : Wd) (G : Hp), Env W G H σ δt ∧ ∀ J G1 H1, Step G H G1 H1 → Walk J ds1.length (fun H' => Ex G1 H') (YSrc G1 ds1) → R J H1
def gLc2i (c' : CF) (tg1 elt : Expr) (vs1 : List Nat) : TG := fun v σ H Q => ∃ d y δw δt ns, Turn2 c' tg1 elt δw vs1 d y δt ns ∧ tXG δw δt d ns v σ H Q
def tLc2E (c' : CF) (tg1 elt : Expr) (vs1 : List Nat) : TE := fun σ H Q => ∃ d y δw δt ns, Turn2 c' tg1 elt δw vs1 d y δt ns ∧ tX δt (.p y) σ H Q
theorem lc2_hg {scope : Scope} {vs vs1 : List Nat} {δw : Dl} {X : Cx} (f : Fam (c.blk scope) X) : PG X tg (gLc2 (c.blk scope) tg tg1 iter1 elt δw vs vs1) ∧ PI X tg1 iter1 (iLc2 (c.blk scope) tg tg1 iter1 elt δw vs vs1) ∧ PG X tg1 (gLc2i (c.blk scope) tg1 elt vs1) ∧ PE X elt (tLc2E (c.blk scope) tg1 elt vs1) := by
  refine ⟨⟨fun pins s σ H v u Q I r q => ?_⟩, ⟨fun pins s σ H R I q => ?_⟩, ⟨fun pins s σ H v u Q I r q => ?_⟩, ⟨fun pins s σ H Q I q => ?_⟩⟩
  · obtain ⟨d, δt, ns, ds1, ys, T, q⟩ := q
    exact (T.tgt X f).run pins s σ H v u Q I r q
  · obtain ⟨d, δt, ns, ds1, ys, T, q⟩ := q
    exact (T.src X f).run pins s σ H R I q
  · obtain ⟨d, y, δw, δt, ns, T, q⟩ := q
    exact (T.tgt X f).run pins s σ H v u Q I r q
  · obtain ⟨d, y, δw, δt, ns, T, q⟩ := q
    exact (T.elt X f).run pins s σ H Q I q
/-- for an inner loop: as for_it -/
theorem in_it {J : It} {n : Nat} {Gd : Hp → Prop} {Y : Nat → Hp → V → Hp → Prop} (w : Walk J n Gd Y) {P : V → Hp → (Hp → Prop) → Prop} {Nx : Hp → Prop} {H : Hp} (Pv : Nat → Hp → Prop) (h0 : Pv 0 H) (hG : ∀ i H, i ≤ n → Pv i H → Gd H)
    (hs : ∀ i x H H', i < n → Pv i H → Y i H x H' → P x H' (Pv (i + 1))) (hd : ∀ H, Pv n H → Nx H) :
    ∃ W1 : Nat → Nat → Hp → Prop, (∃ m, W1 0 m H) ∧ ∀ j k H, W1 j k H → (J.stop j H ∧ Nx H) ∨ (J.go j H ∧ ∃ Nx1 : Hp → Prop, (∀ H', Nx1 H' → ∃ k', k' < k ∧ W1 (j + 1) k' H') ∧ ∀ x H', J.yld j H x H' → P x H' Nx1) := by
  refine ⟨fun i m H => i + m = n ∧ Pv i H, ⟨n, by omega, h0⟩, fun j k H ⟨e, pv⟩ => ?_⟩
  by_cases z : j < n
  · exact .inr ⟨w.goes j H z (hG j H (by omega) pv), Pv (j + 1), fun H' p => ⟨k - 1, by omega, by omega, p⟩, fun x H' y => hs j x H H' z pv (w.yields j H x H' z (hG j H (by omega) pv) y)⟩
  · obtain rfl : j = n := by omega
    exact .inl ⟨w.stops H (hG _ H (Nat.le_refl _) pv), hd H pv⟩
/-- [elt for tg in iter for tg1 in iter1] -/
theorem px_lc2 {α : Type} {enc : α → PyData} {ts : List α} {scope : Scope} {own : List (Str × Nat)} {vs1 : List Nat} (ys : α → List PyData) (hN : c.N.Nodup) (hs : Src c tg iter δ (ts.map enc)) (ok : blkC c.N c.sc scope own = true) (hv : ∀ i ∈ vs1, i ∈ own.map (·.2)) (hf : ∀ env x, foldedSetIterable iter env x = pure x) (hf1 : ∀ env x, foldedSetIterable iter1 env x = pure x)
    (no : OwnFree δ) (ht : ∀ t ∈ ts, ∃ δt ns ds1, Turn0 (c.blk scope) tg tg1 iter1 elt (wipeD δ (own.map (·.2))) (own.map (·.2)) vs1 (enc t) δt ns ds1 (ys t)) (hl : (ts.map fun t => (ys t).length).sum ≤ 100000) : PX c (.ListComp elt [⟨tg, iter, [], 0⟩, ⟨tg1, iter1, [], 0⟩] scope pos) δ (.p (.list (ts.map ys).flatten)) := fun X f => by
  have K := fun (s : Shared) (H : Hp) (C : Addr) (cl : List (Str × Addr)) (fp : List Addr) => lc2_hg (tg := tg) (elt := elt) (tg1 := tg1) (iter1 := iter1) (vs := own.map (·.2)) (vs1 := vs1) (δw := wipeD δ (own.map (·.2))) (f.blk s H scope C cl fp)
  refine PE.weak (pe_lc2 (own := own) (vs1 := vs1) f.calm (by rw [f.N]; exact hN) (hs X f) (by rw [f.N, f.sc]; exact blkOk_by ok) hv (fun s H C cl fp => (K s H C cl fp).1) (fun _ _ _ _ _ => pts_nil) (fun s H C cl fp => (K s H C cl fp).2.1) (fun s H C cl fp => (K s H C cl fp).2.2.1) (fun _ _ _ _ _ => pts_nil) (fun s H C cl fp => (K s H C cl fp).2.2.2) (hf X.env) hf1) fun σ H Q ⟨W, G, e, q⟩ => ?_
  refine ⟨W, G, e, fun J G1 H1 st wk D hD => ?_⟩
  have e1 := e.step st
  have hD0 : W.H0 D = none := e1.w.dom D hD
  have gD : G1 D = none := none_of_ex st.gh hD
  have hlen : ∀ i, i ≤ ts.length → ((ts.take i).map ys).flatten.length ≤ 100000 := fun i hi => by
    have h1 : ((ts.take i).map ys).flatten.length = ((ts.take i).map fun t => (ys t).length).sum := by
      rw [List.length_flatten, List.map_map]; rfl
    have h2 : ((ts.take i).map fun t => (ys t).length).sum ≤ (ts.map fun t => (ys t).length).sum := by
      conv => rhs; rw [← List.take_append_drop i ts, List.map_append, List.sum_append]
      omega
    omega
  -- the state: what is made so far
  refine in_it (P := fun x H' Nx => gLc2 (c.blk scope) tg tg1 iter1 elt (wipeD δ (own.map (·.2))) (own.map (·.2)) vs1 x (wipe σ (own.map (·.2))) H' fun σ2 H2 => wipe σ2 (own.map (·.2)) = wipe σ (own.map (·.2)) ∧ tYes σ2 H2 fun b H3 =>
    if b = true then iLc2 (c.blk scope) tg tg1 iter1 elt (wipeD δ (own.map (·.2))) (own.map (·.2)) vs1 σ2 H3 fun J1 H4 => ∃ W1 : Nat → Nat → Hp → Prop, (∃ m, W1 0 m H4) ∧ ∀ j k H, W1 j k H →
      (J1.stop j H ∧ Nx H) ∨ (J1.go j H ∧ ∃ Nx1 : Hp → Prop, (∀ H', Nx1 H' → ∃ k', k' < k ∧ W1 (j + 1) k' H') ∧ ∀ x H', J1.yld j H x H' → gLc2i (c.blk scope) tg1 elt vs1 x (wipe σ2 vs1) H' fun σ3 H5 => wipe σ3 vs1 = wipe σ2 vs1 ∧ tYes σ3 H5 fun b H6 =>
        if b = true then tLc2E (c.blk scope) tg1 elt vs1 σ3 H6 fun y H7 => ∃ acc, H7 D = some (.lst acc) ∧ acc.length < sizeLine ∧ Nx1 (upd H7 D (.lst (acc ++ [y]))) else Nx1 H6)
    else Nx H3) wk (fun i H' => ∃ G' acc, Env W G' H' σ δ ∧ Step G1 H1 G' H' ∧ G' D = none ∧ H' D = some (.lst acc) ∧ RpA G' acc ((ts.take i).map ys).flatten) ?_ (fun i H' _ ⟨G', acc, e', s', _⟩ => s'.g.trans e'.w.gh) ?_ ?_
  · have st0 : Step G1 H1 G1 (upd H1 D (.lst [])) := Step.grow st.gh (Ex.new hD)
    exact ⟨G1, [], e1.step st0, st0, gD, upd_same, .nil⟩
  · intro i x H' H'' hi ⟨Ga, acc, ea, sa, gDa, hD', raa⟩ ⟨hH, hx⟩
    subst hH
    obtain ⟨G', d, sg, hd, rd⟩ := hx Ga sa.g ea.w.gh
    have e' := ea.step sg
    have s' := sa.trans sg
    have gD' := sg.nw D (ntup_lst hD') gDa
    have ra := raa.mono sg.g
    rw [List.getElem?_map] at hd
    cases ht1 : ts[i]? with
    | none => rw [ht1] at hd; cases hd
    | some t =>
    rw [ht1] at hd
    obtain rfl : enc t = d := Option.some.inj hd
    obtain ⟨δt, ns, ds1, T⟩ := ht t (List.mem_of_getElem? ht1)
    have hit : i < ts.length := lt_of_get ht1
    have snoc : ((ts.take (i + 1)).map ys).flatten = ((ts.take i).map ys).flatten ++ ys t := by
      rw [List.take_add_one, ht1, List.map_append, List.flatten_append]
      simp
    have hln := hlen (i + 1) hit
    rw [snoc, List.length_append] at hln
    refine ⟨_, δt, ns, ds1, ys t, T, W, G', e'.wipe _, rd, fun σ2 e2 k2 => ⟨?_, ?_⟩⟩
    · rw [wipe_eq k2.1 fun i hi => k2.2 i fun m => hi (T.sub i m), wipe_wipe]
    refine ⟨_, δt, ns, ds1, ys t, T, W, G', e2, fun J1 G3 H3 st3 wk1 => ?_⟩
    refine in_it (P := fun x H' Nx1 => gLc2i (c.blk scope) tg1 elt vs1 x (wipe σ2 vs1) H' fun σ3 H5 => wipe σ3 vs1 = wipe σ2 vs1 ∧ tYes σ3 H5 fun b H6 =>
        if b = true then tLc2E (c.blk scope) tg1 elt vs1 σ3 H6 fun y H7 => ∃ acc, H7 D = some (.lst acc) ∧ acc.length < sizeLine ∧ Nx1 (upd H7 D (.lst (acc ++ [y]))) else Nx1 H6) wk1
      (fun j H4 => ∃ G4 acc4, Env W G4 H4 σ δ ∧ Env W G4 H4 σ2 δt ∧ Ex G3 G4 ∧ Step G1 H1 G4 H4 ∧ G4 D = none ∧ H4 D = some (.lst acc4) ∧ RpA G4 acc4 (((ts.take i).map ys).flatten ++ (ys t).take j)) ?_ (fun j H4 _ ⟨G4, acc4, e4, f4, x4, _⟩ => x4.trans e4.w.gh) ?_ ?_
    · have sb := s'.trans st3
      refine ⟨G3, acc, e1.step sb, e2.step st3, Ex.refl _, sb, st3.nw D (ntup_lst hD') gD', st3.h _ _ hD', ?_⟩
      rw [List.take_zero, List.append_nil]
      exact ra.mono st3.g
    · intro j x1 H4 H5 hj ⟨Gb, acc4, eb, fb, xb, sb4, gDb, hD4, rab⟩ ⟨hH, hx1⟩
      subst hH
      obtain ⟨G4, d1, sg4, hd1, rd1⟩ := hx1 Gb xb eb.w.gh
      have e4 := eb.step sg4
      have f4 := fb.step sg4
      have x4 := xb.trans sg4.g
      have s4 := sb4.trans sg4
      have gD4 := sg4.nw D (ntup_lst hD4) gDb
      have ra4 := rab.mono sg4.g
      have hjy : j < (ys t).length := by rw [T.len]; exact hj
      obtain ⟨δ2, ns2, T2⟩ := T.elt j d1 (ys t)[j] hd1 (List.getElem?_eq_getElem hjy)
      refine ⟨d1, _, _, δ2, ns2, T2, W, G4, f4.wipe vs1, rd1, fun σ3 e5 k5 => ⟨?_, ?_⟩⟩
      · rw [wipe_eq k5.1 fun i hi => k5.2 i fun m => hi (T2.sub i m), wipe_wipe]
      refine ⟨d1, _, _, δ2, ns2, T2, W, G4, e5, fun v G6 H6 st6 r6 => ?_⟩
      have gD6 := st6.nw D (ntup_lst hD4) gD4
      have sc := s4.trans st6
      refine ⟨acc4, st6.h _ _ hD4, ?_, G6, acc4 ++ [v], (e4.step st6).laid no gD6 hD0, (f4.step st6).laid T.no gD6 hD0, x4.trans st6.g, ?_, gD6, upd_same, ?_⟩
      · rw [ra4.length, List.length_append, List.length_take, Nat.min_eq_left (by omega)]
        rw [sizeLine_eq]
        omega
      · refine ⟨sc.g, fun a o z => ?_, fun a o z => ?_, sc.nw⟩
        · have zn : a ≠ D := fun z2 => by rw [z2, hD] at z; cases z
          rw [upd_ne zn]; exact sc.h a o z
        · have zn : a ≠ D := fun z2 => by rw [z2, gD6] at z; cases z
          rw [upd_ne zn]; exact sc.gh a o z
      · rw [List.take_add_one, List.getElem?_eq_getElem hjy, ← List.append_assoc]
        exact (ra4.mono st6.g).append (.cons r6 .nil)
    · intro H4 ⟨G4, acc4, e4, f4, x4, s4, gD4, hD4, ra4⟩
      rw [← T.len, List.take_length, ← snoc] at ra4
      exact ⟨G4, acc4, e4, s4, gD4, hD4, ra4⟩
  · intro H' ⟨G', acc, e', s', gD', hD', ra⟩
    rw [List.length_map, List.take_length] at ra
    have xg : Ex G' (upd G' D (.lst acc)) := Ex.new gD'
    refine q _ (upd G' D (.lst acc)) H' (st.trans ⟨s'.g.trans xg, s'.h, fun a o z => ?_, fun a h1 h2 => ?_⟩) (.lst upd_same (ra.mono xg))
    · by_cases z2 : a = D
      · subst z2; rw [upd_same] at z; rw [← z]; exact hD'
      · rw [upd_ne z2] at z; exact e'.w.gh a o z
    · have zn : a ≠ D := fun z2 => h1.ne (z2 ▸ hD)
      rw [upd_ne zn]; exact s'.nw a h1 h2
end
end M
namespace M
open L2 PyProof.Rows PySem.Spec PySem
/-! ### tables -/
def tbGet (tb : List (List Int × PyData)) (k : List Int) : Option PyData := (tb.find? fun p => decide (p.1 = k)).map (·.2)
def kbGet (tb : List (Int × PyData)) (k : Int) : Option PyData := (tb.find? fun p => decide (p.1 = k)).map (·.2)
theorem keyI_inj {a b : List Int} (h : keyI a = keyI b) : a = b := by
  have := congrArg (List.map fun x : Key => match x with | .inl i => i | .inr _ => 0) h
  rw [List.map_map, List.map_map] at this
  simpa [Function.comp_def] using this
theorem keyI_kV (k : List Int) : (keyI k).map kV = k.map V.int := by rw [List.map_map]; rfl
theorem TbA.get {G : Hp} {k : List Int} : ∀ {kvs tb}, TbA G kvs tb → (∀ d, tbGet tb k = some d → ∃ v, valV kvs (keyI k) = some v ∧ Rp G v d) ∧ (tbGet tb k = none → valV kvs (keyI k) = none)
  | _, _, .nil => ⟨fun d h => (by cases h), fun _ => rfl⟩
  | _, _, .cons (k := k') (v := v) (d := d) (tb := tb) h r => by
    by_cases e : k' = k
    · subst e
      refine ⟨fun d' h' => ⟨v, valV_pos rfl, ?_⟩, fun h' => ?_⟩
      · have z : tbGet ((k', d) :: tb) k' = some d := by simp [tbGet]
        rw [z] at h'
        rw [← Option.some.inj h']; exact h
      · have z : tbGet ((k', d) :: tb) k' = some d := by simp [tbGet]
        rw [z] at h'; cases h'
    · have z : tbGet ((k', d) :: tb) k = tbGet tb k := by simp [tbGet, e]
      have ne : ¬ keyI k' = keyI k := fun q => e (keyI_inj q)
      rw [z, valV_neg (p := (keyI k', v)) ne]
      exact TbA.get r
theorem KbA.get {G : Hp} {k : Int} : ∀ {kvs tb}, KbA G kvs tb → (∀ d, kbGet tb k = some d → ∃ v, valV kvs (Sum.inl k : Key) = some v ∧ Rp G v d) ∧ (kbGet tb k = none → valV kvs (Sum.inl k : Key) = none)
  | _, _, .nil => ⟨fun d h => (by cases h), fun _ => rfl⟩
  | _, _, .cons (k := k') (v := v) (d := d) (tb := tb) h r => by
    by_cases e : k' = k
    · subst e
      refine ⟨fun d' h' => ⟨v, valV_pos rfl, ?_⟩, fun h' => ?_⟩
      · have z : kbGet ((k', d) :: tb) k' = some d := by simp [kbGet]
        rw [z] at h'
        rw [← Option.some.inj h']; exact h
      · have z : kbGet ((k', d) :: tb) k' = some d := by simp [kbGet]
        rw [z] at h'; cases h'
    · have z : kbGet ((k', d) :: tb) k = kbGet tb k := by simp [kbGet, e]
      have ne : ¬ (Sum.inl k' : Key) = Sum.inl k := fun q => e (Sum.inl.inj q)
      rw [z, valV_neg (p := ((Sum.inl k' : Key), v)) ne]
      exact KbA.get r
theorem TbA.snoc {G : Hp} {k : List Int} {v : V} {d : PyData} (r : Rp G v d) : ∀ {kvs tb}, TbA G kvs tb → TbA G (kvs ++ [(keyI k, v)]) (tb ++ [(k, d)])
  | _, _, .nil => .cons r .nil
  | _, _, .cons h t => .cons h (TbA.snoc r t)
theorem KbA.snoc {G : Hp} {k : Int} {v : V} {d : PyData} (r : Rp G v d) : ∀ {kvs tb}, KbA G kvs tb → KbA G (kvs ++ [((Sum.inl k : Key), v)]) (tb ++ [(k, d)])
  | _, _, .nil => .cons r .nil
  | _, _, .cons h t => .cons h (KbA.snoc r t)
theorem rp_tupI {G : Hp} {v : V} {k : List Int} (h : Rp G v (tupI k)) : ∃ b, v = .ref b ∧ G b = some (.tup ((keyI k).map kV)) := by
  obtain ⟨a, xs, e, hp, r⟩ := rs_tup (H0 := G) (H := G) h
  refine ⟨a, e, ?_⟩
  rw [hp, r.ints, keyI_kV]
section
variable {c : CF} {δ δ1 δ2 δ' : Dl} {a b e t tg iter elt o i value : Expr} {pos p2 p3 : Pos} {s : Sl} {nx nx1 : Dl → Prop} {rt : Sl → Prop} {n : Nat} {d : PyData} {ns : List Nat} {ds : List PyData}
theorem Fam.hu {X : Cx} (f : Fam c X) : X.A.units + 1 < cLine := by
  have := f.room.un
  omega
/-- d[k], k a tuple of ints -/
theorem px_dgetU {tb : List (List Int × PyData)} {k : List Int} (ho : PX c o δ (.u tb)) (hi : PX c i δ (.p (tupI k))) (hd : tbGet tb k = some d) (hs : NoSl i) : PX c (.Subscript o i pos) δ (.p d) := fun X f => by
  refine PE.weak (pe_dget f.hu (ho X f) (hi X f) hs) fun σ H Q ⟨W, G, e, q⟩ => ⟨W, G, e, fun v1 G1 H1 st1 r1 => ⟨W, G1, e.step st1, fun v2 G2 H2 st2 r2 => ?_⟩⟩
  obtain ⟨a, kvs, rfl, h0, hg, hh, r⟩ := r1.step st2
  obtain ⟨b, rfl, hb⟩ := rp_tupI r2
  obtain ⟨v, hv, rv⟩ := r.get.1 d hd
  refine ⟨a, v, rfl, ?_, q v G2 H2 (st1.trans st2) rv⟩
  rw [← hv]
  exact DGet.t hh (st2.gh _ _ hb)
theorem px_dgetT {tb : List (List Int × PyData)} {k : List Int} (ho : PX c o δ (.t tb)) (hi : PX c i δ (.p (tupI k))) (hd : tbGet tb k = some d) (hs : NoSl i) : PX c (.Subscript o i pos) δ (.p d) := fun X f => by
  refine PE.weak (pe_dget f.hu (ho X f) (hi X f) hs) fun σ H Q ⟨W, G, e, q⟩ => ⟨W, G, e, fun v1 G1 H1 st1 r1 => ⟨W, G1, e.step st1, fun v2 G2 H2 st2 r2 => ?_⟩⟩
  obtain ⟨a, kvs, rfl, hg, r⟩ := r1.step st2
  obtain ⟨b, rfl, hb⟩ := rp_tupI r2
  obtain ⟨v, hv, rv⟩ := r.get.1 d hd
  refine ⟨a, v, rfl, ?_, q v G2 H2 (st1.trans st2) rv⟩
  rw [← hv]
  exact DGet.t (st2.gh _ _ hg) (st2.gh _ _ hb)
theorem px_dgetF {tb : List (List Int × PyData)} {k : List Int} (ho : PX c o δ (.f tb)) (hi : PX c i δ (.p (tupI k))) (hd : tbGet tb k = some d) (hs : NoSl i) : PX c (.Subscript o i pos) δ (.p d) := fun X f => by
  refine PE.weak (pe_dget f.hu (ho X f) (hi X f) hs) fun σ H Q ⟨W, G, e, q⟩ => ⟨W, G, e, fun v1 G1 H1 st1 r1 => ⟨W, G1, e.step st1, fun v2 G2 H2 st2 r2 => ?_⟩⟩
  obtain ⟨a, od, kvs, rfl, hg, r⟩ := r1.step st2
  obtain ⟨b, rfl, hb⟩ := rp_tupI r2
  obtain ⟨v, hv, rv⟩ := r.get.1 d hd
  refine ⟨a, v, rfl, ?_, q v G2 H2 (st1.trans st2) rv⟩
  rw [← hv]
  exact .inr ⟨kvs, keyI k, b, .inr ⟨od, st2.gh _ _ hg⟩, rfl, st2.gh _ _ hb, rfl⟩
/-- d[k], k an int -/
theorem px_kget {tb : List (Int × PyData)} {k : Int} (ho : PX c o δ (.k tb)) (hi : PX c i δ (.p (.int k))) (hd : kbGet tb k = some d) (hs : NoSl i) : PX c (.Subscript o i pos) δ (.p d) := fun X f => by
  refine PE.weak (pe_dget f.hu (ho X f) (hi X f) hs) fun σ H Q ⟨W, G, e, q⟩ => ⟨W, G, e, fun v1 G1 H1 st1 r1 => ⟨W, G1, e.step st1, fun v2 G2 H2 st2 r2 => ?_⟩⟩
  obtain ⟨a, kvs, rfl, h0, hg, hh, r⟩ := r1.step st2
  rw [rs_int r2]
  obtain ⟨v, hv, rv⟩ := r.get.1 d hd
  refine ⟨a, v, rfl, ?_, q v G2 H2 (st1.trans st2) rv⟩
  rw [← hv]
  exact DGet.k (k := Sum.inl k) hh
theorem px_kin {tb : List (Int × PyData)} {k : Int} (hi : PX c i δ (.p (.int k))) (ho : PX c o δ (.k tb)) : PXC c .In i o δ (kbGet tb k).isSome := fun X f => by
  refine PC.weak (pc_din f.hu (hi X f) (ho X f)) fun σ H Q ⟨W, G, e, q⟩ => ⟨W, G, e, fun v1 G1 H1 st1 r1 => ⟨W, G1, e.step st1, fun v2 G2 H2 st2 r2 => ?_⟩⟩
  obtain ⟨a, kvs, rfl, h0, hg, hh, r⟩ := r2
  rw [rs_int r1]
  refine ⟨a, _, rfl, DGet.k (k := Sum.inl k) hh, ?_⟩
  have z : (valV kvs (Sum.inl k : Key)).isSome = (kbGet tb k).isSome := by
    cases q : kbGet tb k with
    | none => rw [r.get.2 q]; rfl
    | some d =>
      obtain ⟨v, hv, _⟩ := r.get.1 d q
      rw [hv]
      rfl
  rw [z]
  exact q _ G2 H2 (st1.trans st2) (.bl _)
/-- d[k] = v, a new key -/
theorem pxs_dput {x : Str} {tb : List (List Int × PyData)} {k : List Int} (hN : c.N[n]? = some x) (hv : Vis c.sc x) (hδ : δ[n]? = some (some (.u tb))) (hi : PX c i δ (.p (tupI k))) (he : PX c value δ (.p d)) (hk : tbGet tb k = none) (hl : tb.length < 100000) (hs : ∀ env, swapsWith value (some (.Subscript (.Name x p2) i p3)) pos.line env = pure false)
    (hd : (x == ("__debug__" : Str)) = false := by decide) (hcd : (x == ("__classdict__" : Str)) = false := by decide) : PXS c (.Assign [.Subscript (.Name x p2) i p3] value pos) δ (fun d' => d' = δ.set n (some (.u (tb ++ [(k, d)])))) rt := fun X f => by
  refine PS.weak (ps_dput f.hu (pe_var (i := n) (by rw [f.N]; exact hN) (by rw [f.sc]; exact hv) hd hcd) (hi X f) (he X f) (hs X.env)) fun D σ H ⟨W, G, e, q, r⟩ => ⟨W, G, e, fun v1 G1 H1 st1 r1 => ?_⟩
  have e1 := e.step st1
  obtain ⟨w, hw, hrs⟩ := e1.at_ n _ hδ
  refine ⟨w, hw, W, G1, e1, fun v2 G2 H2 st2 r2 => ?_⟩
  obtain ⟨a, kvs, rfl, h0, hg, hh, rr⟩ := hrs.step st2
  obtain ⟨b, rfl, hb⟩ := rp_tupI r2
  refine ⟨a, _, rfl, DPut.t (k := keyI k) hh (st2.gh _ _ hb) (by rw [rr.length]; exact Nat.lt_of_lt_of_le hl (by decide)), ?_⟩
  rw [putK_new _ (rr.get.2 hk)]
  exact q _ G2 _ σ ((e1.step st2).write (s' := .u (tb ++ [(k, d)])) hδ rfl hw h0 hg ⟨a, _, rfl, h0, hg, upd_same, rr.snoc (Rp.mono st2.g r1)⟩ rfl) (st1.g.trans st2.g) rfl
theorem pxs_kput {x : Str} {tb : List (Int × PyData)} {k : Int} (hN : c.N[n]? = some x) (hv : Vis c.sc x) (hδ : δ[n]? = some (some (.k tb))) (hi : PX c i δ (.p (.int k))) (he : PX c value δ (.p d)) (hk : kbGet tb k = none) (hl : tb.length < 100000) (hs : ∀ env, swapsWith value (some (.Subscript (.Name x p2) i p3)) pos.line env = pure false)
    (hd : (x == ("__debug__" : Str)) = false := by decide) (hcd : (x == ("__classdict__" : Str)) = false := by decide) : PXS c (.Assign [.Subscript (.Name x p2) i p3] value pos) δ (fun d' => d' = δ.set n (some (.k (tb ++ [(k, d)])))) rt := fun X f => by
  refine PS.weak (ps_dput f.hu (pe_var (i := n) (by rw [f.N]; exact hN) (by rw [f.sc]; exact hv) hd hcd) (hi X f) (he X f) (hs X.env)) fun D σ H ⟨W, G, e, q, r⟩ => ⟨W, G, e, fun v1 G1 H1 st1 r1 => ?_⟩
  have e1 := e.step st1
  obtain ⟨w, hw, hrs⟩ := e1.at_ n _ hδ
  refine ⟨w, hw, W, G1, e1, fun v2 G2 H2 st2 r2 => ?_⟩
  obtain ⟨a, kvs, rfl, h0, hg, hh, rr⟩ := hrs.step st2
  rw [rs_int r2]
  refine ⟨a, _, rfl, DPut.k (k := Sum.inl k) hh (by rw [rr.length]; exact Nat.lt_of_lt_of_le hl (by decide)), ?_⟩
  rw [putK_new _ (rr.get.2 hk)]
  exact q _ G2 _ σ ((e1.step st2).write (s' := .k (tb ++ [(k, d)])) hδ rfl hw h0 hg ⟨a, _, rfl, h0, hg, upd_same, rr.snoc (Rp.mono st2.g r1)⟩ rfl) (st1.g.trans st2.g) rfl
/-- len(d) -/
theorem px_lenK {tb : List (Int × PyData)} (hm : c.mg "len" = none) (hg : GlN c "len") (ha : PX c a δ (.k tb)) (na : ∀ env, starEach [a] env = (false, eval a env) :: starEach [] env) : PX c (.Call (.Name "len" p2) [a] [] pos) δ (.p (.int (tb.length : Nat))) := by
  refine px_b1 (id := "len") (r := fun X xs H Q => ∃ d kvs, xs = [.ref d] ∧ H d = some (.dK kvs) ∧ Q (.int kvs.length) H) (fun X f => ?_) boot_len hm hg ha ?_ na
  · intro pins s σ H xs us Q I r h
    obtain ⟨d, kvs, rfl, hd, q⟩ := h
    rw [Vals.ref1 r]
    exact d_len I (.inl hd) fun t s' I' => ⟨.int kvs.length, H, I', ⟨t, rfl⟩, q⟩
  intro X f W G H σ v Q e r k
  obtain ⟨l, kvs, rfl, _, _, hh, rr⟩ := r
  refine ⟨l, kvs, rfl, hh, ?_⟩
  rw [rr.length]
  exact k _ G H (Step.refl e.w.gh) (.int _)
/-- return of a table of the def's own -/
theorem Env.freezeT {W : Wd} {G H : Hp} {σ : L2.St} {tb : List (List Int × PyData)} (e : Env W G H σ δ) (h : δ[n]? = some (some (.u tb))) : ∃ G', Ex G G' ∧ Env W G' H σ (δ.set n (some (.t tb))) := by
  obtain ⟨v, hv, l, xs, rfl, h0, hg, hh, r⟩ := e.at_ n _ h
  have xg : Ex G (upd G l (.dT xs)) := Ex.new hg
  refine ⟨upd G l (.dT xs), xg, ⟨e.w.g.trans xg, fun a u q => ?_, e.w.h, e.w.dom, fun a h1 h2 => ?_, e.w.m, e.w.mt⟩, by rw [List.length_set]; exact e.len, fun k s hs => ?_, fun k m sk sm u hk hm ok om ek em => ?_⟩
  · by_cases z : a = l
    · subst z; rw [upd_same] at q; rw [← q]; exact hh
    · rw [upd_ne z] at q; exact e.w.gh a u q
  · have z : a ≠ l := fun z => h1.ne (z ▸ h0)
    rw [upd_ne z]; exact e.w.nw a h1 h2
  · by_cases z : n = k
    · subst z
      have hl := lt_of_get h
      rw [List.getElem?_set_self hl] at hs
      have hs' := Option.some.inj (Option.some.inj hs)
      subst hs'
      exact ⟨_, hv, l, xs, rfl, upd_same, r.mono xg⟩
    · rw [List.getElem?_set_ne z] at hs
      obtain ⟨w, hw, rw_⟩ := e.at_ k s hs
      refine ⟨w, hw, ?_⟩
      have other : ∀ l', w = .ref l' → s.own = true → l' ≠ l := fun l' ew os q => z (e.sep n k _ s l h hs rfl os hv (by rw [hw, ew, q]))
      cases s with
      | p d => exact Rp.mono xg rw_
      | x d => exact rw_
      | f tb =>
        obtain ⟨a, od, kvs, e1, e2, e3⟩ := rw_
        exact ⟨a, od, kvs, e1, xg _ _ e2, e3.mono xg⟩
      | t tb =>
        obtain ⟨a, kvs, e1, e2, e3⟩ := rw_
        exact ⟨a, kvs, e1, xg _ _ e2, e3.mono xg⟩
      | o ds =>
        obtain ⟨l', ys, e1, e2, e3, e4, e5⟩ := rw_
        exact ⟨l', ys, e1, e2, by rw [upd_ne (other l' e1 rfl)]; exact e3, e4, e5.mono xg⟩
      | u ds =>
        obtain ⟨l', ys, e1, e2, e3, e4, e5⟩ := rw_
        exact ⟨l', ys, e1, e2, by rw [upd_ne (other l' e1 rfl)]; exact e3, e4, e5.mono xg⟩
      | k ds =>
        obtain ⟨l', ys, e1, e2, e3, e4, e5⟩ := rw_
        exact ⟨l', ys, e1, e2, by rw [upd_ne (other l' e1 rfl)]; exact e3, e4, e5.mono xg⟩
  · have nk : n ≠ k := fun z => by
      subst z
      rw [List.getElem?_set_self (lt_of_get h)] at hk
      rw [← Option.some.inj (Option.some.inj hk)] at ok
      cases ok
    have nm : n ≠ m := fun z => by
      subst z
      rw [List.getElem?_set_self (lt_of_get h)] at hm
      rw [← Option.some.inj (Option.some.inj hm)] at om
      cases om
    rw [List.getElem?_set_ne nk] at hk
    rw [List.getElem?_set_ne nm] at hm
    exact e.sep k m sk sm u hk hm ok om ek em
theorem pxb_freezeT {sts : List Stmt} {tb : List (List Int × PyData)} (hn : δ[n]? = some (some (.u tb))) (h : PXB c sts (δ.set n (some (.t tb))) nx rt) : PXB c sts δ nx rt := fun X f => PSs.weak (h X f) fun D σ H ⟨W, G, e, q, r⟩ => by
  obtain ⟨G', x', e'⟩ := e.freezeT hn
  exact ⟨W, G', e', fun δ' G2 H2 σ2 e2 x2 n2 => q δ' G2 H2 σ2 e2 (x'.trans x2) n2, r⟩
/-! ### keys -/
theorem pe_keysT {X : Cx} {td : TE} {apos cpos : Pos} (he : PE X e td) (hbase : attributeBase e "keys" X.env (eval e X.env) = eval e X.env) (hline : (apos.endLine == cpos.line) = true) : PI X tg (.Call (.Attribute e "keys" apos) [] [] cpos) (fun σ H R => td σ H fun x H1 => ∃ d o kvs, x = .ref d ∧ H1 d = some (.frz o (.dT kvs)) ∧ R (Itkt d o kvs) H1) := by
  refine ⟨fun pins s σ H R I h => ?_⟩
  refine wpAny_Call_method (T := "dict") (id := "dict.keys") hbase rfl hline F.plainAttrs_dict F.slot_dict_keys F.type_dict_keys (thn (he.run pins s σ H _ I h) fun u s1 ⟨x, H1, I1, rx, d, o, kvs, ex, hd, q⟩ => ?_)
  subst ex
  obtain rfl : u = Value.ref d := rx
  obtain ⟨hs, hgd, hx, es, ep, hdt, hsz, ent⟩ := I1.frzT hd
  have raw : s1.heap.DictRaw d es ep := ⟨o, hgd, hx, hdt⟩
  refine ⟨raw.typeIs, fun a ea => by cases ea; exact ⟨o, hgd, hx.2.1⟩, ?_⟩
  have I2 : Inv X pins σ H1 { s1 with heap := s1.heap.push { cls := .type "dict_keys", data := .fields #[.ref d] } } := I1.kept (t' := s1.toks) fun b ob q => Heap.get?_push_of_some _ q
  have fin : wpAny (model X.prog X.w) X.A (pyIter (.ref s1.heap.objs.size)) (PIE X pins σ tg R) X.xe { s1 with heap := s1.heap.push { cls := .type "dict_keys", data := .fields #[.ref d] } } := by
    refine wpAny_pyIter_keys_raw (d := d) ⟨_, Heap.get?_push_size _ rfl, rfl, rfl⟩ (raw.push _) (pi_one (tk := s1.toks) I2 _ (turn_keysT _ hdt) ⟨_, Heap.get?_push_size _ rfl, rfl, ?_⟩ q)
    rw [hsz] <;> rfl
  show wpAny _ _ (callWith cpos (.builtin "dict.keys") [.ref d] [] []) _ X.xe s1
  exact method_meetsIn F.slot_dict_keys F.entry_dict_keys rfl (PySem.evalArgs_none ⟨rfl, raw.typeIs, F.args_dict_keys_1 _, _, meets_dict_keys_raw d hs, ⟨es, ep, raw⟩, fin⟩)
/-- a tuple that stands is taken in -/
theorem Step.take {G H : Hp} {q : Addr} {ys : List V} (e : Ex G H) (h : H q = some (.tup ys)) : ∃ G', Step G H G' H ∧ G' q = some (.tup ys) := by
  cases z : G q with
  | some u =>
    have := e q u z
    rw [h] at this
    exact ⟨G, Step.refl e, by rw [z, ← this]⟩
  | none =>
    refine ⟨upd G q (.tup ys), ⟨Ex.new z, Ex.refl _, fun a o w => ?_, fun a n g => ?_⟩, upd_same⟩
    · by_cases y : a = q
      · subst y; rw [upd_same] at w; rw [← w]; exact h
      · rw [upd_ne y] at w; exact e a o w
    · have y : a ≠ q := fun y => by
        obtain ⟨u, hu, nt⟩ := n
        rw [y, h] at hu
        exact nt ys (Option.some.inj hu).symm
      rw [upd_ne y]; exact g
theorem src_keys {tb : List (List Int × PyData)} {apos cpos : Pos} (h : PX c e δ (.f tb)) (hbase : ∀ env, attributeBase e "keys" env (eval e env) = eval e env) (hline : (apos.endLine == cpos.line) = true) : Src c tg (.Call (.Attribute e "keys" apos) [] [] cpos) δ ((tb.map (·.1)).map tupI) := fun X f =>
  PI.weak (pe_keysT (h X f) (hbase X.env) hline) fun σ H R ⟨W, G, e, q⟩ => ⟨W, G, e, fun v G1 H1 st r => by
    obtain ⟨a, od, kvs, rfl, hg, r⟩ := r
    refine ⟨a, od, kvs, rfl, st.gh _ _ hg, q _ G1 H1 st ?_⟩
    have hl : kvs.length = ((tb.map (·.1)).map tupI).length := by rw [List.length_map, List.length_map]; exact r.length
    rw [← hl]
    refine walk_keysT.mono (fun H' e' => e' _ _ hg) fun i H x H' hi _ y => ⟨y.1, fun G' e1 e2 => ?_⟩
    obtain ⟨_, k, v, b, hk, rfl, hb⟩ := y
    have key : ∃ k', tb.map (·.1) = tb.map (·.1) ∧ (tb.map (·.1))[i]? = some k' ∧ k = keyI k' := by
      have gen : ∀ {kvs tb}, TbA G1 kvs tb → ∀ {i : Nat}, kvs[i]? = some (k, v) → ∃ k', (tb.map (·.1))[i]? = some k' ∧ k = keyI k' := by
        intro kvs tb r
        induction r with
        | nil => intro i h; simp at h
        | cons h r ih =>
          intro i hi
          cases i with
          | zero =>
            have z := Option.some.inj hi
            exact ⟨_, rfl, (congrArg Prod.fst z).symm⟩
          | succ i => exact ih hi
      obtain ⟨k', h1, h2⟩ := gen r hk
      exact ⟨k', rfl, h1, h2⟩
    obtain ⟨k', _, hk', rfl⟩ := key
    rw [keyI_kV] at hb
    obtain ⟨G'', sg, hq⟩ := Step.take e2 hb
    refine ⟨G'', tupI k', sg, by rw [List.getElem?_map, hk']; rfl, .tup hq (RpA.of_ints k')⟩⟩
/-- the table is locked while an expression runs -/
theorem px_lock {tb : List (List Int × PyData)} (hn : δ[n]? = some (some (.t tb))) (no : OwnFree δ) (uniq : ∀ (k : Nat) (tb' : List (List Int × PyData)), k ≠ n → δ[k]? ≠ some (some (.t tb'))) (h : PX c e (δ.set n (some (.f tb))) (.p d)) : PX c e δ (.p d) := fun X f => by
  refine PE.weak (pe_lock (h X f)) fun σ H Q ⟨W, G, e, q⟩ => ?_
  obtain ⟨v, hv, a, kvs, rfl, hg, r⟩ := e.at_ n _ hn
  have ha := e.w.gh _ _ hg
  refine ⟨a, .dT kvs, ha, trivial, fun od => ?_⟩
  have xgh : Ex (upd G a (.frz od (.dT kvs))) (upd H a (.frz od (.dT kvs))) := fun b o z => by
    by_cases y : b = a
    · subst y; rw [upd_same] at z ⊢; exact z
    · rw [upd_ne y] at z ⊢; exact e.w.gh b o z
  have rpm : ∀ {v d}, Rp G v d → Rp (upd G a (.frz od (.dT kvs))) v d := fun z => z.mono' (fun b xs y => by rw [upd_ne (fun w => by rw [w, hg] at y; cases y)]; exact y) (fun b xs y => by rw [upd_ne (fun w => by rw [w, hg] at y; cases y)]; exact y)
  have tbm : ∀ {kvs' tb'}, TbA G kvs' tb' → TbA (upd G a (.frz od (.dT kvs))) kvs' tb' := fun z => by
    induction z with
    | nil => exact .nil
    | cons h _ ih => exact .cons (rpm h) ih
  refine ⟨⟨fun _ => False, _, _⟩, upd G a (.frz od (.dT kvs)), ⟨⟨Ex.refl _, xgh, fun _ _ _ z => z, fun _ z => z, fun _ _ z => z, fun _ z => z.elim, fun _ z => z.elim⟩, by rw [List.length_set]; exact e.len, fun k s hs => ?_, fun k m sk sm u hk hm ok => ?_⟩, fun v G2 H2 st r2 => ?_⟩
  · by_cases z : n = k
    · subst z
      rw [List.getElem?_set_self (lt_of_get hn)] at hs
      rw [← Option.some.inj (Option.some.inj hs)]
      exact ⟨_, hv, a, od, kvs, rfl, upd_same, tbm r⟩
    · rw [List.getElem?_set_ne z] at hs
      obtain ⟨w, hw, rw_⟩ := e.at_ k s hs
      refine ⟨w, hw, ?_⟩
      have nk := no k s hs
      cases s with
      | p d => exact rpm rw_
      | x d => exact rw_
      | t tb' => exact absurd hs (uniq k tb' (fun y => z y.symm))
      | f tb' =>
        obtain ⟨b, od', kvs', e1, e2, e3⟩ := rw_
        exact ⟨b, od', kvs', e1, by rw [upd_ne (fun y => by rw [y, hg] at e2; cases e2)]; exact e2, tbm e3⟩
      | o ds => cases nk
      | u ds => cases nk
      | k ds => cases nk
  · exfalso
    by_cases z : n = k
    · subst z
      rw [List.getElem?_set_self (lt_of_get hn)] at hk
      rw [← Option.some.inj (Option.some.inj hk)] at ok
      cases ok
    · rw [List.getElem?_set_ne z] at hk
      rw [no k sk hk] at ok
      cases ok
  · have hfa : H2 a = some (.frz od (.dT kvs)) := st.h _ _ upd_same
    have gfa : G2 a = some (.frz od (.dT kvs)) := st.g _ _ upd_same
    refine ⟨hfa, q v (upd G2 a (.dT kvs)) (upd H2 a (.dT kvs)) ⟨fun b o z => ?_, fun b o z => ?_, fun b o z => ?_, fun b z w => ?_⟩ ?_⟩
    · by_cases y : b = a
      · subst y; rw [upd_same]; rw [hg] at z; exact z
      · rw [upd_ne y]; exact st.g b o (by rw [upd_ne y]; exact z)
    · by_cases y : b = a
      · subst y; rw [upd_same]; rw [ha] at z; exact z
      · rw [upd_ne y]; exact st.h b o (by rw [upd_ne y]; exact z)
    · by_cases y : b = a
      · subst y; rw [upd_same] at z ⊢; exact z
      · rw [upd_ne y] at z ⊢; exact st.gh b o z
    · have y : b ≠ a := fun y => by rw [y, hg] at w; cases w
      rw [upd_ne y]
      exact st.nw b (by rw [upd_ne y]; exact z) (by rw [upd_ne y]; exact w)
    · exact Rp.mono' (fun b xs y => by rw [upd_ne (fun w => by rw [w, gfa] at y; cases y)]; exact y) (fun b xs y => by rw [upd_ne (fun w => by rw [w, gfa] at y; cases y)]; exact y) r2
end
end M
namespace M
open L2 PyProof.Rows PySem.Spec PySem
/-! ### True - False -/
theorem sub_bool {prog : Program} {w : World} {A : Around} {E : Value → Shared → Prop} {s : Shared} {a b : Bool} {Q : Value → Shared → Prop} (h : Q (.int ((if a = true then (1 : Int) else 0) - if b = true then (1 : Int) else 0) s.toks) { s with toks := s.toks + 1 }) : wpAny (model prog w) A (binaryOp .Sub (.bool a) (.bool b)) Q E s :=
  binaryOp_gives (op := .Sub) (T := "bool") (id := "int.__sub__") rfl rfl F.fills_bool_sub F.slot_bool_sub F.entry_int_sub (F.args_int_sub_2 _ _) (m := .int ((if a = true then (1 : Int) else 0) - if b = true then (1 : Int) else 0)) (.of_eq rfl) trivial h
def b2 (b : Bool) : Int := if b = true then 1 else 0
theorem op_sub_bb {X : Cx} : OpR X (binaryOp .Sub) (fun x y H Q => ∃ a b, x = .bl a ∧ y = .bl b ∧ Q (.int (b2 a - b2 b)) H) := by
  intro pins s σ H x y v u Q I rx ry h
  obtain ⟨i, k, rfl, rfl, q⟩ := h
  cases rx
  cases ry
  exact sub_bool ⟨.int (b2 i - b2 k), H, I.tok _, ⟨_, rfl⟩, q⟩
/-! ### sorted of tuples of ints -/
def leT (a b : List Int) : Bool := decide (a ≤ b)
theorem dataLe_tups {β : Type} (x : β → List Int) : PySem.W.dataLe false (fun b => tupI (x b)) = fun p q => leT (x p) (x q) := by
  have h := PySem.W.dataLe_rows x
  have e : PySem.W.dataLe false (fun b => tupI (x b)) = PySem.W.dataLe false (fun b => PyData.list ((x b).map .int)) := by
    unfold PySem.W.dataLe
    have k : (fun b => PySem.W.keyToks (tupI (x b))) = fun b => PySem.W.keyToks (PyData.list ((x b).map .int)) := by
      funext b
      simp only [PySem.W.keyToks]
    rw [k]
  rw [e, h]
  rfl
/-- the sorted list -/
def sortT (ts : List (List Int)) : List (List Int) := ts.mergeSort leT
theorem each_vals : ∀ {xs : List V} {us : List Value} {ts : List (List Int)}, Vals xs us → xs.length = ts.length → PySem.W.EachIs (fun u (p : V × List Int) => RelV p.1 u) us (xs.zip ts)
  | [], _, [], r, _ => by cases r; exact .nil
  | x :: xs, _, t :: ts, r, h => by
    cases r with
    | cons r1 r2 => exact .cons r1 (each_vals r2 (by simpa using h))
theorem vals_each : ∀ {zs : List (V × List Int)} {us : List Value}, PySem.W.EachIs (fun u (p : V × List Int) => RelV p.1 u) us zs → Vals (zs.map (·.1)) us
  | [], _, r => by cases r; exact .nil
  | z :: zs, _, r => by
    cases r with
    | cons r1 r2 => exact .cons r1 (vals_each r2)
theorem each_reads {X : Cx} {pins : List (Addr × Obj)} {σ : L2.St} {H : Hp} {s : Shared} (I : Inv X pins σ H s) : ∀ {xs : List V} {us : List Value} {ts : List (List Int)}, Vals xs us → RpA H xs (ts.map tupI) → PySem.W.EachIs (fun u (p : V × List Int) => ∃ as, Reads s.heap u (tupI p.2) as) us (xs.zip ts)
  | [], _, [], r, _ => by cases r; exact .nil
  | x :: xs, _, [], r, h => by cases h
  | [], _, t :: ts, r, h => by cases h
  | x :: xs, _, t :: ts, r, h => by
    cases r with
    | cons r1 r2 =>
      cases h with
      | cons h1 h2 => exact .cons (Dp.reads I _ _ _ h1.dp r1) (each_reads I r2 h2)
theorem alike_tupI (a b : List Int) : PySem.W.alike (tupI a) (tupI b) = true := by
  have h := PySem.W.alike_ints a b
  simpa [PySem.W.alike] using h
theorem depth_tupI (a : List Int) : (tupI a).depth ≤ 1 := by
  rw [PyData.depth, dep_ints]
  exact Nat.le_refl _
/-- the values in their new order -/
def sortZ (xs : List V) (ts : List (List Int)) : List (V × List Int) := (xs.zip ts).mergeSort fun p q => leT p.2 q.2
theorem sortZ_snd {xs : List V} {ts : List (List Int)} (h : xs.length = ts.length) : (sortZ xs ts).map (·.2) = sortT ts := by
  unfold sortZ sortT
  rw [List.map_mergeSort (s := leT) (f := Prod.snd) (fun _ _ _ _ => rfl), List.map_snd_zip (by omega)]
theorem rpa_zip {G : Hp} : ∀ {xs : List V} {ts : List (List Int)}, RpA G xs (ts.map tupI) → ∀ z ∈ xs.zip ts, Rp G z.1 (tupI z.2)
  | [], _, _, z, m => by simp at m
  | x :: xs, [], h, z, m => by simp at m
  | x :: xs, t :: ts, h, z, m => by
    cases h with
    | cons h1 h2 =>
      rcases List.mem_cons.mp m with e | m
      · rw [e]; exact h1
      · exact rpa_zip h2 z m
theorem rpa_of_all {G : Hp} : ∀ {zs : List (V × List Int)}, (∀ z ∈ zs, Rp G z.1 (tupI z.2)) → RpA G (zs.map (·.1)) ((zs.map (·.2)).map tupI)
  | [], _ => .nil
  | z :: zs, h => .cons (h z List.mem_cons_self) (rpa_of_all fun y m => h y (List.mem_cons_of_mem _ m))
theorem sortZ_rpa {G : Hp} {xs : List V} {ts : List (List Int)} (h : RpA G xs (ts.map tupI)) : RpA G ((sortZ xs ts).map (·.1)) ((sortT ts).map tupI) := by
  rw [← sortZ_snd (by rw [h.length, List.length_map])]
  exact rpa_of_all fun z m => rpa_zip h z ((List.mergeSort_perm _ _).mem_iff.mp m)
theorem sortZ_length {xs : List V} {ts : List (List Int)} (h : xs.length = ts.length) : (sortZ xs ts).length = ts.length := by
  unfold sortZ
  rw [List.length_mergeSort, List.length_zip, h, Nat.min_self]
def rSortT : List V → Hp → VK → Prop := fun vs H Q => ∃ (a : Addr) (xs : List V) (ts : List (List Int)), vs = [V.ref a] ∧ H a = some (.lst xs) ∧ RpA H xs (ts.map tupI) ∧ (∀ t ∈ ts, t ≠ []) ∧ ts.length ≤ 100000 ∧ ∀ p, H p = none → Q (.ref p) (upd H p (.lst ((sortZ xs ts).map (·.1))))
theorem sortable_tups {bs : List (V × List Int)} (h : ∀ b ∈ bs, b.2 ≠ []) : PySem.W.Sortable (bs.map fun b => tupI b.2) := by
  refine .inl fun d hd => ?_
  obtain ⟨b, hb, rfl⟩ := List.mem_map.mp hd
  cases e : b.2 with
  | nil => exact absurd e (h b hb)
  | cons x r => exact ⟨_, _, rfl⟩
theorem alike_tups {bs : List (V × List Int)} : PySem.W.AllAlike (bs.map fun b => tupI b.2) := PySem.W.AllAlike.of fun b b' => alike_tupI _ _
theorem cr_sortT {X : Cx} (hu : X.A.units + 64 < cLine) : CallR X (.builtin "sorted") rSortT := by
  intro pins s σ H vs us Q I r h
  obtain ⟨a, xs, ts, rfl, ha, rx, hne, hl, q⟩ := h
  obtain ⟨its, rv, pl, hz⟩ := I.list (SqL.of ha)
  rw [Vals.ref1 r]
  have hlen : xs.length = ts.length := by rw [rx.length, List.length_map]
  have hzl : (xs.zip ts).length = ts.length := by rw [List.length_zip, hlen, Nat.min_self]
  refine PySem.W.sorted_data (R := fun u (p : V × List Int) => RelV p.1 u) (enc := fun p => tupI p.2) (bs := xs.zip ts) pl.isList (each_vals rv hlen) (each_reads I rv rx) alike_tups (sortable_tups fun b hb => hne _ (List.of_mem_zip hb).2) (by rw [hzl, sizeLine_eq]; omega) (fun b _ => ?_) fun out ho eo => ?_
  · have := depth_tupI b.2
    omega
  · rw [dataLe_tups] at eo
    have ev : Vals ((sortZ xs ts).map (·.1)) out := vals_each eo
    obtain ⟨ep, he'⟩ := PyProof.Rows.sortedAll_at s.heap its out.toArray
    refine ⟨.ref _, upd H (s.heap.objs.size + 1) (.lst ((sortZ xs ts).map (·.1))), I.laid (t' := s.toks) (fun _ _ => PyProof.Rows.sortedAll_old) (Nat.le_succ _) ⟨?_, out, ep, ev, he'⟩, rfl, q _ (I.hok.fresh (Nat.le_succ _))⟩
    rw [List.length_map, sortZ_length hlen, sizeLine_eq]
    omega
end M
namespace M
open L2 PyProof.Rows PySem.Spec PySem
open PySem.Calls (call_function_entry)
open PySem.W (KdlKeysView)
/-! ### sorted(d.keys()) -/
theorem reads_ints {h : Heap} : ∀ {ns : List Int} {vs : List Value} {as : List Addr}, ReadsAll h vs (ns.map PyData.int) as → as = []
  | [], _, _, r => by
    rw [List.map_nil] at r
    cases r
    rfl
  | n :: ns, _, _, r => by
    rw [List.map_cons] at r
    cases r with
    | cons h1 h2 =>
      cases h1
      rw [reads_ints h2]
      rfl
theorem reads_tupI {h : Heap} {v : Value} {ns : List Int} {as : List Addr} (r : Reads h v (tupI ns) as) : as = [] := by
  cases r with
  | tuple h1 h2 h3 h4 => exact reads_ints h4
/-- the view d.keys() at p -/
def keysO (p d : Addr) : HO := .ext fun h => KdlKeysView h p d
theorem keysO_ok {P : Program} {w : World} {H : Hp} {h : Heap} {p d : Addr} (e : h.get? p = some { cls := .type "dict_keys", data := .fields #[.ref d] }) : ObjOk P w H h p (keysO p d) :=
  ⟨⟨_, e, rfl, rfl⟩, ⟨_, e⟩, fun h1 h2 x k => let ⟨o, ho, r⟩ := x; ⟨o, k o ho, r⟩⟩
def rKeysT : V → List V → Hp → VK → Prop := fun x xs H Q => ∃ (a : Addr) (kvs : List (List Key × V)), x = .ref a ∧ xs = [] ∧ H a = some (.dT kvs) ∧ ∀ p, H p = none → Q (.ref p) (upd H p (keysO p a))
theorem mt_keysT {X : Cx} : MtR X "dict.keys" rKeysT := by
  intro pins s σ H x xs v us Q I rx rxs h
  obtain ⟨a, kvs, rfl, rfl, ha, q⟩ := h
  cases rx
  cases rxs
  obtain ⟨z, hd, xs', rel, o, es, ep, ho, hx, hdat, _⟩ := dt_of I.hok ha
  have raw : s.heap.DictRaw a es ep := ⟨o, ho, hx, hdat⟩
  refine call_meetsIn PySem.F.slot_dict_keys raw.typeIs PySem.F.entry_dict_keys (PySem.F.args_dict_keys_1 _) (meets_dict_keys_raw a hd) ⟨⟨es, ep, raw⟩, ?_⟩
  have hf : H s.heap.objs.size = none := I.hok.fresh (Nat.le_refl _)
  exact ⟨.ref s.heap.objs.size, upd H s.heap.objs.size (keysO s.heap.objs.size a), I.laid (t' := s.toks) (fun b u e => Heap.get?_push_of_some _ e) (Nat.le_refl _) (keysO_ok (Heap.get?_push_size _ rfl)), rfl, q _ hf⟩
/-- the key tuples stand -/
theorem isKeys_rpa {H : Hp} : ∀ {kvs : List (List Key × V)} {bs : List Addr} {ts : List (List Int)}, IsKeys H kvs bs → kvs.map (·.1) = ts.map keyI → (∀ G, (∀ b ys, H b = some (.tup ys) → G b = some (.tup ys)) → RpA G (bs.map V.ref) (ts.map tupI))
  | [], _, [], r, _ => by cases r; exact fun _ _ => .nil
  | [], _, t :: ts, r, h => by simp at h
  | kv :: kvs, _, [], r, h => by simp at h
  | kv :: kvs, _, t :: ts, r, h => by
    cases r with
    | cons r1 r2 =>
      rw [List.map_cons, List.map_cons] at h
      injection h with h1 h2
      intro G hG
      rw [h1, keyI_kV] at r1
      exact .cons (.tup (hG _ _ r1) (RpA.of_ints t)) (isKeys_rpa r2 h2 G hG)
def rSortK : List V → Hp → VK → Prop := fun vs H Q => ∃ (p a : Addr) (kvs : List (List Key × V)) (ts : List (List Int)), vs = [V.ref p] ∧ H p = some (keysO p a) ∧ H a = some (.dT kvs) ∧ kvs.map (·.1) = ts.map keyI ∧ (∀ t ∈ ts, t ≠ []) ∧ ts.length ≤ 100000 ∧
  ∀ D bs, H D = none → IsKeys H kvs bs → Q (.ref D) (upd H D (.lst ((sortZ (bs.map V.ref) ts).map (·.1))))
theorem cr_sortK {X : Cx} (hc : X.calm = true) (hu : X.A.units + 64 < cLine) : CallR X (.builtin "sorted") rSortK := by
  intro pins s σ H vs us Q I r h
  obtain ⟨p, a, kvs, ts, rfl, hp, ha, hk, hne, hl, q⟩ := h
  rw [Vals.ref1 r]
  have view : KdlKeysView s.heap p a := (show ObjOk X.prog X.w H s.heap p (keysO p a) from I.hok p _ hp).1
  obtain ⟨z, hd, ks, rel, o, es, ep, ho, hx, hdat, he, hn⟩ := dt_of I.hok ha
  have raw : s.heap.DictRaw a es ep := ⟨o, ho, hx, hdat⟩
  have l1 : es.size = ks.length := size_of_entries he
  have l2 : kvs.length = ks.length := Paired.length rel
  have l3 : kvs.length = ts.length := by
    have := congrArg List.length hk
    rw [List.length_map, List.length_map] at this
    exact this
  have hh : X.A.handled = none := I.ok.hd hc
  refine call_function_entry kind_sorted plain_sorted entry_sorted (args_sorted1 _) ?_
  unfold Builtin.«sorted»
  refine wpAny_bind (m := checkCount "sorted" 1 1 _) (wpAny_pure ?_)
  refine wpAny_bind (PySem.W.kdu_collect (A := X.A.in1) (PySem.KdlSrc.rawKeys (r := p) (d := a) (es := es) (ep := ep)) hh ⟨view, raw⟩ (by rw [l1, ← l2, l3, sizeLine_eq]; omega) fun h' tk acc kp it => ?_)
  have ea : acc.toList = (ks.map fun x => x.2.1).map Value.ref := by
    have hl : acc.toList.length = ks.length := by rw [Array.length_toList, it.1]; exact l1
    apply List.ext_getElem?
    intro j
    rw [List.getElem?_map, List.getElem?_map]
    cases hj : acc.toList[j]? with
    | none =>
      have h1 := List.getElem?_eq_none_iff.mp hj
      rw [List.getElem?_eq_none (by omega)]
      all_goals rfl
    | some v =>
      obtain ⟨hen, hv⟩ := it.2 j v (by rw [← Array.getElem?_toList]; exact hj)
      have qe := entry_at he j
      rw [Array.getElem?_eq_getElem hen] at qe
      cases hb : ks[j]? with
      | none =>
        rw [hb] at qe
        exact nomatch (show some es[j] = none from qe)
      | some b =>
        rw [hb] at qe
        have e2 : es[j] = entryOfKey (tupleKind (mixKind X.prog X.w)) b := Option.some.inj qe
        rw [hv, e2]
        all_goals rfl
  have hlen : acc.toList.length = ts.length := by rw [ea, List.length_map, List.length_map, ← l2, l3]
  refine wpAny_bind (wpAny_newList ?_ (by rw [hlen, sizeLine_eq]; omega))
  have I1 : Inv X pins σ H { s with heap := h', toks := tk } := I.kept kp
  have isk : IsKeys H kvs (ks.map fun x => x.2.1) := isKeys_of rel
  have hD : H h'.objs.size = none := I1.hok.fresh (Nat.le_refl _)
  have rv : Vals ((ks.map fun x => x.2.1).map V.ref) acc.toList := by rw [ea]; exact vals_refs _
  have rx : RpA H ((ks.map fun x => x.2.1).map V.ref) (ts.map tupI) := isKeys_rpa isk hk H fun _ _ y => y
  have lx : ((ks.map fun x => x.2.1).map V.ref).length = ts.length := by rw [List.length_map, List.length_map, ← l2, l3]
  have hzl : (((ks.map fun x => x.2.1).map V.ref).zip ts).length = ts.length := by rw [List.length_zip, lx, Nat.min_self]
  have I2 : Inv X pins σ H { s with heap := h'.push { cls := .type "list", data := .seq acc.toList.toArray }, toks := tk } := I1.kept fun b u e => Heap.get?_push_of_some _ e
  have her : PySem.W.EachIs (fun u (p : V × List Int) => ∃ as, Reads (h'.push { cls := .type "list", data := .seq acc.toList.toArray }) u (tupI p.2) as ∧ h'.objs.size ∉ as) acc.toList (((ks.map fun x => x.2.1).map V.ref).zip ts) := by
    have e1 := each_reads I1 rv rx
    have gen : ∀ {us : List Value} {bs : List (V × List Int)}, PySem.W.EachIs (fun u (p : V × List Int) => ∃ as, Reads h' u (tupI p.2) as) us bs → PySem.W.EachIs (fun u (p : V × List Int) => ∃ as, Reads (h'.push { cls := .type "list", data := .seq acc.toList.toArray }) u (tupI p.2) as ∧ h'.objs.size ∉ as) us bs := by
      intro us bs e
      induction e with
      | nil => exact .nil
      | cons h _ ih =>
        obtain ⟨as, ra⟩ := h
        refine .cons ⟨as, Reads.keeps (fun b o e => Heap.get?_push_of_some _ e) ra, fun m => ?_⟩ ih
        rw [reads_tupI ra] at m
        cases m
    exact gen e1
  have hob : (h'.push { cls := .type "list", data := .seq acc.toList.toArray }).get? h'.objs.size = some (seqObj "list" acc.toList.toArray 0) := Heap.get?_push_size _ rfl
  refine wpAny_bind (wpAny_holding (PySem.W.list_sort_data (s := { s with heap := h'.push { cls := .type "list", data := .seq acc.toList.toArray }, toks := tk }) (A := X.A.in1) (R := fun u (p : V × List Int) => RelV p.1 u) (enc := fun p => tupI p.2) (bs := ((ks.map fun x => x.2.1).map V.ref).zip ts) hob (each_vals rv lx) her alike_tups (sortable_tups fun b hb => hne _ (List.of_mem_zip hb).2) (by rw [hzl, sizeLine_eq]; omega) (fun b _ => ?_) fun out lo eo => ?_))
  · have h1 := depth_tupI b.2
    have h2 : X.A.in1.units ≤ X.A.units + 1 := by
      first | exact Nat.le_refl _ | (unfold Around.in1; simp) | (show X.A.units + 1 ≤ X.A.units + 1; omega)
    omega
  · rw [dataLe_tups] at eo
    have ev : Vals ((sortZ ((ks.map fun x => x.2.1).map V.ref) ts).map (·.1)) out := vals_each eo
    obtain ⟨e2, he'⟩ := PyProof.Rows.sortedHeap_at (vs := acc.toList) (out := out.toArray) hob
    refine wpAny_pure ⟨_, rfl, .ref h'.objs.size, upd H h'.objs.size (.lst ((sortZ ((ks.map fun x => x.2.1).map V.ref) ts).map (·.1))), ?_, rfl, q _ _ hD isk⟩
    refine I1.laid (t' := tk) (fun b u e => ?_) (Nat.le_refl _) ⟨?_, out, e2, ev, he'⟩
    · have hb : b < h'.objs.size := Heap.lt_size e
      rw [PyProof.Rows.sortedHeap_old (Nat.ne_of_lt hb) (by rw [Heap.size_push]; exact Nat.lt_succ_of_lt hb)]
      exact Heap.get?_push_of_some _ e
    · rw [List.length_map, sortZ_length lx, sizeLine_eq]
      omega
end M
namespace M
open L2 PyProof.Rows PySem.Spec PySem
section
variable {c : CF} {δ δ1 δ2 δ' : Dl} {a b e t tg iter elt o i value : Expr} {pos p2 p3 : Pos} {s : Sl} {nx nx1 : Dl → Prop} {rt : Sl → Prop} {n : Nat} {d : PyData} {ns : List Nat} {ds : List PyData}
theorem px_subB {x y : Bool} (ha : PX c a δ (.p (.bool x))) (hb : PX c b δ (.p (.bool y))) : PX c (.BinOp a .Sub b pos) δ (.p (.int (b2 x - b2 y))) := fun X f => by
  refine PE.weak (pe_op op_sub_bb (ha X f) (hb X f)) fun σ H Q ⟨W, G, e, q⟩ => tXop e fun v1 v2 G2 H2 st r1 r2 => ?_
  rw [rs_bl r1, rs_bl r2]
  exact ⟨x, y, rfl, rfl, q _ G2 H2 st (.int _)⟩
theorem px_sorted {ts : List (List Int)} (hm : c.mg "sorted" = none) (hg : GlN c "sorted") (ha : PX c a δ (.p (.list (ts.map tupI)))) (hne : ∀ t ∈ ts, t ≠ []) (hl : ts.length ≤ 100000) (na : ∀ env, starEach [a] env = (false, eval a env) :: starEach [] env) : PX c (.Call (.Name "sorted" p2) [a] [] pos) δ (.p (.list ((sortT ts).map tupI))) := by
  refine px_b1 (id := "sorted") (r := fun X => rSortT) (fun X f => cr_sortT f.room.units) (by decide +kernel) hm hg ha ?_ na
  intro X f W G H σ v Q e r k
  obtain ⟨p, xs, rfl, hp, ra⟩ := rs_lst r
  refine ⟨p, xs, ts, rfl, e.w.gh _ _ hp, ra.mono e.w.gh, hne, hl, fun u hu => ?_⟩
  have st : Step G H (upd G u (.lst ((sortZ xs ts).map (·.1)))) (upd H u (.lst ((sortZ xs ts).map (·.1)))) := Step.new e.w.gh hu
  exact k _ _ _ st (.lst upd_same ((sortZ_rpa ra).mono st.g))
theorem tba_keys {G : Hp} : ∀ {kvs tb}, TbA G kvs tb → kvs.map (·.1) = (tb.map (·.1)).map keyI
  | _, _, .nil => rfl
  | _, _, .cons h r => by
    rw [List.map_cons, List.map_cons, List.map_cons, tba_keys r]
/-- tuples that stand are taken in, one after another -/
theorem Step.takes {H : Hp} : ∀ {bs : List Addr} {ts : List (List Int)} {G : Hp}, Ex G H → (∀ j : Nat, ∀ b : Addr, ∀ t : List Int, bs[j]? = some b → ts[j]? = some t → H b = some (.tup (t.map V.int))) → bs.length = ts.length → ∃ G', Step G H G' H ∧ RpA G' (bs.map V.ref) (ts.map tupI)
  | [], [], G, e, _, _ => ⟨G, Step.refl e, .nil⟩
  | [], _ :: _, _, _, _, h => by simp at h
  | _ :: _, [], _, _, _, h => by simp at h
  | b :: bs, t :: ts, G, e, h, hl => by
    obtain ⟨G1, s1, h1⟩ := Step.take e (h 0 b t rfl rfl)
    obtain ⟨G2, s2, h2⟩ := Step.takes (bs := bs) (ts := ts) s1.gh (fun j x y hx hy => h (j + 1) x y hx hy) (by simpa using hl)
    exact ⟨G2, s1.trans s2, .cons (.tup (s2.g _ _ h1) (RpA.of_ints t)) h2⟩
theorem isKeys_at {H : Hp} : ∀ {kvs : List (List Key × V)} {bs : List Addr} {ts : List (List Int)}, IsKeys H kvs bs → kvs.map (·.1) = ts.map keyI → bs.length = ts.length ∧ ∀ j : Nat, ∀ b : Addr, ∀ t : List Int, bs[j]? = some b → ts[j]? = some t → H b = some (.tup (t.map V.int))
  | [], _, [], r, _ => by cases r; exact ⟨rfl, fun j b t h => by simp at h⟩
  | [], _, t :: ts, r, h => by simp at h
  | kv :: kvs, _, [], r, h => by simp at h
  | kv :: kvs, _, t :: ts, r, h => by
    cases r with
    | cons r1 r2 =>
      rw [List.map_cons, List.map_cons] at h
      injection h with h1 h2
      rw [h1, keyI_kV] at r1
      obtain ⟨l, q⟩ := isKeys_at r2 h2
      refine ⟨by simp [l], fun j b t' hb ht => ?_⟩
      cases j with
      | zero =>
        rw [← Option.some.inj hb, ← Option.some.inj ht]
        exact r1
      | succ j => exact q j b t' hb ht
/-- sorted(d.keys()) -/
theorem px_sortedKeys {tb : List (List Int × PyData)} {apos cpos : Pos} (hm : c.mg "sorted" = none) (hg : GlN c "sorted") (ho : PX c e δ (.t tb)) (hne : ∀ t ∈ tb.map (·.1), t ≠ []) (hl : tb.length ≤ 100000) (hbase : ∀ env, attributeBase e "keys" env (eval e env) = eval e env) (hline : (apos.endLine == cpos.line) = true)
    (na : ∀ env, starEach [.Call (.Attribute e "keys" apos) [] [] cpos] env = (false, eval (.Call (.Attribute e "keys" apos) [] [] cpos) env) :: starEach [] env) : PX c (.Call (.Name "sorted" p2) [.Call (.Attribute e "keys" apos) [] [] cpos] [] pos) δ (.p (.list ((sortT (tb.map (·.1))).map tupI))) := fun X f => by
  refine PE.weak (pe_callB (cr_sortK f.calm f.room.units) (show X.env.scope.names.lookup _ = _ by rw [f.sc]; exact hg) (by rw [f.mg]; exact hm) (by decide +kernel) (pa_cons (pe_bm0 PySem.F.plainAttrs_dict PySem.F.slot_dict_keys PySem.F.type_dict_keys mt_keysT (ho X f) (hbase X.env) hline) pa_nil (na X.env)) (by decide) (by decide) (na X.env)) fun σ H Q ⟨W, G, e, q⟩ => ⟨W, G, e, fun v G1 H1 st r => ?_⟩
  obtain ⟨a, kvs, rfl, ha, ra⟩ := r
  have ha' := st.gh _ _ ha
  refine ⟨.inr (.inr (.inl ⟨rfl, .inr ⟨kvs, ha'⟩⟩)), a, kvs, rfl, rfl, ha', fun p hp => ?_⟩
  have np : a ≠ p := ne_of_none ha' hp
  have st1 : Step G1 H1 G1 (upd H1 p (keysO p a)) := Step.grow st.gh (Ex.new hp)
  have hk := tba_keys ra
  refine ⟨p, a, kvs, tb.map (·.1), rfl, upd_same, by rw [upd_ne np]; exact ha', hk, hne, by rw [List.length_map]; exact hl, fun D bs hD isk => ?_⟩
  obtain ⟨lb, ab⟩ := isKeys_at isk hk
  obtain ⟨G2, s2, r2⟩ := Step.takes st1.gh ab lb
  have st3 : Step G2 (upd H1 p (keysO p a)) (upd G2 D (.lst ((sortZ (bs.map V.ref) (tb.map (·.1))).map (·.1)))) (upd (upd H1 p (keysO p a)) D (.lst ((sortZ (bs.map V.ref) (tb.map (·.1))).map (·.1)))) := Step.new s2.gh hD
  exact q _ _ _ (((st.trans st1).trans s2).trans st3) (.lst upd_same ((sortZ_rpa r2).mono st3.g))
/-! ### list(range(n)) -/
theorem px_listRange {n : Nat} {p4 p5 : Pos} (hm : c.mg "list" = none) (hg : GlN c "list") (hm2 : c.mg "range" = none) (hg2 : GlN c "range") (ha : PX c a δ (.p (.int (n : Nat)))) (hn : n ≤ 100000) (na : ∀ env, starEach [a] env = (false, eval a env) :: starEach [] env)
    (ne : ∀ env, starEach [.Call (.Name "range" p4) [a] [] p5] env = (false, eval (.Call (.Name "range" p4) [a] [] p5) env) :: starEach [] env) : PX c (.Call (.Name "list" p2) [.Call (.Name "range" p4) [a] [] p5] [] pos) δ (.p (.list (rgD 0 n))) := fun X f => by
  refine PE.weak (pe_listRg f.calm (show X.env.scope.names.lookup _ = _ by rw [f.sc]; exact hg) (by rw [f.mg]; exact hm) (prg_1 (show X.env.scope.names.lookup _ = _ by rw [f.sc]; exact hg2) (by rw [f.mg]; exact hm2) (ha X f) (na X.env)) (ne X.env)) fun σ H Q ⟨W, G, e, q⟩ => ⟨W, G, e, fun v G1 H1 st r => ?_⟩
  rw [rs_int r]
  refine ⟨(n : Int), rfl, RgOk.of_le (by omega) (by omega) (by omega) (by omega), fun u hu => ?_⟩
  have st2 : Step G1 H1 (upd G1 u (.lst (rgV 0 n))) (upd H1 u (.lst (rgV 0 n))) := Step.new st.gh hu
  refine q _ _ _ (st.trans st2) (.lst upd_same ?_)
  unfold rgV
  have z : ((n : Int) - 0).toNat = n := by omega
  rw [z]
  exact rgD_rp _ 0 n
/-! ### len(set(xs)) -/
def distinct (ns : List Int) : Nat := (PyProof.Rows.firstMet (fun i => ns.getD i 0) ns.length).length
def tLenSet (K : PySem.W.Frag) (ta : TE) : TE := fun σ H Q => ta σ H fun x H1 => ∃ (l : Addr) (ns : List Int), x = .ref l ∧ SqL K H1 l (ns.map V.int) ∧ ns.length ≤ 4000 ∧ Q (.int (distinct ns : Nat)) H1
theorem pe_lenSet {X : Cx} {a : Expr} {ta : TE} {p p2 q pos : Pos} (hg : Gl X "len") (hm : X.mg "len" = none) (hg2 : Gl X "set") (hm2 : X.mg "set" = none) (ha : PE X a ta) (hc : X.calm = true)
    (na : starEach [a] X.env = (false, eval a X.env) :: starEach [] X.env) : PE X (.Call (.Name "len" p) [.Call (.Name "set" p2) [a] [] q] [] pos) (tLenSet X.K ta) := by
  refine ⟨fun pins s σ H Q I h => ?_⟩
  refine Call_ (ld_blt I hg hm boot_len ?_)
  refine PyProof.Rows.callWith_builtin1 (PyProof.Rows.args_cons ?_ rfl) rfl rfl
  refine Call_ (ld_blt I hg2 hm2 boot_set ?_)
  refine PyProof.Rows.callWith_type1 (PyProof.Rows.args_cons (thn (ha.run pins s σ H _ I h) fun v s1 ⟨x, H1, I1, r1, q1⟩ => PyProof.Rows.args_nil ?_) na) na rfl
  obtain ⟨l, ns, rfl, hq, hl, q1⟩ := q1
  cases r1
  obtain ⟨its, r, pl, hz⟩ := I1.list hq
  have hlen : its.toArray.size = ns.length := by rw [List.size_toArray, ← r.length, List.length_map]
  refine call_set_list (I1.ok.hd hc) pl.isList (by simpa using RZ.intsAre_vals r) (by rw [hlen]; unfold scanBound; omega) fun h' tk hS hk => ?_
  refine PyProof.Rows.args_nil ?_
  rw [hlen] at hS
  obtain ⟨o, es, ep, t, ho, hex, hd, _, _, _, hf, hn⟩ := hS
  have I2 : Inv X pins σ H1 { s1 with heap := h', toks := tk } := I1.kept fun b o e => hk b o (Heap.lt_size e) e
  have hle := PyProof.Rows.firstMet_length_le (fun i => ns.getD i 0) ns.length
  exact call_len_set ho hex hd hf (by rw [hn] <;> omega) ⟨.int (distinct ns : Nat), H1, I2.tok _, ⟨_, by rw [hn]; rfl⟩, q1⟩
theorem px_lenSet {ms : List Int} {p4 p5 : Pos} (hm : c.mg "len" = none) (hg : GlN c "len") (hm2 : c.mg "set" = none) (hg2 : GlN c "set") (ha : PX c a δ (.p (.list (ms.map PyData.int)))) (hn : ms.length ≤ 4000) (na : ∀ env, starEach [a] env = (false, eval a env) :: starEach [] env) : PX c (.Call (.Name "len" p2) [.Call (.Name "set" p4) [a] [] p5] [] pos) δ (.p (.int (distinct ms : Nat))) := fun X f => by
  refine PE.weak (pe_lenSet (show X.env.scope.names.lookup _ = _ by rw [f.sc]; exact hg) (by rw [f.mg]; exact hm) (show X.env.scope.names.lookup _ = _ by rw [f.sc]; exact hg2) (by rw [f.mg]; exact hm2) (ha X f) f.calm (na X.env)) fun σ H Q ⟨W, G, e, q⟩ => ⟨W, G, e, fun v G1 H1 st r => ?_⟩
  obtain ⟨p, xs, rfl, hp, ra⟩ := rs_lst r
  rw [ra.ints] at hp
  exact ⟨p, ms, rfl, SqL.of (st.gh _ _ hp), hn, q _ G1 H1 st (.int _)⟩
/-! ### xs.index(t), xs a list of tuples of ints -/
theorem px_indexT {ts : List (List Int)} {k : List Int} {j : Nat} {apos cpos : Pos} (ho : PX c o δ (.p (.list (ts.map tupI)))) (ha : PX c a δ (.p (tupI k))) (hj : ts[j]? = some k) (hf : ∀ (m : Nat) (t : List Int), m < j → ts[m]? = some t → t ≠ k)
    (hbase : ∀ env, attributeBase o "index" env (eval o env) = eval o env)
    (hfew : ∀ env, ((backTo cpos (starEach [a] env)).all (fun x => !x.1) && (backToKw cpos (keywordEach [] env)).all (fun x => x.1.isSome) && decide ([a].length + ([] : List Keyword).length + (if ([] : List Keyword).isEmpty then 0 else 1) < 30)) = true)
    (hline : (apos.endLine == cpos.line) = true) (hs : ∀ env, starEach [a] env = (false, eval a env) :: starEach [] env) (hplain : ∀ env, (backTo cpos (starEach [] env)).any (·.1) = false) : PX c (.Call (.Attribute o "index" apos) [a] [] cpos) δ (.p (.int (j : Nat))) := fun X f => by
  refine PE.weak (pe_bm PySem.F.plainAttrs_list PySem.F.slot_list_index PySem.F.type_list_index (mt_indexD (by have := f.room.un; omega)) (ho X f) (pa_cons (ha X f) pa_nil (hs X.env)) (hbase X.env) (hfew X.env) hline (hs X.env) (hplain X.env)) fun σ H Q ⟨W, G, e, q⟩ => ⟨W, G, e, fun v G1 H1 st r => ?_⟩
  obtain ⟨p, xs, rfl, hp, ra⟩ := rs_lst r
  refine ⟨.inl ⟨rfl, xs, SqL.of (st.gh _ _ hp)⟩, W, G1, e.step st, fun v2 G2 H2 st2 r2 => ?_⟩
  refine ⟨p, v2, tupI k, ts.map tupI, j, tupI k, rfl, rfl, (Rp.mono (st2.g.trans st2.gh) (Rp.lst hp ra)).dp, (Rp.mono st2.gh r2).dp, shaped_tups ts, shaped_tupI k, by rw [List.getElem?_map, hj]; rfl, by rw [eqv_tupI, decide_eq_true rfl], fun m z hm hz => ?_, q _ G2 H2 (st.trans st2) (.int _)⟩
  rw [List.getElem?_map] at hz
  cases ht : ts[m]? with
  | none => rw [ht] at hz; cases hz
  | some t =>
    rw [ht] at hz
    rw [← Option.some.inj hz, eqv_tupI, decide_eq_false (hf m t hm ht)]
end
end M
namespace M
open L2 PyProof.Rows PySem.Spec PySem
/-! ### sizes -/
def Bd (n : Nat) (i : Int) : Prop := i.natAbs < 2 ^ n
instance {n : Nat} {i : Int} : Decidable (Bd n i) := inferInstanceAs (Decidable (i.natAbs < 2 ^ n))
theorem bd_mono {n m : Nat} {i : Int} (h : Bd n i) (l : n ≤ m) : Bd m i := Nat.lt_of_lt_of_le h (Nat.pow_le_pow_right (by decide) l)
theorem bd_add {n m : Nat} {i j : Int} (h : Bd n i) (k : Bd m j) : Bd (max n m + 1) (i + j) := by
  have h1 := bd_mono h (Nat.le_max_left n m)
  have h2 := bd_mono k (Nat.le_max_right n m)
  unfold Bd at *
  rw [Nat.pow_succ]
  have := Int.natAbs_add_le i j
  omega
theorem bd_neg {n : Nat} {i : Int} (h : Bd n i) : Bd n (-i) := by
  unfold Bd at *
  rw [Int.natAbs_neg]; exact h
theorem bd_sub {n m : Nat} {i j : Int} (h : Bd n i) (k : Bd m j) : Bd (max n m + 1) (i - j) := by
  rw [Int.sub_eq_add_neg]; exact bd_add h (bd_neg k)
theorem bd_mul {n m : Nat} {i j : Int} (h : Bd n i) (k : Bd m j) : Bd (n + m) (i * j) := wide_lt h k
theorem bd_div {n : Nat} {i j : Int} (h : Bd n i) : Bd n (i / j) := Nat.lt_of_le_of_lt (Int.natAbs_ediv_le_natAbs i j) h
theorem mulW {n m : Nat} {i j : Int} (h : Bd n i) (k : Bd m j) (l : n + m + 2 ≤ 1000000) : CMulW i j := wide_mul (bd_mono h (Nat.le_succ n)) (bd_mono k (Nat.le_succ m)) (Nat.succ_pos _) (Nat.succ_pos _) (by omega)
theorem divX {n : Nat} {i j : Int} (h : Bd n j) (k : j ≠ 0) (l : n + 1 ≤ 9000) : CDivX i j := ⟨k, Nat.lt_of_lt_of_le (PySem.Flt.log2_lt_of (Nat.succ_pos n) (bd_mono h (Nat.le_succ n))) l⟩
/-! ### a def where the top has put it -/
structure DefAt (K : PySem.W.Frag) (mg : Str → Option Value) (x : Str) (st : Stmt) (ps : List Str) : Prop where
  ex : ∃ (f : Addr) (fd : FuncData), L2.Fun K x x st f fd ∧ mg x = some (.ref f) ∧ Binds K fd ps []
theorem fn_at {P : Program} {w : World} {K : PySem.W.Frag} {mg : Str → Option Value} {base : Heap} {x : Str} {st : Stmt} {N ps : List Str} {k : Nat} {R : List Sl → Sl → Prop}
    (D : DefAt K mg x st ps) (S : FnScope N ps (defScope st)) (len : ∀ ss s, R ss s → ss.length = ps.length)
    (body : ∀ ss s, R ss s → PXB ⟨P, w, K, mg, base, N, defScope st, k, fun _ => true⟩ (defBody st) (slots N ss) (fun _ => s = .p .none) (fun s' => s' = s)) : Fn P w K mg base x R (k + 1) := by
  obtain ⟨f, fd, F, hm, hb⟩ := D.ex
  exact fn_mk F S hm hb len body
/-- the built-ins' names are free -/
structure Blt (mg : Str → Option Value) : Prop where
  len : mg "len" = none
  abs : mg "abs" = none
  int : mg "int" = none
  bool : mg "bool" = none
  str : mg "str" = none
  max : mg "max" = none
  list : mg "list" = none
  tuple : mg "tuple" = none
  set : mg "set" = none
  range : mg "range" = none
  sorted : mg "sorted" = none
  isi : mg "isinstance" = none
end M
namespace M
open L2 PyProof.Rows PySem.Spec PySem
section
variable {c : CF} {δ : Dl} {a b e t : Expr} {pos : Pos}
def PXAd (c : CF) (es : List Expr) (δ : Dl) (ds : List PyData) : Prop := PXA c es δ (ds.map Sl.p)
theorem pxd_nil : PXAd c [] δ [] := pxa_nil
theorem pxd_cons {es : List Expr} {d : PyData} {ds : List PyData} (ha : PX c e δ (.p d)) (hr : PXAd c es δ ds) (hs : ∀ env, starEach (e :: es) env = (false, eval e env) :: starEach es env) : PXAd c (e :: es) δ (d :: ds) := pxa_cons ha hr hs
theorem px_tupD {es : List Expr} {ds : List PyData} {k : Nat} (ha : PXAd c es δ ds) (hl : ds.length ≤ 1000 := by exact Nat.le_of_ble_eq_true rfl) : PX c (.Tuple es k pos) δ (.p (.tuple ds)) := px_tup ha hl
theorem px_lstD {es : List Expr} {ds : List PyData} (ha : PXAd c es δ ds) (hl : ds.length ≤ 1000 := by exact Nat.le_of_ble_eq_true rfl) : PX c (.List es pos) δ (.p (.list ds)) := px_lst ha hl
theorem pxn_lstD {es : List Expr} {ds : List PyData} (ha : PXAd c es δ ds) (hl : ds.length ≤ 1000 := by exact Nat.le_of_ble_eq_true rfl) : PXN c (.List es pos) δ (.o ds) := pxn_lst ha hl
def PXAi (c : CF) (es : List Expr) (δ : Dl) (ns : List Int) : Prop := PXA c es δ ((ns.map PyData.int).map Sl.p)
theorem pxi0 : PXAi c [] δ [] := pxa_nil
theorem pxi1 {es : List Expr} {n : Int} {ns : List Int} (ha : PX c e δ (.p (.int n))) (hr : PXAi c es δ ns) (hs : ∀ env, starEach (e :: es) env = (false, eval e env) :: starEach es env) : PXAi c (e :: es) δ (n :: ns) := pxa_cons ha hr hs
theorem px_tupI {es : List Expr} {ns : List Int} {k : Nat} (ha : PXAi c es δ ns) (hl : ns.length ≤ 1000 := by exact Nat.le_of_ble_eq_true rfl) : PX c (.Tuple es k pos) δ (.p (tupI ns)) := px_tup ha (by rw [List.length_map]; exact hl)
theorem px_lstI {es : List Expr} {ns : List Int} (ha : PXAi c es δ ns) (hl : ns.length ≤ 1000 := by exact Nat.le_of_ble_eq_true rfl) : PX c (.List es pos) δ (.p (.list (ns.map PyData.int))) := px_lst ha (by rw [List.length_map]; exact hl)
theorem px_ifD {x : Bool} {d1 d2 : PyData} (ht : PXT c t δ x) (h1 : x = true → PX c a δ (.p d1)) (h2 : x = false → PX c b δ (.p d2)) : PX c (.IfExp t a b pos) δ (.p (cond x d1 d2)) := by
  cases x with
  | true => exact px_if ht h1 (fun z => by cases z)
  | false => exact px_if ht (fun z => by cases z) h2
theorem px_ifI {x : Bool} {i j : Int} (ht : PXT c t δ x) (h1 : x = true → PX c a δ (.p (.int i))) (h2 : x = false → PX c b δ (.p (.int j))) : PX c (.IfExp t a b pos) δ (.p (.int (cond x i j))) := by
  cases x with
  | true => exact px_if ht h1 (fun z => by cases z)
  | false => exact px_if ht (fun z => by cases z) h2
end
end M
namespace M
open L2 PyProof.Rows PySem.Spec PySem
def rInDT (K : PySem.W.Frag) : R2 := fun x y H Q => ∃ d ds, Dp K H x d ∧ Dp K H y (.tuple ds) ∧ SeqAt.shaped d = true ∧ SeqAt.shaped (.tuple ds) = true ∧ Q (.bl (ds.any fun z => PyData.eqv z d)) H
theorem op_inDT {X : Cx} (hu : X.A.units + 65 < cLine) : OpR X (compareOp .In) (rInDT X.K) := by
  intro pins s σ H x y v u Q I rx ry h
  obtain ⟨d, ds, hd, he, sd, se, q⟩ := h
  obtain ⟨as, r1⟩ := Dp.reads I d x v hd rx
  obtain ⟨bs, r2⟩ := Dp.reads I (.tuple ds) y u he ry
  exact SeqAt.in_tuple_reads r2 r1 (SeqAt.canLay_of_shaped se) (SeqAt.canLay_of_shaped sd) (room_in_shaped sd hu) ⟨.bl _, H, I, rfl, q⟩
theorem shaped_tupsT (ts : List (List Int)) : SeqAt.shaped (.tuple (ts.map tupI)) = true := by
  have h := dep_tups ts
  refine shaped_of (by simpa [PyData.canLay0] using lay_tups ts) ?_
  rw [PyData.depth]
  omega
theorem any_tupI (n : List Int) (ts : List (List Int)) : ((ts.map tupI).any fun z => PyData.eqv z (tupI n)) = decide (n ∈ ts) := by
  rw [List.any_map]
  have : ((fun z => PyData.eqv z (tupI n)) ∘ tupI) = fun t => decide (t = n) := by
    funext t
    exact eqv_tupI t n
  rw [this]
  apply Bool.eq_iff_iff.mpr
  simp
section
variable {c : CF} {δ : Dl} {a b e t : Expr} {pos : Pos}
/-- a tuple of ints in a tuple of such -/
theorem px_inDT {n : List Int} {ts : List (List Int)} (ha : PX c a δ (.p (tupI n))) (hb : PX c b δ (.p (.tuple (ts.map tupI)))) : PXC c .In a b δ (decide (n ∈ ts)) := fun X f => by
  refine PC.weak (pc_of (op_inDT (by have := f.room.un; omega)) (ha X f) (hb X f)) fun σ H Q ⟨W, G, e, q⟩ => tXop e fun v1 v2 G2 H2 st r1 r2 => ?_
  refine ⟨_, _, (Rp.mono st.gh r1).dp, (Rp.mono st.gh r2).dp, shaped_tupI n, shaped_tupsT ts, ?_⟩
  rw [any_tupI]
  exact q _ G2 H2 st (.bl _)
end
/-- data of int tuples and lists of ints, as one has it -/
theorem eqv_nil (ds : List PyData) : PyData.eqv (.list ds) (.list []) = ds.isEmpty := by
  rw [PyData.eqv]
  cases ds with
  | nil => simp [PyData.eqvAll]
  | cons d ds => simp [PyData.eqvAll]
theorem shaped_nil : SeqAt.shaped (.list []) = true := shaped_of (by simp [PyData.canLay0, PyData.canLayAll0]) (by simp [PyData.depth, PyData.depthAll])
section
variable {c : CF} {δ : Dl} {a b e t : Expr} {pos p2 : Pos} {ds : List PyData}
theorem px_eqNil (ha : PX c a δ (.p (.list ds))) (sd : SeqAt.shaped (.list ds) = true) : PXC c .Eq a (.List [] p2) δ ds.isEmpty := by
  have h := px_eqD (δ := δ) ha (px_lstD (pos := p2) pxd_nil) sd shaped_nil
  rw [eqv_nil] at h
  exact h
theorem px_neNil (ha : PX c a δ (.p (.list ds))) (sd : SeqAt.shaped (.list ds) = true) : PXC c .NotEq a (.List [] p2) δ (!ds.isEmpty) := by
  have h := px_neD (δ := δ) ha (px_lstD (pos := p2) pxd_nil) sd shaped_nil
  rw [eqv_nil] at h
  exact h
end
end M
namespace M
open L2 PyProof.Rows PySem.Spec PySem
section
variable {c : CF} {δ : Dl} {a b e t tg iter elt tg1 iter1 : Expr} {pos p2 p3 : Pos} {ds out : List PyData} {n : Nat} {rt : Sl → Prop}
theorem px_uptoE {m : Nat} {k : Nat} (ha : PX c a δ (.p (.list ds))) (he : ds.take m = out) : PX c (.Subscript a (.Slice none (some (.Constant (.int (m : Nat)) k p3)) none p2) pos) δ (.p (.list out)) := by
  rw [← he]; exact px_upto ha
theorem px_lcE {α : Type} {enc : α → PyData} {ts : List α} {ifs : List Expr} {scope : Scope} {own : List (Str × Nat)} {cond : α → Bool} {y : α → PyData} (hN : c.N.Nodup) (hs : Src c tg iter δ (ts.map enc)) (ok : blkC c.N c.sc scope own = true) (hf : ∀ env x, foldedSetIterable iter env x = pure x)
    (ht : ∀ t ∈ ts, ∃ δt ns, Turn1 (c.blk scope) tg elt ifs (wipeD δ (own.map (·.2))) (own.map (·.2)) (enc t) (cond t) (y t) δt ns) (hl : ts.length ≤ 100000) (he : lcOut cond y ts = out) : PX c (.ListComp elt [⟨tg, iter, ifs, 0⟩] scope pos) δ (.p (.list out)) := by
  rw [← he]; exact px_lc cond y hN hs ok hf ht hl
theorem pxs_setLcE {α : Type} {enc : α → PyData} {ts : List α} {x : Str} {ifs : List Expr} {scope : Scope} {own : List (Str × Nat)} {cond : α → Bool} {y : α → PyData} (hN : c.N.Nodup) (hi : c.N[n]? = some x) (hx : c.sc.names.lookup x = some .local) (hk : c.sc.kind = .function) (hs : Src c tg iter δ (ts.map enc)) (ok : blkC c.N c.sc scope own = true) (hf : ∀ env x, foldedSetIterable iter env x = pure x)
    (ht : ∀ t ∈ ts, ∃ δt ns, Turn1 (c.blk scope) tg elt ifs (wipeD δ (own.map (·.2))) (own.map (·.2)) (enc t) (cond t) (y t) δt ns) (hl : ts.length ≤ 100000) (hln : (p2.line == p3.line) = true) (ha : (scope.names.any fun (n, k) => n == x && (k == .local || k == .cell)) = false) (he : lcOut cond y ts = out) :
    PXS c (.Assign [.Name x p2] (.ListComp elt [⟨tg, iter, ifs, 0⟩] scope p3) pos) δ (fun d => d = δ.set n (some (.p (.list out)))) rt := by
  rw [← he]; exact pxs_setLc cond y hN hi hx hk hs ok hf ht hl hln ha
theorem px_lc2E {α : Type} {enc : α → PyData} {ts : List α} {scope : Scope} {own : List (Str × Nat)} {vs1 : List Nat} {ys : α → List PyData} (hN : c.N.Nodup) (hs : Src c tg iter δ (ts.map enc)) (ok : blkC c.N c.sc scope own = true) (hv : ∀ i ∈ vs1, i ∈ own.map (·.2)) (hf : ∀ env x, foldedSetIterable iter env x = pure x) (hf1 : ∀ env x, foldedSetIterable iter1 env x = pure x)
    (no : OwnFree δ) (ht : ∀ t ∈ ts, ∃ δt ns ds1, Turn0 (c.blk scope) tg tg1 iter1 elt (wipeD δ (own.map (·.2))) (own.map (·.2)) vs1 (enc t) δt ns ds1 (ys t)) (hl : (ts.map fun t => (ys t).length).sum ≤ 100000) (he : (ts.map ys).flatten = out) : PX c (.ListComp elt [⟨tg, iter, [], 0⟩, ⟨tg1, iter1, [], 0⟩] scope pos) δ (.p (.list out)) := by
  rw [← he]; exact px_lc2 ys hN hs ok hv hf hf1 no ht hl
end
end M
namespace M
open L2 PyProof.Rows PySem.Spec PySem
def rgV (lo : Int) (n : Nat) : List Int := (List.range n).map fun i => lo + (i : Nat)
theorem rgD_V (lo : Int) (n : Nat) : rgD lo n = (rgV lo n).map PyData.int := by
  unfold rgD rgV; rw [List.map_map]; rfl
theorem rgV_length (lo : Int) (n : Nat) : (rgV lo n).length = n := by unfold rgV; simp
theorem rgV_get {lo : Int} {n i : Nat} {x : Int} (h : (rgV lo n)[i]? = some x) : i < n ∧ x = lo + (i : Nat) := by
  unfold rgV at h
  rw [List.getElem?_map] at h
  obtain ⟨k, hk, rfl⟩ := Option.map_eq_some_iff.mp h
  obtain ⟨h1, h2⟩ := List.getElem?_eq_some_iff.mp hk
  rw [List.length_range] at h1
  rw [List.getElem_range] at h2
  subst h2
  exact ⟨h1, rfl⟩
theorem mem_rgV {lo x : Int} {n : Nat} : x ∈ rgV lo n ↔ lo ≤ x ∧ x < lo + n := by
  unfold rgV
  rw [List.mem_map]
  constructor
  · rintro ⟨i, hi, rfl⟩
    rw [List.mem_range] at hi
    omega
  · rintro ⟨h1, h2⟩
    exact ⟨(x - lo).toNat, by rw [List.mem_range]; omega, by omega⟩
theorem get_map {α β : Type} {l : List α} {f : α → β} {i : Nat} {d : β} (h : (l.map f)[i]? = some d) : ∃ x, l[i]? = some x ∧ f x = d := by
  rw [List.getElem?_map] at h
  exact Option.map_eq_some_iff.mp h
theorem lcOut_true {α : Type} (y : α → PyData) (ts : List α) : lcOut (fun _ => true) y ts = ts.map y := by
  unfold lcOut
  rw [List.filter_eq_self.mpr (fun _ _ => rfl)]
theorem take_snoc {α : Type} {l : List α} {i : Nat} {x : α} (h : l[i]? = some x) : l.take (i + 1) = l.take i ++ [x] := by rw [List.take_add_one, h]; rfl
def ownB (δ : Dl) : Bool := δ.all fun o => match o with | some s => !s.own | none => true
theorem ownFree_of {δ : Dl} (h : ownB δ = true) : OwnFree δ := by
  intro k t hk
  have := List.all_eq_true.mp h (some t) (List.mem_of_getElem? hk)
  simpa using this
theorem sum_le {α : Type} (ts : List α) (f : α → Nat) (k : Nat) (h : ∀ t ∈ ts, f t ≤ k) : (ts.map f).sum ≤ ts.length * k := by
  induction ts with
  | nil => simp
  | cons t ts ih =>
    rw [List.map_cons, List.sum_cons, List.length_cons, Nat.add_mul, Nat.one_mul, Nat.add_comm]
    exact Nat.add_le_add (ih fun t ht => h t (List.mem_cons_of_mem _ ht)) (h t List.mem_cons_self)
section
variable {c : CF} {δ δt : Dl} {a b e t tg iter elt tg1 iter1 : Expr} {pos p2 p3 : Pos} {i j : Int} {n : Nat}
theorem src_range1V (hm : c.mg "range" = none) (hg : GlN c "range") (h : PX c a δ (.p (.int n))) (hn : n ≤ 100000) (hs : ∀ env, starEach [a] env = [(false, eval a env)]) : Src c tg (.Call (.Name "range" p2) [a] [] pos) δ ((rgV 0 n).map PyData.int) := by
  rw [← rgD_V]; exact src_range1 hm hg h hn hs
theorem src_range2V (hm : c.mg "range" = none) (hg : GlN c "range") (h : PX c a δ (.p (.int i))) (h2 : PX c b δ (.p (.int j))) (hi : -100000 ≤ i ∧ i ≤ 100000) (hj : -100000 ≤ j ∧ j ≤ 100000) (hs : ∀ env, starEach [a, b] env = [(false, eval a env), (false, eval b env)]) (hs2 : ∀ env, starEach [b] env = [(false, eval b env)]) : Src c tg (.Call (.Name "range" p2) [a, b] [] pos) δ ((rgV i (j - i).toNat).map PyData.int) := by
  rw [← rgD_V]; exact src_range2 hm hg h h2 hi hj hs hs2
theorem turn0 {β : Type} {enc1 y1 : β → PyData} {ts1 : List β} {δw : Dl} {vs vs1 ns : List Nat} {d : PyData} (tgt : PXG c tg δw δt d ns) (sub : ∀ n ∈ ns, n ∈ vs) (no : ownB δt = true) (src : Src c tg1 iter1 δt (ts1.map enc1))
    (he : ∀ t ∈ ts1, ∃ δ2 ns2, Turn2 c tg1 elt (wipeD δt vs1) vs1 (enc1 t) (y1 t) δ2 ns2) : ∃ δt ns ds1, Turn0 c tg tg1 iter1 elt δw vs vs1 d δt ns ds1 (ts1.map y1) := by
  refine ⟨_, _, _, tgt, sub, ownFree_of no, src, by rw [List.length_map, List.length_map], fun i d1 y h1 h2 => ?_⟩
  obtain ⟨t, ht, rfl⟩ := get_map h1
  obtain ⟨t', ht', rfl⟩ := get_map h2
  rw [ht] at ht'
  cases ht'
  exact he t (List.mem_of_getElem? ht)
/-- a loop over a list of such things -/
theorem pxs_forT {α : Type} {enc : α → PyData} {ts : List α} {body : List Stmt} {nx : Dl → Prop} {rt : Sl → Prop} (Pv : Nat → Dl → Prop) (hs : Src c tg iter δ (ts.map enc)) (h0 : Pv 0 δ) (ht : ∀ i t δ', ts[i]? = some t → Pv i δ' → ∃ δ'' ns, PXG c tg δ' δ'' (enc t) ns ∧ PXB c body δ'' (Pv (i + 1)) rt) (hd : ∀ δ', Pv ts.length δ' → nx δ') (hf : ∀ env x, foldedSetIterable iter env x = pure x) : PXS c (.For tg iter body [] pos) δ nx rt := by
  refine pxs_for Pv hs h0 (fun i d δ' hd' hp => ?_) (by rw [List.length_map]; exact hd) hf
  obtain ⟨t, ht', rfl⟩ := get_map hd'
  exact ht i t δ' ht' hp
end
end M
namespace M
open L2 PyProof.Rows PySem.Spec PySem
def Away (σ : L2.St) (δ : Dl) (l : Addr) : Prop := ∀ (j : Nat) (sj : Sl), δ[j]? = some (some sj) → sj.own = true → σ[j]? ≠ some (some (.ref l))
theorem away_of {W : Wd} {G H : Hp} {σ : L2.St} {δ : Dl} {l : Addr} (e : Env W G H σ δ) (h : H l = none) : Away σ δ l := fun j sj hj oj eσ => by
  obtain ⟨w, hw, rw_⟩ := e.at_ j sj hj
  rw [eσ] at hw
  have z := Option.some.inj (Option.some.inj hw)
  subst z
  exact own_there oj rw_ h
theorem away_set {σ : L2.St} {δ : Dl} {l : Addr} {i : Nat} {v : V} {s : Sl} (a : Away σ δ l) (h : s.own = true → v ≠ .ref l) : Away (σ.set i (some v)) (δ.set i (some s)) l := fun j sj hj oj eσ => by
  by_cases z : i = j
  · subst z
    have h1 := lt_of_get hj
    rw [List.length_set] at h1
    rw [List.getElem?_set_self h1] at hj
    have h2 := lt_of_get eσ
    rw [List.length_set] at h2
    rw [List.getElem?_set_self h2] at eσ
    have e1 := Option.some.inj (Option.some.inj hj)
    have e2 := Option.some.inj (Option.some.inj eσ)
    subst e1
    exact h oj e2
  · rw [List.getElem?_set_ne z] at hj eσ
    exact a j sj hj oj eσ
theorem Env.setA {W : Wd} {G H : Hp} {σ : L2.St} {δ : Dl} (e : Env W G H σ δ) {i : Nat} {v : V} {s : Sl} (r : RS W.H0 G H v s) (a : s.own = true → ∀ l, v = .ref l → Away σ δ l) : Env W G H (σ.set i (some v)) (δ.set i (some s)) :=
  e.set r fun so j sj l _ hj oj ev eσ => a so l ev j sj hj oj eσ
/-- args of which some are new lists or dicts -/
def Frsh (H : Hp) : List V → List Sl → Prop
  | v :: vs, s :: ss => (s.own = true → ∀ l, v = .ref l → H l = none ∧ ∀ (i : Nat) (t : Sl), ss[i]? = some t → t.own = true → vs[i]? ≠ some (.ref l)) ∧ Frsh H vs ss
  | _, _ => True
theorem Frsh.mono {H H' : Hp} (e : Ex H H') : ∀ {vs ss}, Frsh H' vs ss → Frsh H vs ss
  | [], _, _ => trivial
  | _ :: _, [], _ => trivial
  | v :: vs, s :: ss, ⟨h, r⟩ => ⟨fun o l z => ⟨none_of_ex e (h o l z).1, (h o l z).2⟩, Frsh.mono e r⟩
theorem Frsh.none {H : Hp} : ∀ {vs ss}, Frsh H vs ss → ∀ (i : Nat) (t : Sl) (l : Addr), ss[i]? = some t → t.own = true → vs[i]? = some (.ref l) → H l = .none
  | v :: vs, s :: ss, ⟨h, r⟩, 0, t, l, h1, h2, h3 => by
    rw [List.getElem?_cons_zero] at h1 h3
    cases h1; cases h3
    exact (h h2 l rfl).1
  | v :: vs, s :: ss, ⟨h, r⟩, i + 1, t, l, h1, h2, h3 => by
    rw [List.getElem?_cons_succ] at h1 h3
    exact r.none i t l h1 h2 h3
  | [], _, _, i, t, l, _, _, h3 => by simp at h3
  | _ :: _, [], _, i, t, l, h1, _, _ => by simp at h1
def PXAN (c : CF) (es : List Expr) (δ : Dl) (ss : List Sl) : Prop := ∀ X, Fam c X → PA X es (fun σ H Q => ∃ (W : Wd) (G : Hp), Env W G H σ δ ∧ ∀ vs G' H', Step G H G' H' → RSA W.H0 G' H' vs ss → Frsh H vs ss → Q vs H')
section
variable {c : CF} {δ : Dl} {a b e e3 : Expr} {es : List Expr} {s s1 s2 s3 : Sl} {ss : List Sl} {pos : Pos} {rt : Sl → Prop}
theorem pxan_nil : PXAN c [] δ [] := fun X f => PA.weak pa_nil fun σ H Q ⟨W, G, e, q⟩ => q [] G H (Step.refl e.w.gh) .nil trivial
theorem pxan_own (h : PXN c e δ s) (hr : PXAN c es δ ss) (hs : ∀ env, starEach (e :: es) env = (false, eval e env) :: starEach es env) : PXAN c (e :: es) δ (s :: ss) := fun X f => by
  refine PA.weak (pa_cons (h X f) (hr X f) (hs X.env)) fun σ H Q ⟨W, G, e, q⟩ => ⟨W, G, e, fun v G1 H1 st r nw => ⟨W, G1, e.step st, fun vs G2 H2 st2 r2 fr => q _ G2 H2 (st.trans st2) (.cons (r.step st2) r2) ⟨fun o l z => ⟨nw l z, fun i t hi ho hv => ?_⟩, fr.mono st.h⟩⟩⟩
  subst z
  exact own_there o r (fr.none i t l hi ho hv)
theorem pxan_p (h : PX c e δ s) (so : s.own = false) (hr : PXAN c es δ ss) (hs : ∀ env, starEach (e :: es) env = (false, eval e env) :: starEach es env) : PXAN c (e :: es) δ (s :: ss) := fun X f => by
  refine PA.weak (pa_cons (h X f) (hr X f) (hs X.env)) fun σ H Q ⟨W, G, e, q⟩ => ⟨W, G, e, fun v G1 H1 st r => ⟨W, G1, e.step st, fun vs G2 H2 st2 r2 fr => q _ G2 H2 (st.trans st2) (.cons (r.step st2) r2) ⟨fun o => ?_, fr.mono st.h⟩⟩⟩
  rw [so] at o
  cases o
theorem pxs_parN {n1 n2 : Nat} {x y : Str} {px py pt : Pos} {kt k2 : Nat} {pt2 : Pos} (hN : c.N.Nodup) (hi : c.N[n1]? = some x) (hj : c.N[n2]? = some y) (hij : n1 ≠ n2) (hx : c.sc.names.lookup x = some .local) (hy : c.sc.names.lookup y = some .local) (ha : PXAN c [a, b] δ [s1, s2])
    (hw : swappedStores [.Tuple [.Name x px, .Name y py] kt pt] (.Tuple [a, b] k2 pt2) (envS c.sc) = pure (some [x, y])) (hs : ∀ env, swapsWithSole [.Tuple [.Name x px, .Name y py] kt pt] (.Tuple [a, b] k2 pt2) pos.line env = pure false) :
    PXS c (.Assign [.Tuple [.Name x px, .Name y py] kt pt] (.Tuple [a, b] k2 pt2) pos) δ (fun d => d = (δ.set n1 (some s1)).set n2 (some s2)) rt := fun X f => by
  refine PS.weak (ps_par f.calm (by rw [f.N]; exact hN) (by rw [f.N]; exact hi) (by rw [f.N]; exact hj) hij (by rw [f.sc]; exact hx) (by rw [f.sc]; exact hy) (ha X f) (f.swap hw) (hs X.env)) fun D σ H ⟨W, G, e, q, r⟩ => ⟨W, G, e, fun vs G1 H1 st r1 fr => ?_⟩
  cases r1 with
  | cons h1 r1 =>
    cases r1 with
    | cons h2 r2 =>
      cases r2
      refine ⟨_, _, rfl, q _ G1 H1 _ (((e.step st).setA h1 fun o l z => away_of e (fr.1 o l z).1).setA h2 fun o l z => ?_) st.g rfl⟩
      refine away_set (away_of e (fr.2.1 o l z).1) fun o1 z1 => ?_
      exact (fr.1 o1 l z1).2 0 _ rfl o (by rw [z]; rfl)
theorem pxs_par3N {n1 n2 n3 : Nat} {x y z : Str} {px py pz pt : Pos} {kt k2 : Nat} {pt2 : Pos} (hN : c.N.Nodup) (hi : c.N[n1]? = some x) (hj : c.N[n2]? = some y) (hk : c.N[n3]? = some z) (hij : n1 ≠ n2) (hik : n1 ≠ n3) (hjk : n2 ≠ n3) (hx : c.sc.names.lookup x = some .local) (hy : c.sc.names.lookup y = some .local) (hz : c.sc.names.lookup z = some .local) (ha : PXAN c [a, b, e3] δ [s1, s2, s3])
    (hw : swappedStores [.Tuple [.Name x px, .Name y py, .Name z pz] kt pt] (.Tuple [a, b, e3] k2 pt2) (envS c.sc) = pure (some [x, y, z])) (hs : ∀ env, swapsWithSole [.Tuple [.Name x px, .Name y py, .Name z pz] kt pt] (.Tuple [a, b, e3] k2 pt2) pos.line env = pure false) :
    PXS c (.Assign [.Tuple [.Name x px, .Name y py, .Name z pz] kt pt] (.Tuple [a, b, e3] k2 pt2) pos) δ (fun d => d = ((δ.set n1 (some s1)).set n2 (some s2)).set n3 (some s3)) rt := fun X f => by
  refine PS.weak (ps_par3 f.calm (by rw [f.N]; exact hN) (by rw [f.N]; exact hi) (by rw [f.N]; exact hj) (by rw [f.N]; exact hk) hij hik hjk (by rw [f.sc]; exact hx) (by rw [f.sc]; exact hy) (by rw [f.sc]; exact hz) (ha X f) (f.swap hw) (hs X.env)) fun D σ H ⟨W, G, e, q, r⟩ => ⟨W, G, e, fun vs G1 H1 st r1 fr => ?_⟩
  cases r1 with
  | cons h1 r1 =>
    cases r1 with
    | cons h2 r2 =>
      cases r2 with
      | cons h3 r3 =>
        cases r3
        refine ⟨_, _, _, rfl, q _ G1 H1 _ ((((e.step st).setA h1 fun o l z => away_of e (fr.1 o l z).1).setA h2 fun o l z => ?_).setA h3 fun o l z => ?_) st.g rfl⟩
        · refine away_set (away_of e (fr.2.1 o l z).1) fun o1 z1 => ?_
          exact (fr.1 o1 l z1).2 0 _ rfl o (by rw [z]; rfl)
        · refine away_set (away_set (away_of e (fr.2.2.1 o l z).1) fun o1 z1 => ?_) fun o1 z1 => ?_
          · exact (fr.1 o1 l z1).2 1 _ rfl o (by rw [z]; rfl)
          · exact (fr.2.1 o1 l z1).2 0 _ rfl o (by rw [z]; rfl)
/-- .. unpacked from the tuple -/
theorem pxs_unpN {n1 n2 : Nat} {x y : Str} {px py pt : Pos} {kt k2 : Nat} {pt2 : Pos} (hN : c.N.Nodup) (hi : c.N[n1]? = some x) (hj : c.N[n2]? = some y) (hij : n1 ≠ n2) (hx : Loc c.sc x) (hy : Loc c.sc y) (hfx : c.own x = true ∨ c.sc.names.lookup x = some .local) (hfy : c.own y = true ∨ c.sc.names.lookup y = some .local) (ha : PXAN c [a, b] δ [s1, s2])
    (hs : ∀ env, swapsWithSole [.Tuple [.Name x px, .Name y py] kt pt] (.Tuple [a, b] k2 pt2) pos.line env = pure false)
    (hw : swappedStores [.Tuple [.Name x px, .Name y py] kt pt] (.Tuple [a, b] k2 pt2) (envS c.sc) = pure none) (h1 : ∀ env, (assignEach [.Tuple [.Name x px, .Name y py] kt pt] env).map (·.2) = [assign (.Tuple [.Name x px, .Name y py] kt pt) env])
    (hn : ∀ env, (assignEach [.Name x px, .Name y py] env).length = 2) (hst : ∀ env, (assignEach [.Name x px, .Name y py] env).findIdx? (·.1) = none)
    (hs1 : ∀ env, (assignEach [.Name x px, .Name y py] env).map (·.2) = assign (.Name x px) env :: (assignEach [.Name y py] env).map (·.2)) (hs2 : ∀ env, (assignEach [.Name y py] env).map (·.2) = assign (.Name y py) env :: (assignEach [] env).map (·.2)) :
    PXS c (.Assign [.Tuple [.Name x px, .Name y py] kt pt] (.Tuple [a, b] k2 pt2) pos) δ (fun d => d = (δ.set n1 (some s1)).set n2 (some s2)) rt := fun X f => by
  refine PS.weak (ps_asg (pe_tup (ha X f)) (pg_tup f.calm (pgs_cons (pg_name (i := n1) (by rw [f.N]; exact hN) (by rw [f.N]; exact hi) (by rw [f.sc]; exact hx) (by rw [f.sc]; exact hfx.imp (f.fn x) id)) (pgs_cons (pg_name (i := n2) (by rw [f.N]; exact hN) (by rw [f.N]; exact hj) (by rw [f.sc]; exact hy) (by rw [f.sc]; exact hfy.imp (f.fn y) id)) pgs_nil (hs2 X.env)) (hs1 X.env)) (hn X.env) (hst X.env)) (hs X.env) (f.swap hw) (h1 X.env)) fun D σ H ⟨W, G, e, q, r⟩ => ⟨W, G, e, fun vs G1 H1 st r1 fr => ?_⟩
  cases r1 with
  | cons h1 r1 =>
    cases r1 with
    | cons h2 r2 =>
      cases r2
      refine ⟨(show (2 : Nat) ≤ sizeLine by decide), fun p hp => ?_⟩
      refine ⟨p, _, rfl, SqT.of upd_same, rfl, _, _, rfl, _, _, rfl, rfl, ?_⟩
      refine q _ G1 _ _ ((((e.step (st.trans (Step.grow st.gh (Ex.new hp)))).setA (h1.step (Step.grow st.gh (Ex.new hp))) fun o l z => away_of e (fr.1 o l z).1).setA (h2.step (Step.grow st.gh (Ex.new hp))) fun o l z => ?_)) st.g rfl
      refine away_set (away_of e (fr.2.1 o l z).1) fun o1 z1 => ?_
      exact (fr.1 o1 l z1).2 0 _ rfl o (by rw [z]; rfl)
end
end M
namespace M
open L2 PyProof.Rows PySem.Spec PySem
theorem px_inDTE {c : CF} {δ : Dl} {a b : Expr} {n : List Int} {ts : List (List Int)} {ds : List PyData} (ha : PX c a δ (.p (tupI n))) (hb : PX c b δ (.p (.tuple ds))) (he : ds = ts.map tupI) : PXC c .In a b δ (decide (n ∈ ts)) := by
  subst he; exact px_inDT ha hb
theorem px_inDLE {c : CF} {δ : Dl} {a b : Expr} {n : List Int} {ts : List (List Int)} {ds : List PyData} (ha : PX c a δ (.p (tupI n))) (hb : PX c b δ (.p (.list ds))) (he : ds = ts.map tupI) : PXC c .In a b δ (decide (n ∈ ts)) := by
  subst he; exact px_inDL ha hb
end M
namespace M
open L2 PyProof.Rows PySem.Spec PySem
theorem px_fromE {c : CF} {δ : Dl} {a : Expr} {pos p2 p3 : Pos} {k m : Nat} {ds out : List PyData} (ha : PX c a δ (.p (.list ds))) (he : ds.drop m = out) : PX c (.Subscript a (.Slice (some (.Constant (.int (m : Nat)) k p3)) none none p2) pos) δ (.p (.list out)) := by
  rw [← he]; exact px_from ha
end M
namespace M
open L2 PyProof.Rows PySem.Spec PySem
/-! ### beside the known part, ONE list of the caller's that changes: the law's row -/
theorem sq_ex {K : PySem.W.Frag} {H H1 : Hp} {p : Addr} {xs : List V} (e : Ex H H1) (h : SqL K H p xs) : SqL K H1 p xs := by
  rcases h with h | h
  · refine .inl ?_
    rcases h with h | ⟨o, h⟩
    · exact .inl (e _ _ h)
    · exact .inr ⟨o, e _ _ h⟩
  · exact .inr h
structure RowH (K : PySem.W.Frag) (G H : Hp) (a : Addr) : Prop where
  g : G a = none
  ex : ∃ (l : Addr) (ns : List Int) (i s c : Int), SqL K G l (ns.map V.int) ∧ H a = some (.lst [.ref l, .int i, .int s, .int c]) ∧ 0 ≤ i ∧ 0 ≤ s ∧ s < 2147483647 ∧ 0 ≤ c
theorem RowH.nt {K : PySem.W.Frag} {G H : Hp} {a : Addr} (r : RowH K G H a) : NTup (H a) := by
  obtain ⟨l, ns, i, s, c, _, h, _⟩ := r.ex
  exact ntup_lst h
structure StepM (a : Addr) (G H G' H' : Hp) : Prop where
  g : Ex G G'
  h : ∀ b o, b ≠ a → H b = some o → H' b = some o
  gh : Ex G' H'
  nw : ∀ b, NTup (H b) → G b = none → G' b = none
theorem Step.toM {G H G' H' : Hp} (s : Step G H G' H') (a : Addr) : StepM a G H G' H' := ⟨s.g, fun b o _ e => s.h b o e, s.gh, s.nw⟩
theorem RowH.step {K : PySem.W.Frag} {G H G' H' : Hp} {a : Addr} (r : RowH K G H a) (s : Step G H G' H') : RowH K G' H' a := by
  refine ⟨s.nw a r.nt r.g, ?_⟩
  obtain ⟨l, ns, i, s', c, hs, h, q⟩ := r.ex
  exact ⟨l, ns, i, s', c, sq_ex s.g hs, s.h _ _ h, q⟩
theorem StepM.trans {K : PySem.W.Frag} {G H G1 H1 G2 H2 : Hp} {a : Addr} (s : StepM a G H G1 H1) (t : StepM a G1 H1 G2 H2) (r1 : RowH K G1 H1 a) (r2 : RowH K G2 H2 a) : StepM a G H G2 H2 := by
  refine ⟨s.g.trans t.g, fun b o hb e => t.h b o hb (s.h b o hb e), t.gh, fun b hn hg => ?_⟩
  by_cases z : b = a
  · rw [z]; exact r2.g
  · obtain ⟨u, hu, hn'⟩ := hn
    exact t.nw b ⟨u, s.h b u z hu, hn'⟩ (s.nw b ⟨u, hu, hn'⟩ hg)
structure EnvM (K : PySem.W.Frag) (a : Addr) (W : Wd) (G H : Hp) (σ : L2.St) (δ : Dl) : Prop where
  e : Env W G H σ δ
  m : ∀ b, W.M b ↔ b = a
  r : RowH K G H a
theorem wm_h0 {W : Wd} {G H : Hp} {a : Addr} (w : Wok W G H) (m : ∀ b, W.M b ↔ b = a) : W.H0 a ≠ none := (w.m a ((m a).mpr rfl)).1.ne
theorem RS.stepM {W : Wd} {G H G' H' : Hp} {a : Addr} {v : V} (w : Wok W G H) (m : ∀ b, W.M b ↔ b = a) (st : StepM a G H G' H') : ∀ {s : Sl}, RS W.H0 G H v s → RS W.H0 G' H' v s
  | .p _, h => Rp.mono st.g h
  | .o _, ⟨l, xs, e, h0, hg, hh, r⟩ => ⟨l, xs, e, h0, st.nw l (ntup_lst hh) hg, st.h _ _ (fun z => wm_h0 w m (z ▸ h0)) hh, r.mono st.g⟩
  | .t _, ⟨b, kvs, e, hg, r⟩ => ⟨b, kvs, e, st.g _ _ hg, r.mono st.g⟩
  | .u _, ⟨l, xs, e, h0, hg, hh, r⟩ => ⟨l, xs, e, h0, st.nw l (ntup_dT hh) hg, st.h _ _ (fun z => wm_h0 w m (z ▸ h0)) hh, r.mono st.g⟩
  | .k _, ⟨l, xs, e, h0, hg, hh, r⟩ => ⟨l, xs, e, h0, st.nw l (ntup_dK hh) hg, st.h _ _ (fun z => wm_h0 w m (z ▸ h0)) hh, r.mono st.g⟩
  | .x _, h => h
  | .f _, ⟨b, od, kvs, e, hg, r⟩ => ⟨b, od, kvs, e, st.g _ _ hg, r.mono st.g⟩
theorem RSA.stepM {W : Wd} {G H G' H' : Hp} {a : Addr} (w : Wok W G H) (m : ∀ b, W.M b ↔ b = a) (st : StepM a G H G' H') : ∀ {vs ss}, RSA W.H0 G H vs ss → RSA W.H0 G' H' vs ss
  | _, _, .nil => .nil
  | _, _, .cons h r => .cons (h.stepM w m st) (r.stepM w m st)
theorem Wok.stepM {K : PySem.W.Frag} {W : Wd} {G H G' H' : Hp} {a : Addr} (w : Wok W G H) (m : ∀ b, W.M b ↔ b = a) (st : StepM a G H G' H') (r : RowH K G' H' a) : Wok W G' H' := by
  refine ⟨w.g.trans st.g, st.gh, fun b o hm e => st.h b o (fun z => hm ((m b).mpr z)) (w.h b o hm e), fun b e => ?_, fun b h0 g0 => ?_, w.m, fun b hm => ?_⟩
  · have hb : b ≠ a := fun z => r.nt.ne (z ▸ e)
    refine w.dom b ?_
    cases q : H b with
    | none => rfl
    | some o => rw [st.h b o hb q] at e; cases e
  · by_cases z : b = a
    · rw [z]; exact r.g
    · exact st.nw b (w.ntup h0) (w.nw b h0 g0)
  · rw [(m b).mp hm]; exact r.nt
theorem EnvM.stepM {K : PySem.W.Frag} {W : Wd} {G H G' H' : Hp} {a : Addr} {σ : L2.St} {δ : Dl} (e : EnvM K a W G H σ δ) (st : StepM a G H G' H') (r : RowH K G' H' a) : EnvM K a W G' H' σ δ :=
  ⟨⟨e.e.w.stepM e.m st r, e.e.len, fun i s h => (e.e.at_ i s h).imp fun _ q => ⟨q.1, q.2.stepM e.e.w e.m st⟩, e.e.sep⟩, e.m, r⟩
theorem EnvM.step {K : PySem.W.Frag} {W : Wd} {G H G' H' : Hp} {a : Addr} {σ : L2.St} {δ : Dl} (e : EnvM K a W G H σ δ) (st : Step G H G' H') : EnvM K a W G' H' σ δ := e.stepM (st.toM a) (e.r.step st)
/-! ### the readings -/
def tXm (K : PySem.W.Frag) (a : Addr) (δ : Dl) (S : Sl → Prop) : TE := fun σ H Q => ∃ (W : Wd) (G : Hp), EnvM K a W G H σ δ ∧ ∀ v s G' H', StepM a G H G' H' → RowH K G' H' a → S s → RS W.H0 G' H' v s → Q v H'
def tXAm (K : PySem.W.Frag) (a : Addr) (δ : Dl) (SS : List Sl → Prop) : TA := fun σ H Q => ∃ (W : Wd) (G : Hp), EnvM K a W G H σ δ ∧ ∀ vs ss G' H', StepM a G H G' H' → RowH K G' H' a → SS ss → RSA W.H0 G' H' vs ss → Q vs H'
def tXSm (K : PySem.W.Frag) (a : Addr) (δ : Dl) (nx : Dl → Prop) (rt : Sl → Prop) : TS := fun D σ H => ∃ (W : Wd) (G : Hp), EnvM K a W G H σ δ ∧ (∀ δ' G' H' σ', EnvM K a W G' H' σ' δ' → Ex G G' → nx δ' → D.nx σ' H') ∧ (∀ v s G' H', Wok W G' H' → RowH K G' H' a → RS W.H0 G' H' v s → rt s → D.rt v H')
def PXm (c : CF) (a : Addr) (e : Expr) (δ : Dl) (S : Sl → Prop) : Prop := ∀ X, Fam c X → PE X e (tXm c.K a δ S)
def PXAm (c : CF) (a : Addr) (es : List Expr) (δ : Dl) (SS : List Sl → Prop) : Prop := ∀ X, Fam c X → PA X es (tXAm c.K a δ SS)
def PXSm (c : CF) (a : Addr) (st : Stmt) (δ : Dl) (nx : Dl → Prop) (rt : Sl → Prop) : Prop := ∀ X, Fam c X → PS X st (tXSm c.K a δ nx rt)
def PXBm (c : CF) (a : Addr) (sts : List Stmt) (δ : Dl) (nx : Dl → Prop) (rt : Sl → Prop) : Prop := ∀ X, Fam c X → PSs X sts (tXSm c.K a δ nx rt)
section
variable {c : CF} {a : Addr} {δ δ1 : Dl} {e e1 e2 t : Expr} {es : List Expr} {pos p2 p3 : Pos} {s : Sl} {S S1 S2 : Sl → Prop} {SS : List Sl → Prop} {nx nx1 : Dl → Prop} {rt : Sl → Prop} {st : Stmt} {sts : List Stmt} {n : Nat} {i j : Int}
theorem px_m (h : PX c e δ s) (hs : S s) : PXm c a e δ S := fun X f => PE.weak (h X f) fun σ H Q ⟨W, G, e, q⟩ => ⟨W, G, e.e, fun v G1 H1 st r => q v s G1 H1 (st.toM a) (e.r.step st) hs r⟩
theorem PXm.weak (h : PXm c a e δ S1) (w : ∀ s, S1 s → S s) : PXm c a e δ S := fun X f => PE.weak (h X f) fun σ H Q ⟨W, G, e, q⟩ => ⟨W, G, e, fun v s G1 H1 st r hs => q v s G1 H1 st r (w s hs)⟩
theorem pxam_nil : PXAm c a [] δ (fun ss => ss = []) := fun X f => PA.weak pa_nil fun σ H Q ⟨W, G, e, q⟩ => q [] [] G H ((Step.refl e.e.w.gh).toM a) e.r rfl .nil
theorem pxam_cons (h : PXm c a e δ S) (hr : PXAm c a es δ SS) (hs : ∀ env, starEach (e :: es) env = (false, eval e env) :: starEach es env) : PXAm c a (e :: es) δ (fun ss => ∃ s ss', ss = s :: ss' ∧ S s ∧ SS ss') := fun X f => by
  refine PA.weak (pa_cons (h X f) (hr X f) (hs X.env)) fun σ H Q ⟨W, G, e, q⟩ => ⟨W, G, e, fun v s G1 H1 st r hS hv => ⟨W, G1, e.stepM st r, fun vs ss G2 H2 st2 r2 hSS hvs => ?_⟩⟩
  exact q _ _ G2 H2 (st.trans st2 r r2) r2 ⟨s, ss, rfl, hS, hSS⟩ (.cons (hv.stepM (e.e.w.stepM e.m st r) e.m st2) hvs)
/-- taken(..) - most -/
theorem pxm_sub {A : Int → Prop} (ha : PXm c a e1 δ (fun s => ∃ i, A i ∧ s = .p (.int i))) (hb : PX c e2 δ (.p (.int j))) : PXm c a (.BinOp e1 .Sub e2 pos) δ (fun s => ∃ i, A i ∧ s = .p (.int (i - j))) := fun X f => by
  refine PE.weak (pe_op op_sub (ha X f) (hb X f)) fun σ H Q ⟨W, G, e, q⟩ => ⟨W, G, e, fun v s G1 H1 st r hS hv => ⟨W, G1, (e.stepM st r).e, fun v2 G2 H2 st2 r2 => ?_⟩⟩
  obtain ⟨i, hA, rfl⟩ := hS
  rw [rs_int hv, rs_int r2]
  exact ⟨i, j, rfl, rfl, q _ _ G2 H2 (st.trans (st2.toM a) r (r.step st2)) (r.step st2) ⟨i, hA, rfl⟩ (.int _)⟩
/-- least + taken(..) -/
theorem pxm_add {A : Int → Prop} (ha : PX c e1 δ (.p (.int j))) (hb : PXm c a e2 δ (fun s => ∃ i, A i ∧ s = .p (.int i))) : PXm c a (.BinOp e1 .Add e2 pos) δ (fun s => ∃ i, A i ∧ s = .p (.int (j + i))) := fun X f => by
  refine PE.weak (pe_op op_add (ha X f) (hb X f)) fun σ H Q ⟨W, G, e, q⟩ => ⟨W, G, e.e, fun v G1 H1 st hv => ⟨W, G1, e.step st, fun v2 s G2 H2 st2 r2 hS h2 => ?_⟩⟩
  obtain ⟨i, hA, rfl⟩ := hS
  rw [rs_int hv, rs_int h2]
  exact ⟨j, i, rfl, rfl, q _ _ G2 H2 ((st.toM a).trans st2 (e.r.step st) r2) r2 ⟨i, hA, rfl⟩ (.int _)⟩
/-- things[taken(..)] -/
theorem pxm_ix {A : Int → Prop} {ds : List PyData} (ha : PX c e1 δ (.p (.list ds))) (hb : PXm c a e2 δ (fun s => ∃ i, A i ∧ s = .p (.int i))) (hd : ∀ i, A i → ∃ d, atI ds i = some d ∧ S (.p d)) (hs : PlainIx e2) : PXm c a (.Subscript e1 e2 pos) δ S := fun X f => by
  refine PE.weak (pe_ix ix_list (ha X f) (hb X f) hs) fun σ H Q ⟨W, G, e, q⟩ => ⟨W, G, e.e, fun v G1 H1 st hv => ⟨W, G1, e.step st, fun v2 s G2 H2 st2 r2 hS h2 => ?_⟩⟩
  obtain ⟨i, hA, rfl⟩ := hS
  obtain ⟨d, hat, hSd⟩ := hd i hA
  obtain ⟨p, xs, rfl, hp, r⟩ := rs_lst hv
  rw [rs_int h2]
  have hp2 := st2.gh _ _ (st2.g _ _ hp)
  obtain ⟨u, hu, ru⟩ := atI_rp (r.mono st2.g) hat
  exact ⟨p, xs, i, u, rfl, rfl, SqL.of hp2, hu, q _ _ G2 H2 ((st.toM a).trans st2 (e.r.step st) r2) r2 hSd ru⟩
/-- (x, y, 1) -/
theorem pxm_tup {k : Nat} (ha : PXAm c a es δ SS) (h : ∀ ss, SS ss → ∃ ds : List PyData, ss = ds.map Sl.p ∧ ds.length ≤ 1000 ∧ S (.p (.tuple ds))) : PXm c a (.Tuple es k pos) δ S := fun X f => by
  refine PE.weak (pe_tup (ha X f)) fun σ H Q ⟨W, G, e, q⟩ => ⟨W, G, e, fun vs ss G1 H1 st r hSS hv => ?_⟩
  obtain ⟨ds, rfl, hl, hS⟩ := h ss hSS
  have r' := hv.data
  refine ⟨by rw [r'.length]; exact Nat.le_of_lt (small1000 hl), fun p hp => ?_⟩
  have st2 : Step G1 H1 (upd G1 p (.tup vs)) (upd H1 p (.tup vs)) := Step.new st.gh hp
  exact q _ _ _ _ (st.trans (st2.toM a) r (r.step st2)) (r.step st2) hS (.tup upd_same (r'.mono st2.g))
theorem pxm_if {x : Bool} (ht : PXT c t δ x) (h1 : x = true → PXm c a e1 δ S) (h2 : x = false → PXm c a e2 δ S) : PXm c a (.IfExp t e1 e2 pos) δ S := fun X f => by
  have h1' : PE X e1 (fun σ H Q => x = true ∧ tXm c.K a δ S σ H Q) := ⟨fun pins s σ H Q I q => (h1 q.1 X f).run pins s σ H Q I q.2⟩
  have h2' : PE X e2 (fun σ H Q => x = false ∧ tXm c.K a δ S σ H Q) := ⟨fun pins s σ H Q I q => (h2 q.1 X f).run pins s σ H Q I q.2⟩
  refine PE.weak (pe_ifExp (ht X f) h1' h2') fun σ H Q ⟨W, G, e, q⟩ => ⟨W, G, e.e, fun G1 H1 st => ?_⟩
  have go : tXm c.K a δ S σ H1 Q := ⟨W, G1, e.step st, fun v s G2 H2 st2 r2 => q v s G2 H2 ((st.toM a).trans st2 (e.r.step st) r2) r2⟩
  cases x with
  | true => exact iteT ⟨rfl, go⟩
  | false => exact iteF ⟨rfl, go⟩
end
/-! ### a def with the row -/
def FRm (K : PySem.W.Frag) (Pre : List Sl → Prop) (R : List Sl → Sl → Prop) : Sp := fun vs H Q _ => ∃ (a : Addr) (G : Hp) (ws : List V) (ss : List Sl), vs = .ref a :: ws ∧ Ex G H ∧ RowH K G H a ∧ RSA H G H ws ss ∧ Pre ss ∧ ∀ v s G' H', StepM a G H G' H' → RowH K G' H' a → R ss s → RS H G' H' v s → Q v H'
structure Fnm (P : Program) (w : World) (K : PySem.W.Frag) (mg : Str → Option Value) (base : Heap) (x : Str) (Pre : List Sl → Prop) (R : List Sl → Sl → Prop) (k : Nat) : Prop where
  ex : ∃ (f : Addr) (fd : FuncData) (ps : List Str), FnOk P w K mg base CX0 k f fd ps (FRm K Pre R) ∧ mg x = some (.ref f) ∧ PySem.W.keepIn K (.ref f) = true ∧ Binds K fd ps []
theorem wok_startM {K : PySem.W.Frag} {G H : Hp} {a : Addr} (ex : Ex G H) (r : RowH K G H a) : Wok ⟨fun b => b = a, G, H⟩ G H :=
  ⟨Ex.refl _, ex, fun b o _ e => e, fun b e => e, fun b _ g => g, fun b z => by rw [show b = a from z]; exact ⟨r.nt, r.g⟩, fun b z => by rw [show b = a from z]; exact r.nt⟩
theorem fnm_at {P : Program} {w : World} {K : PySem.W.Frag} {mg : Str → Option Value} {base : Heap} {x : Str} {st : Stmt} {N ps : List Str} {k : Nat} {Pre : List Sl → Prop} {R : List Sl → Sl → Prop}
    (D : DefAt K mg x st ps) (S : FnScope N ps (defScope st)) (len : ∀ ss, Pre ss → ss.length + 1 = ps.length) (no : ∀ ss, Pre ss → ∀ s ∈ ss, Sl.own s = false)
    (body : ∀ a ss, Pre ss → PXBm ⟨P, w, K, mg, base, N, defScope st, k, fun _ => true⟩ a (defBody st) (slots N (.x (.ref a) :: ss)) (fun _ => R ss (.p .none)) (fun s' => R ss s')) : Fnm P w K mg base x Pre R (k + 1) := by
  obtain ⟨f, fd, F, hm, hb⟩ := D.ex
  refine ⟨f, fd, ps, F.ok S (fun vs H Q E h => ?_) (fun cdv A outer s H vs Q E hr h => ?_), hm, F.kp, hb⟩
  · obtain ⟨a, G, ws, ss, rfl, _, _, r, hP, _⟩ := h
    rw [List.length_cons, r.length]
    exact len ss hP
  · obtain ⟨a, G, ws, ss, rfl, ex, row, r, hP, q⟩ := h
    refine ⟨_, body a ss hP _ ⟨rfl, rfl, rfl, rfl, rfl, rfl, rfl, rfl, hr, fun _ _ => rfl, rfl⟩, ⟨fun b => b = a, G, H⟩, G, ⟨?_, fun b => Iff.rfl, row⟩, ?_, ?_⟩
    · refine env_start (wok_startM ex row) (.cons rfl r) fun s hs => ?_
      rcases List.mem_cons.mp hs with z | hs
      · rw [z]; rfl
      · exact no ss hP s hs
    · intro δ' G' H' σ' e' _ hs
      exact q .non _ G' H' ⟨e'.e.w.g, fun b o z => e'.e.w.h b o z, e'.e.w.gh, fun b h0 g => e'.e.w.nw b h0 g⟩ e'.r hs .non
    · intro v s2 G' H' w' row' r' hs
      exact q v s2 G' H' ⟨w'.g, fun b o z => w'.h b o z, w'.gh, fun b h0 g => w'.nw b h0 g⟩ row' hs r'
section
variable {c : CF} {a : Addr} {δ δ1 : Dl} {e e1 e2 t : Expr} {es : List Expr} {pos p2 p3 : Pos} {s : Sl} {S S1 S2 : Sl → Prop} {SS : List Sl → Prop} {nx nx1 : Dl → Prop} {rt : Sl → Prop} {st : Stmt} {sts : List Stmt} {n : Nat} {i j : Int}
theorem pxm_call {x : Str} {Pre : List Sl → Prop} {R : List Sl → Sl → Prop} {k : Nat} (F : Fnm c.P c.w c.K c.mg c.base x Pre R k) (hk : k ≤ c.k) (hg : GlN c x) (ha : PXAm c a (e :: es) δ SS) (hpre : ∀ ss, SS ss → ∃ r, ss = .x (.ref a) :: r ∧ Pre r ∧ (∀ t ∈ r, Sl.own t = false) ∧ ∀ s, R r s → S s ∧ s.own = false)
    (he : ∀ env, starEach (e :: es) env = (false, eval e env) :: starEach es env) (hpl : ∀ env, (backTo pos (starEach es env)).any (·.1) = false) (hdb : (x == ("__debug__" : Str)) = false := by decide) : PXm c a (.Call (.Name x p2) (e :: es) [] pos) δ S := fun X f => by
  obtain ⟨fa, fd, ps, F, hm, kp, hb⟩ := F.ex
  have F' : FnOk X.prog X.w X.K X.mg X.base CX0 k fa fd ps (FRm c.K Pre R) := by rw [f.P, f.w, f.K, f.mg, f.base]; exact F
  refine PE.weak (pe_call F' (f.room.mono hk) (show X.env.scope.names.lookup x = _ by rw [f.sc]; exact hg) (by rw [f.mg]; exact hm) (by rw [f.K]; exact kp) (by rw [f.K]; exact hb) .nil pass0 (ha X f) hdb (he X.env) (hpl X.env)) fun σ H Q ⟨W, G, e, q⟩ => ⟨W, G, e, fun vs ss G1 H1 st r hSS hv => ?_⟩
  obtain ⟨rest, rfl, hP, no, post⟩ := hpre ss hSS
  rw [List.append_nil]
  cases hv with
  | cons h1 h2 =>
    obtain rfl : _ = V.ref a := h1
    refine ⟨a, G1, _, rest, rfl, st.gh, r, h2.re no, hP, fun v s G2 H2 st2 r2 hR hv2 => ?_⟩
    obtain ⟨hS, so⟩ := post s hR
    exact q v s G2 H2 (st.trans st2 r r2) r2 hS (hv2.re so)
/-! ### statements -/
theorem pxbm_nil (h : nx δ) : PXBm c a [] δ nx rt := fun X f => PSs.weak pss_nil fun D σ H ⟨W, G, e, q, _⟩ => q δ G H σ e (Ex.refl _) h
theorem pxbm_cons (h1 : PXSm c a st δ nx1 rt) (h2 : ∀ δ', nx1 δ' → PXBm c a sts δ' nx rt) : PXBm c a (st :: sts) δ nx rt := fun X f => by
  have h2' : PSs X sts (fun D σ H => ∃ δ', nx1 δ' ∧ tXSm c.K a δ' nx rt D σ H) := ⟨fun pins s σ H D I q => by
    obtain ⟨δ', hn, q⟩ := q
    exact (h2 δ' hn X f).run pins s σ H D I q⟩
  refine PSs.weak (pss_cons (h1 X f) h2') fun D σ H ⟨W, G, e, q, r⟩ => ⟨W, G, e, fun δ' G' H' σ' e' x' hn => ⟨δ', hn, W, G', e', fun δ2 G2 H2 σ2 e2 x2 n2 => q δ2 G2 H2 σ2 e2 (x'.trans x2) n2, r⟩, r⟩
theorem pxbm_seq (h1 : PXSm c a st δ (fun d => d = δ1) rt) (h2 : PXBm c a sts δ1 nx rt) : PXBm c a (st :: sts) δ nx rt := pxbm_cons h1 fun δ' z => by rw [z]; exact h2
theorem pxbm_one (h : PXSm c a st δ nx rt) : PXBm c a [st] δ nx rt := pxbm_cons h fun δ' z => pxbm_nil z
theorem PXSm.weak (h : PXSm c a st δ nx1 rt) (w : ∀ δ', nx1 δ' → nx δ') : PXSm c a st δ nx rt := fun X f => PS.weak (h X f) fun D σ H ⟨W, G, e, q, r⟩ => ⟨W, G, e, fun δ' G' H' σ' e' x' n' => q δ' G' H' σ' e' x' (w δ' n'), r⟩
theorem pxsm_set {x : Str} (hN : c.N.Nodup) (hi : c.N[n]? = some x) (hx : Loc c.sc x) (hf : c.own x = true ∨ c.sc.names.lookup x = some .local) (h : PXm c a e δ S) (so : ∀ s, S s → s.own = false) (hs : ∀ env, swapsWith e (some (.Name x p2)) pos.line env = pure false) : PXSm c a (.Assign [.Name x p2] e pos) δ (fun d => ∃ s, S s ∧ d = δ.set n (some s)) rt := fun X f => by
  refine PS.weak (ps_set (i := n) (by rw [f.N]; exact hN) (by rw [f.N]; exact hi) (by rw [f.sc]; exact hx) (h X f) (hs X.env) (by rw [f.sc]; exact hf.imp (f.fn x) id)) fun D σ H ⟨W, G, e, q, r⟩ => ⟨W, G, e, fun v s G1 H1 st r1 hS hv => ?_⟩
  exact q _ G1 H1 _ ⟨(e.stepM st r1).e.setP hv (so s hS), e.m, r1⟩ st.g ⟨s, hS, rfl⟩
theorem pxsm_ret (h : PXm c a e δ S) (hs : ∀ s, S s → rt s) : PXSm c a (.Return (some e) pos) δ nx rt := fun X f => PS.weak (ps_ret (h X f)) fun D σ H ⟨W, G, e, q, r⟩ => ⟨W, G, e, fun v s G1 H1 st r1 hS hv => r v s G1 H1 (e.e.w.stepM e.m st r1) r1 hv (hs s hS)⟩
/-- if taken(..) == 0 -/
theorem pxsm_ifEq {A : Int → Prop} {b1 b2 : List Stmt} (ha : PXm c a e1 δ (fun s => ∃ i, A i ∧ s = .p (.int i))) (hb : PX c e2 δ (.p (.int j))) (hm : behindInMarks .Eq e2 = false) (h1 : PXBm c a b1 δ nx rt) (h2 : PXBm c a b2 δ nx rt) : PXSm c a (.If (.Compare e1 [.Eq] [e2] p2) b1 b2 pos) δ nx rt := fun X f => by
  refine PS.weak (ps_if (pt_cmpR op_eq (ha X f) (hb X f) hm) (h1 X f) (h2 X f)) fun D σ H ⟨W, G, e, q, r⟩ => ⟨W, G, e, fun v s G1 H1 st r1 hS hv => ⟨W, G1, (e.stepM st r1).e, fun v2 G2 H2 st2 r2 => ?_⟩⟩
  obtain ⟨i, hA, rfl⟩ := hS
  rw [rs_int hv, rs_int r2]
  have go : tXSm c.K a δ nx rt D σ H2 := ⟨W, G2, (e.stepM st r1).step st2, fun δ' G' H' σ' e' x' n' => q δ' G' H' σ' e' ((st.g.trans st2.g).trans x') n', r⟩
  exact ⟨rfl, _, rfl, ite2 (fun _ => go) (fun _ => go)⟩
/-- what leaves the row alone -/
theorem Env.toBase {K : PySem.W.Frag} {W : Wd} {G H : Hp} {σ : L2.St} {o : HO} (e : EnvM K a W G H σ δ) (ho : H a = some o) : Env ⟨fun _ => False, G, upd W.H0 a o⟩ G H σ δ := by
  have h0 : ∀ l, W.H0 l = none → upd W.H0 a o l = none := fun l h => by
    have hne : l ≠ a := fun z => wm_h0 e.e.w e.m (z ▸ h)
    rw [upd_ne hne]; exact h
  refine ⟨⟨Ex.refl _, e.e.w.gh, fun b u _ q => ?_, fun b hb => ?_, fun b hn hg => hg, fun b z => z.elim, fun b z => z.elim⟩, e.e.len, fun i s h => ?_, e.e.sep⟩
  · have q : upd W.H0 a o b = some u := q
    by_cases z : b = a
    · rw [z, upd_same] at q
      rw [z, ho]; exact q
    · rw [upd_ne z] at q
      exact e.e.w.h b u (fun m => z ((e.m b).mp m)) q
  · exact h0 b (e.e.w.dom b hb)
  · obtain ⟨v, hv, hr⟩ := e.e.at_ i s h
    refine ⟨v, hv, ?_⟩
    cases s with
    | p d => exact hr
    | t d => exact hr
    | x d => exact hr
    | f d => exact hr
    | o ds =>
      obtain ⟨l, xs, q, z0, z⟩ := hr
      exact ⟨l, xs, q, h0 l z0, z⟩
    | u ds =>
      obtain ⟨l, xs, q, z0, z⟩ := hr
      exact ⟨l, xs, q, h0 l z0, z⟩
    | k ds =>
      obtain ⟨l, xs, q, z0, z⟩ := hr
      exact ⟨l, xs, q, h0 l z0, z⟩
theorem wok_back {W : Wd} {G H G' H' : Hp} {o : HO} (w : Wok W G H) (m : ∀ b, W.M b ↔ b = a) (hga : G a = none) (hn : NTup (some o)) (w' : Wok ⟨fun _ => False, G, upd W.H0 a o⟩ G' H') : Wok W G' H' ∧ H' a = some o ∧ G' a = none := by
  have ha : H' a = some o := w'.h a o (fun z => z) upd_same
  have hg : G' a = none := w'.nw a (by show NTup (upd W.H0 a o a); rw [upd_same]; exact hn) hga
  refine ⟨⟨w.g.trans w'.g, w'.gh, fun b u hm q => w'.h b u (fun z => z) ?_, fun b hb => ?_, fun b h0 g0 => ?_, w.m, fun b hm => ?_⟩, ha, hg⟩
  · have z : b ≠ a := fun z => hm ((m b).mpr z)
    show upd W.H0 a o b = some u
    rw [upd_ne z]; exact q
  · have z : b ≠ a := fun z => by rw [z, ha] at hb; cases hb
    have := w'.dom b hb
    have this : upd W.H0 a o b = none := this
    rw [upd_ne z] at this
    exact this
  · by_cases z : b = a
    · rw [z]; exact hg
    · exact w'.nw b (by show NTup (upd W.H0 a o b); rw [upd_ne z]; exact h0) (w.nw b h0 g0)
  · rw [(m b).mp hm, ha]; exact hn
theorem rs_back {W : Wd} {G H : Hp} {o : HO} {v : V} : ∀ {s : Sl}, RS (upd W.H0 a o) G H v s → RS W.H0 G H v s := by
  have h0 : ∀ l, upd W.H0 a o l = none → W.H0 l = none := fun l h => by
    have z : l ≠ a := fun z => by rw [z, upd_same] at h; cases h
    rw [upd_ne z] at h; exact h
  intro s h
  cases s with
  | p d => exact h
  | t d => exact h
  | x d => exact h
  | f d => exact h
  | o ds =>
    obtain ⟨l, xs, q, z0, z⟩ := h
    exact ⟨l, xs, q, h0 l z0, z⟩
  | u ds =>
    obtain ⟨l, xs, q, z0, z⟩ := h
    exact ⟨l, xs, q, h0 l z0, z⟩
  | k ds =>
    obtain ⟨l, xs, q, z0, z⟩ := h
    exact ⟨l, xs, q, h0 l z0, z⟩
theorem RowH.carry {K : PySem.W.Frag} {G H G' H' : Hp} {o : HO} (r : RowH K G H a) (ho : H a = some o) (x : Ex G G') (ha : H' a = some o) (hg : G' a = none) : RowH K G' H' a := by
  obtain ⟨l, ns, i, s, c, hs, h, q⟩ := r.ex
  rw [ho] at h
  exact ⟨hg, l, ns, i, s, c, sq_ex x hs, ha.trans h, q⟩
theorem pre_m {K : PySem.W.Frag} {D : Ends} {σ : L2.St} {H : Hp} : tXSm K a δ nx rt D σ H → tXS δ nx rt D σ H := fun ⟨W, G, e, q, r⟩ => by
  obtain ⟨l, ns, i, s, cc, hs, ho, hb⟩ := e.r.ex
  have hn : NTup (some (HO.lst [.ref l, .int i, .int s, .int cc])) := ntup_lst rfl
  refine ⟨_, G, Env.toBase e ho, fun δ' G' H' σ' e' x' n' => ?_, fun v s' G' H' w' hv ht => ?_⟩
  · obtain ⟨w2, ha, hg⟩ := wok_back e.e.w e.m e.r.g hn e'.w
    exact q δ' G' H' σ' ⟨⟨w2, e'.len, fun i s h => (e'.at_ i s h).imp fun _ z => ⟨z.1, rs_back z.2⟩, e'.sep⟩, e.m, e.r.carry ho x' ha hg⟩ x' n'
  · obtain ⟨w2, ha, hg⟩ := wok_back e.e.w e.m e.r.g hn w'
    exact r v s' G' H' w2 (e.r.carry ho w'.g ha hg) (rs_back hv) ht
theorem pxs_m (h : PXS c st δ nx rt) : PXSm c a st δ nx rt := fun X f => PS.weak (h X f) fun D σ H q => pre_m q
theorem pxb_m (h : PXB c sts δ nx rt) : PXBm c a sts δ nx rt := fun X f => PSs.weak (h X f) fun D σ H q => pre_m q
/-- a new list that is to grow, with parts from the row -/
theorem pxsm_setL {x : Str} (hN : c.N.Nodup) (hi : c.N[n]? = some x) (hx : Loc c.sc x) (hf : c.own x = true ∨ c.sc.names.lookup x = some .local) (ha : PXAm c a es δ SS) (h : ∀ ss, SS ss → ∃ ds : List PyData, ss = ds.map Sl.p ∧ ds.length ≤ 1000 ∧ S (.o ds)) (hs : ∀ env, swapsWith (.List es p2) (some (.Name x p3)) pos.line env = pure false) : PXSm c a (.Assign [.Name x p3] (.List es p2) pos) δ (fun d => ∃ ds, S (.o ds) ∧ d = δ.set n (some (.o ds))) rt := fun X f => by
  refine PS.weak (ps_set (i := n) (by rw [f.N]; exact hN) (by rw [f.N]; exact hi) (by rw [f.sc]; exact hx) (pe_lst (ha X f)) (hs X.env) (by rw [f.sc]; exact hf.imp (f.fn x) id)) fun D σ H ⟨W, G, e, q, r⟩ => ⟨W, G, e, fun vs ss G1 H1 st r1 hSS hv => ?_⟩
  obtain ⟨ds, rfl, hl, hS⟩ := h ss hSS
  have r' := hv.data
  refine ⟨by rw [r'.length]; exact Nat.le_of_lt (small1000 hl), fun p hp => ?_⟩
  have e1 := e.stepM st r1
  have st2 : Step G1 H1 G1 (upd H1 p (.lst vs)) := Step.grow st.gh (Ex.new hp)
  refine q _ _ _ _ ⟨?_, e.m, r1.step st2⟩ st.g ⟨ds, hS, rfl⟩
  exact e1.e.setN st2 (s := .o ds) ⟨p, vs, rfl, e1.e.w.dom p hp, none_of_ex st.gh hp, upd_same, r'⟩ fun l z => by
    have z' := V.ref.inj z
    subst z'
    exact hp
/-- found, many, size = [], least + .., pick(..) -/
theorem pxsm_par3L {n1 n2 n3 : Nat} {x y z : Str} {px py pz pt pl : Pos} {kt k2 : Nat} {pt2 : Pos} (hN : c.N.Nodup) (hi : c.N[n1]? = some x) (hj : c.N[n2]? = some y) (hk : c.N[n3]? = some z) (hij : n1 ≠ n2) (hik : n1 ≠ n3) (hjk : n2 ≠ n3) (hx : c.sc.names.lookup x = some .local) (hy : c.sc.names.lookup y = some .local) (hz : c.sc.names.lookup z = some .local) (h1 : PXm c a e1 δ S1) (h2 : PXm c a e2 δ S2) (so1 : ∀ s, S1 s → s.own = false) (so2 : ∀ s, S2 s → s.own = false)
    (hs1 : ∀ env, starEach [.List [] pl, e1, e2] env = (false, eval (.List [] pl) env) :: starEach [e1, e2] env) (hs2 : ∀ env, starEach [e1, e2] env = (false, eval e1 env) :: starEach [e2] env) (hs3 : ∀ env, starEach [e2] env = (false, eval e2 env) :: starEach [] env)
    (hw : swappedStores [.Tuple [.Name x px, .Name y py, .Name z pz] kt pt] (.Tuple [.List [] pl, e1, e2] k2 pt2) (envS c.sc) = pure (some [x, y, z])) (hs : ∀ env, swapsWithSole [.Tuple [.Name x px, .Name y py, .Name z pz] kt pt] (.Tuple [.List [] pl, e1, e2] k2 pt2) pos.line env = pure false) :
    PXSm c a (.Assign [.Tuple [.Name x px, .Name y py, .Name z pz] kt pt] (.Tuple [.List [] pl, e1, e2] k2 pt2) pos) δ (fun d => ∃ s1 s2, S1 s1 ∧ S2 s2 ∧ d = ((δ.set n1 (some (.o []))).set n2 (some s1)).set n3 (some s2)) rt := fun X f => by
  refine PS.weak (ps_par3 f.calm (by rw [f.N]; exact hN) (by rw [f.N]; exact hi) (by rw [f.N]; exact hj) (by rw [f.N]; exact hk) hij hik hjk (by rw [f.sc]; exact hx) (by rw [f.sc]; exact hy) (by rw [f.sc]; exact hz) (pa_cons (pe_lst pa_nil) (pa_cons (h1 X f) (pa_cons (h2 X f) pa_nil (hs3 X.env)) (hs2 X.env)) (hs1 X.env)) (f.swap hw) (hs X.env)) fun D σ H ⟨W, G, e, q, r⟩ => ⟨(Nat.zero_le _), fun p hp => ?_⟩
  have st0 : Step G H G (upd H p (.lst [])) := Step.grow e.e.w.gh (Ex.new hp)
  have e0 := e.step st0
  refine ⟨W, G, e0, fun v s G1 H1 st1 r1 hS1 hv1 => ⟨W, G1, e0.stepM st1 r1, fun v2 s2 G2 H2 st2 r2 hS2 hv2 => ⟨_, _, _, rfl, ?_⟩⟩⟩
  have w1 := e0.e.w.stepM e.m st1 r1
  have rp : RS W.H0 G (upd H p (.lst [])) (.ref p) (.o []) := ⟨p, [], rfl, e.e.w.dom p hp, none_of_ex e.e.w.gh hp, upd_same, .nil⟩
  have rp2 := (rp.stepM e0.e.w e.m st1).stepM w1 e.m st2
  have E2 := (e0.stepM st1 r1).stepM st2 r2
  refine q _ G2 H2 _ ⟨((E2.e.setA rp2 fun _ l z => ?_).setP (hv1.stepM w1 e.m st2) (so1 s hS1)).setP hv2 (so2 s2 hS2), e.m, r2⟩ (st1.g.trans st2.g) ⟨s, s2, hS1, hS2, rfl⟩
  have z' := V.ref.inj z
  subst z'
  exact away_of e.e hp
/-- a loop -/
def gForM (c : CF) (a : Addr) (tg : Expr) (body : List Stmt) (Pv : Nat → Dl → Prop) (rt : Sl → Prop) : TG := fun v σ H Q => ∃ i d δ' δ'' ns, PXG c tg δ' δ'' d ns ∧ PXBm c a body δ'' (Pv (i + 1)) rt ∧ tXG δ' δ'' d ns v σ H Q
def bForM (c : CF) (a : Addr) (body : List Stmt) (Pv : Nat → Dl → Prop) (rt : Sl → Prop) : TS := fun D σ H => ∃ i δ'', PXBm c a body δ'' (Pv (i + 1)) rt ∧ tXSm c.K a δ'' (Pv (i + 1)) rt D σ H
theorem pxsm_for {tg iter : Expr} {ds : List PyData} {body : List Stmt} (Pv : Nat → Dl → Prop) (hs : Src c tg iter δ ds) (h0 : Pv 0 δ) (ht : ∀ i d δ', ds[i]? = some d → Pv i δ' → ∃ δ'' ns, PXG c tg δ' δ'' d ns ∧ PXBm c a body δ'' (Pv (i + 1)) rt) (hd : ∀ δ', Pv ds.length δ' → nx δ') (hf : ∀ env x, foldedSetIterable iter env x = pure x) : PXSm c a (.For tg iter body [] pos) δ nx rt := fun X f => by
  have hg : PG X tg (gForM c a tg body Pv rt) := by
    refine ⟨fun pins s σ H v u Q I r q => ?_⟩
    obtain ⟨i, d, δ', δ'', ns, h1, h2, q⟩ := q
    exact (h1 X f).run pins s σ H v u Q I r q
  have hb : PSs X body (bForM c a body Pv rt) := by
    refine ⟨fun pins s σ H D I q => ?_⟩
    obtain ⟨i, δ'', h2, q⟩ := q
    exact (h2 X f).run pins s σ H D I q
  refine PS.weak (ps_for (by rw [f.xe]; exact PassesOwn.never) f.calm (hs X f) hg hb (hf X.env)) fun D σ H ⟨W, G, e, q, r⟩ => ⟨W, G, e.e, fun J G1 H1 st wk => ?_⟩
  refine for_it (g := gForM c a tg body Pv rt) (tb := bForM c a body Pv rt) (D := D) wk (fun i σ' H' => ∃ G' δ', EnvM c.K a W G' H' σ' δ' ∧ Ex G1 G' ∧ Pv i δ') ⟨G1, δ, e.step st, Ex.refl _, h0⟩ (fun i σ' H' _ ⟨G', δ', e', x', _⟩ => x'.trans e'.e.w.gh) ?_ ?_
  · intro i x σ' H' H'' hi ⟨G', δ', e', x', pv⟩ ⟨hH, hx⟩
    subst hH
    obtain ⟨G'', d, sg, hd, rd⟩ := hx G' x' e'.e.w.gh
    obtain ⟨δ'', ns, h1, h2⟩ := ht i d δ' hd pv
    have es := e'.step sg
    exact ⟨i, d, δ', δ'', ns, h1, h2, W, G'', es.e, rd, fun σ2 e2 _ => ⟨i, δ'', h2, W, G'', ⟨e2, e.m, es.r⟩, fun δ3 G3 H3 σ3 e3 x3 n3 => ⟨G3, δ3, e3, (x'.trans sg.g).trans x3, n3⟩, r⟩⟩
  · intro σ' H' ⟨G', δ', e', x', pv⟩
    exact q δ' G' H' σ' e' (st.g.trans x') (hd δ' pv)
theorem pxsm_forT {α : Type} {enc : α → PyData} {ts : List α} {tg iter : Expr} {body : List Stmt} (Pv : Nat → Dl → Prop) (hs : Src c tg iter δ (ts.map enc)) (h0 : Pv 0 δ) (ht : ∀ i t δ', ts[i]? = some t → Pv i δ' → ∃ δ'' ns, PXG c tg δ' δ'' (enc t) ns ∧ PXBm c a body δ'' (Pv (i + 1)) rt) (hd : ∀ δ', Pv ts.length δ' → nx δ') (hf : ∀ env x, foldedSetIterable iter env x = pure x) : PXSm c a (.For tg iter body [] pos) δ nx rt := by
  refine pxsm_for Pv hs h0 (fun i d δ' hd' hp => ?_) (by rw [List.length_map]; exact hd) hf
  obtain ⟨t, ht', rfl⟩ := get_map hd'
  exact ht i t δ' ht' hp
end
end M
namespace M
open L2 PyProof.Rows PySem.Spec PySem
theorem swaps_env (e : Expr) (t : Option Expr) (n : Nat) (env : PySem.Env) : swapsWith e t n env = swapsWith e t n (envS env.scope) := rfl
/-- name = value where only the scope tells that nothing swaps -/
theorem pxs_setS {c : CF} {δ : Dl} {e : Expr} {s : Sl} {rt : Sl → Prop} {n : Nat} {pos p2 : Pos} {x : Str} (hN : c.N.Nodup) (hi : c.N[n]? = some x) (hx : Loc c.sc x) (hf : c.own x = true ∨ c.sc.names.lookup x = some .local) (h : PX c e δ s) (so : s.own = false) (hs : swapsWith e (some (.Name x p2)) pos.line (envS c.sc) = pure false) : PXS c (.Assign [.Name x p2] e pos) δ (fun d => d = δ.set n (some s)) rt := fun X f => by
  refine PS.weak (ps_set (i := n) (by rw [f.N]; exact hN) (by rw [f.N]; exact hi) (by rw [f.sc]; exact hx) (h X f) (by rw [swaps_env, f.sc]; exact hs) (by rw [f.sc]; exact hf.imp (f.fn x) id)) fun D σ H ⟨W, G, e, q, r⟩ => ⟨W, G, e, fun v G1 H1 st r1 => ?_⟩
  exact q _ G1 H1 _ ((e.step st).setP r1 so) st.g rfl
end M
namespace M
open L2 PyProof.Rows PySem.Spec PySem
def topS (i : Nat) : Stmt := PySem.Challenge.pw_meshcore_k62_whole_ranks.main.body.getD i (.Pass ⟨0, 0, 0, 0⟩)
abbrev s_is_in : Stmt := topS 8
abbrev N_is_in : List Str := ["value", "least", "most"]
theorem sc_is_in : FnScope N_is_in ["value", "least", "most"] (defScope s_is_in) := ⟨rfl, rfl, rfl, by decide +kernel, rfl, by decide +kernel, by decide +kernel⟩
abbrev s_gcd : Stmt := topS 9
abbrev N_gcd : List Str := ["one", "other"]
theorem sc_gcd : FnScope N_gcd ["one", "other"] (defScope s_gcd) := ⟨rfl, rfl, rfl, by decide +kernel, rfl, by decide +kernel, by decide +kernel⟩
abbrev s_reduced : Stmt := topS 10
abbrev N_reduced : List Str := ["numerator", "denominator", "common"]
theorem sc_reduced : FnScope N_reduced ["numerator", "denominator"] (defScope s_reduced) := ⟨rfl, rfl, rfl, by decide +kernel, rfl, by decide +kernel, by decide +kernel⟩
abbrev s_times : Stmt := topS 11
abbrev N_times : List Str := ["one", "other"]
theorem sc_times : FnScope N_times ["one", "other"] (defScope s_times) := ⟨rfl, rfl, rfl, by decide +kernel, rfl, by decide +kernel, by decide +kernel⟩
abbrev s_is_below : Stmt := topS 12
abbrev N_is_below : List Str := ["one", "other"]
theorem sc_is_below : FnScope N_is_below ["one", "other"] (defScope s_is_below) := ⟨rfl, rfl, rfl, by decide +kernel, rfl, by decide +kernel, by decide +kernel⟩
abbrev s_is_ratio : Stmt := topS 13
abbrev N_is_ratio : List Str := ["value", "item"]
theorem sc_is_ratio : FnScope N_is_ratio ["value"] (defScope s_is_ratio) := ⟨rfl, rfl, rfl, by decide +kernel, rfl, by decide +kernel, by decide +kernel⟩
abbrev s_sign : Stmt := topS 14
abbrev N_sign : List Str := ["number"]
theorem sc_sign : FnScope N_sign ["number"] (defScope s_sign) := ⟨rfl, rfl, rfl, by decide +kernel, rfl, by decide +kernel, by decide +kernel⟩
abbrev s_lowest : Stmt := topS 18
abbrev N_lowest : List Str := ["x", "y", "w", "common"]
theorem sc_lowest : FnScope N_lowest ["x", "y", "w"] (defScope s_lowest) := ⟨rfl, rfl, rfl, by decide +kernel, rfl, by decide +kernel, by decide +kernel⟩
abbrev s_is_point : Stmt := topS 19
abbrev N_is_point : List Str := ["value"]
theorem sc_is_point : FnScope N_is_point ["value"] (defScope s_is_point) := ⟨rfl, rfl, rfl, by decide +kernel, rfl, by decide +kernel, by decide +kernel⟩
abbrev s_need_points : Stmt := topS 20
abbrev N_need_points : List Str := ["value", "at"]
theorem sc_need_points : FnScope N_need_points ["value"] (defScope s_need_points) := ⟨rfl, rfl, rfl, by decide +kernel, rfl, by decide +kernel, by decide +kernel⟩
abbrev s_far2 : Stmt := topS 21
abbrev N_far2 : List Str := ["a", "b", "x", "y", "w"]
theorem sc_far2 : FnScope N_far2 ["a", "b"] (defScope s_far2) := ⟨rfl, rfl, rfl, by decide +kernel, rfl, by decide +kernel, by decide +kernel⟩
abbrev s_common_weight : Stmt := topS 22
abbrev N_common_weight : List Str := ["points", "found", "p"]
theorem sc_common_weight : FnScope N_common_weight ["points"] (defScope s_common_weight) := ⟨rfl, rfl, rfl, by decide +kernel, rfl, by decide +kernel, by decide +kernel⟩
abbrev s_scaled : Stmt := topS 23
abbrev N_scaled : List Str := ["points", "weight", "p"]
theorem sc_scaled : FnScope N_scaled ["points"] (defScope s_scaled) := ⟨rfl, rfl, rfl, by decide +kernel, rfl, by decide +kernel, by decide +kernel⟩
abbrev s_doubled : Stmt := topS 25
abbrev N_doubled : List Str := ["a", "b", "c", "first", "second"]
theorem sc_doubled : FnScope N_doubled ["a", "b", "c"] (defScope s_doubled) := ⟨rfl, rfl, rfl, by decide +kernel, rfl, by decide +kernel, by decide +kernel⟩
abbrev s_turn_of : Stmt := topS 26
abbrev N_turn_of : List Str := ["a", "b", "c"]
theorem sc_turn_of : FnScope N_turn_of ["a", "b", "c"] (defScope s_turn_of) := ⟨rfl, rfl, rfl, by decide +kernel, rfl, by decide +kernel, by decide +kernel⟩
abbrev s_minor : Stmt := topS 28
abbrev N_minor : List Str := ["a", "b", "c", "first"]
theorem sc_minor : FnScope N_minor ["a", "b", "c"] (defScope s_minor) := ⟨rfl, rfl, rfl, by decide +kernel, rfl, by decide +kernel, by decide +kernel⟩
abbrev s_side_of : Stmt := topS 29
abbrev N_side_of : List Str := ["a", "b", "c", "d", "pairs", "weight", "rows", "first", "second", "third", "x", "y"]
theorem sc_side_of : FnScope N_side_of ["a", "b", "c", "d"] (defScope s_side_of) := ⟨rfl, rfl, rfl, by decide +kernel, rfl, by decide +kernel, by decide +kernel⟩
abbrev s_center_of : Stmt := topS 30
abbrev N_center_of : List Str := ["a", "b", "c", "pairs", "weight", "x", "y", "p", "q", "first", "second", "both", "right", "up", "one", "other"]
theorem sc_center_of : FnScope N_center_of ["a", "b", "c"] (defScope s_center_of) := ⟨rfl, rfl, rfl, by decide +kernel, rfl, by decide +kernel, by decide +kernel⟩
abbrev s_in_diameter : Stmt := topS 34
abbrev N_in_diameter : List Str := ["a", "b", "p", "x", "y"]
theorem sc_in_diameter : FnScope N_in_diameter ["a", "b", "p"] (defScope s_in_diameter) := ⟨rfl, rfl, rfl, by decide +kernel, rfl, by decide +kernel, by decide +kernel⟩
abbrev s_pairs_in : Stmt := topS 35
abbrev N_pairs_in : List Str := ["many", "i", "j"]
theorem sc_pairs_in : FnScope N_pairs_in ["many"] (defScope s_pairs_in) := ⟨rfl, rfl, rfl, by decide +kernel, rfl, by decide +kernel, by decide +kernel⟩
abbrev s_triples_in : Stmt := topS 36
abbrev N_triples_in : List Str := ["many", "i", "j", "k"]
theorem sc_triples_in : FnScope N_triples_in ["many"] (defScope s_triples_in) := ⟨rfl, rfl, rfl, by decide +kernel, rfl, by decide +kernel, by decide +kernel⟩
abbrev s_need_disks : Stmt := topS 37
abbrev N_need_disks : List Str := ["points", "many", "i", "j", "k", "m"]
theorem sc_need_disks : FnScope N_need_disks ["points"] (defScope s_need_disks) := ⟨rfl, rfl, rfl, by decide +kernel, rfl, by decide +kernel, by decide +kernel⟩
abbrev s_triples_of : Stmt := topS 38
abbrev N_triples_of : List Str := ["points", "found", "many", "i", "j", "k", "others", "m", "p"]
theorem sc_triples_of : FnScope N_triples_of ["points"] (defScope s_triples_of) := ⟨rfl, rfl, rfl, by decide +kernel, rfl, by decide +kernel, by decide +kernel⟩
abbrev s_born : Stmt := topS 39
abbrev N_born : List Str := ["points", "found", "many", "i", "triples", "j", "k", "around", "others", "triple", "m", "p"]
theorem sc_born : FnScope N_born ["points"] (defScope s_born) := ⟨rfl, rfl, rfl, by decide +kernel, rfl, by decide +kernel, by decide +kernel⟩
abbrev s_least_of : Stmt := topS 40
abbrev N_least_of : List Str := ["values", "best", "value"]
theorem sc_least_of : FnScope N_least_of ["values"] (defScope s_least_of) := ⟨rfl, rfl, rfl, by decide +kernel, rfl, by decide +kernel, by decide +kernel⟩
abbrev s_need_radius : Stmt := topS 41
abbrev N_need_radius : List Str := ["r"]
theorem sc_need_radius : FnScope N_need_radius ["r"] (defScope s_need_radius) := ⟨rfl, rfl, rfl, by decide +kernel, rfl, by decide +kernel, by decide +kernel⟩
abbrev s_cells_at : Stmt := topS 42
abbrev N_cells_at : List Str := ["points", "r", "table", "cell"]
theorem sc_cells_at : FnScope N_cells_at ["points", "r"] (defScope s_cells_at) := ⟨rfl, rfl, rfl, by decide +kernel, rfl, by decide +kernel, by decide +kernel⟩
abbrev s_parts_in : Stmt := topS 43
abbrev N_parts_in : List Str := ["many", "pairs", "names", "i", "j", "old", "new", "name"]
theorem sc_parts_in : FnScope N_parts_in ["many", "pairs"] (defScope s_parts_in) := ⟨rfl, rfl, rfl, by decide +kernel, rfl, by decide +kernel, by decide +kernel⟩
abbrev s_of_size : Stmt := topS 44
abbrev N_of_size : List Str := ["cells", "size", "cell"]
theorem sc_of_size : FnScope N_of_size ["cells", "size"] (defScope s_of_size) := ⟨rfl, rfl, rfl, by decide +kernel, rfl, by decide +kernel, by decide +kernel⟩
abbrev s_part_count : Stmt := topS 45
abbrev N_part_count : List Str := ["points", "r"]
theorem sc_part_count : FnScope N_part_count ["points", "r"] (defScope s_part_count) := ⟨rfl, rfl, rfl, by decide +kernel, rfl, by decide +kernel, by decide +kernel⟩
abbrev s_hole_count : Stmt := topS 46
abbrev N_hole_count : List Str := ["points", "r", "cells", "pairs"]
theorem sc_hole_count : FnScope N_hole_count ["points", "r"] (defScope s_hole_count) := ⟨rfl, rfl, rfl, by decide +kernel, rfl, by decide +kernel, by decide +kernel⟩
abbrev s_rank_of_rows : Stmt := topS 47
abbrev N_rank_of_rows : List Str := ["rows", "kept", "row", "left", "other", "x"]
theorem sc_rank_of_rows : FnScope N_rank_of_rows ["rows"] (defScope s_rank_of_rows) := ⟨rfl, rfl, rfl, by decide +kernel, rfl, by decide +kernel, by decide +kernel⟩
abbrev s_ranks_at : Stmt := topS 48
abbrev N_ranks_at : List Str := ["points", "r", "cells", "pairs", "rows", "i", "j", "k"]
theorem sc_ranks_at : FnScope N_ranks_at ["points", "r"] (defScope s_ranks_at) := ⟨rfl, rfl, rfl, by decide +kernel, rfl, by decide +kernel, by decide +kernel⟩
abbrev s_L_taken : Stmt := topS 50
abbrev N_L_taken : List Str := ["_law_row", "_law_many", "_law_found", "_law_cell"]
theorem sc_L_taken : FnScope N_L_taken ["_law_row", "_law_many"] (defScope s_L_taken) := ⟨rfl, rfl, rfl, by decide +kernel, rfl, by decide +kernel, by decide +kernel⟩
abbrev s_L_pick : Stmt := topS 51
abbrev N_L_pick : List Str := ["_law_row", "_law_things"]
theorem sc_L_pick : FnScope N_L_pick ["_law_row", "_law_things"] (defScope s_L_pick) := ⟨rfl, rfl, rfl, by decide +kernel, rfl, by decide +kernel, by decide +kernel⟩
abbrev s_L_signed : Stmt := topS 52
abbrev N_L_signed : List Str := ["_law_row", "_law_most"]
theorem sc_L_signed : FnScope N_L_signed ["_law_row", "_law_most"] (defScope s_L_signed) := ⟨rfl, rfl, rfl, by decide +kernel, rfl, by decide +kernel, by decide +kernel⟩
abbrev s_L_grid : Stmt := topS 53
abbrev N_L_grid : List Str := ["_law_row", "_law_size"]
theorem sc_L_grid : FnScope N_L_grid ["_law_row", "_law_size"] (defScope s_L_grid) := ⟨rfl, rfl, rfl, by decide +kernel, rfl, by decide +kernel, by decide +kernel⟩
abbrev s_L_sign : Stmt := topS 54
abbrev N_L_sign : List Str := ["_law_number"]
theorem sc_L_sign : FnScope N_L_sign ["_law_number"] (defScope s_L_sign) := ⟨rfl, rfl, rfl, by decide +kernel, rfl, by decide +kernel, by decide +kernel⟩
abbrev s_L_doubled : Stmt := topS 55
abbrev N_L_doubled : List Str := ["_law_a", "_law_b", "_law_c", "_law_x", "_law_y", "_law_p", "_law_q"]
theorem sc_L_doubled : FnScope N_L_doubled ["_law_a", "_law_b", "_law_c"] (defScope s_L_doubled) := ⟨rfl, rfl, rfl, by decide +kernel, rfl, by decide +kernel, by decide +kernel⟩
abbrev s_L_turn : Stmt := topS 56
abbrev N_L_turn : List Str := ["_law_a", "_law_b", "_law_c"]
theorem sc_L_turn : FnScope N_L_turn ["_law_a", "_law_b", "_law_c"] (defScope s_L_turn) := ⟨rfl, rfl, rfl, by decide +kernel, rfl, by decide +kernel, by decide +kernel⟩
abbrev s_L_in_diameter : Stmt := topS 57
abbrev N_L_in_diameter : List Str := ["_law_a", "_law_b", "_law_p", "_law_x", "_law_y"]
theorem sc_L_in_diameter : FnScope N_L_in_diameter ["_law_a", "_law_b", "_law_p"] (defScope s_L_in_diameter) := ⟨rfl, rfl, rfl, by decide +kernel, rfl, by decide +kernel, by decide +kernel⟩
abbrev s_L_det : Stmt := topS 58
abbrev N_L_det : List Str := ["_law_a", "_law_b", "_law_c", "_law_first"]
theorem sc_L_det : FnScope N_L_det ["_law_a", "_law_b", "_law_c"] (defScope s_L_det) := ⟨rfl, rfl, rfl, by decide +kernel, rfl, by decide +kernel, by decide +kernel⟩
abbrev s_L_in_circle : Stmt := topS 59
abbrev N_L_in_circle : List Str := ["_law_a", "_law_b", "_law_c", "_law_d", "_law_rows", "_law_p", "_law_x", "_law_y", "_law_w"]
theorem sc_L_in_circle : FnScope N_L_in_circle ["_law_a", "_law_b", "_law_c", "_law_d"] (defScope s_L_in_circle) := ⟨rfl, rfl, rfl, by decide +kernel, rfl, by decide +kernel, by decide +kernel⟩
abbrev s_L_fits_disks : Stmt := topS 60
abbrev N_L_fits_disks : List Str := ["_law_points", "_law_p", "_law_many", "_law_i", "_law_j", "_law_a", "_law_b", "_law_k"]
theorem sc_L_fits_disks : FnScope N_L_fits_disks ["_law_points", "_law_p"] (defScope s_L_fits_disks) := ⟨rfl, rfl, rfl, by decide +kernel, rfl, by decide +kernel, by decide +kernel⟩
abbrev s_L_gcd : Stmt := topS 61
abbrev N_L_gcd : List Str := ["_law_one", "_law_other"]
theorem sc_L_gcd : FnScope N_L_gcd ["_law_one", "_law_other"] (defScope s_L_gcd) := ⟨rfl, rfl, rfl, by decide +kernel, rfl, by decide +kernel, by decide +kernel⟩
abbrev s_L_lowest : Stmt := topS 62
abbrev N_L_lowest : List Str := ["_law_x", "_law_y", "_law_w", "_law_common"]
theorem sc_L_lowest : FnScope N_L_lowest ["_law_x", "_law_y", "_law_w"] (defScope s_L_lowest) := ⟨rfl, rfl, rfl, by decide +kernel, rfl, by decide +kernel, by decide +kernel⟩
abbrev s_L_disks : Stmt := topS 63
abbrev N_L_disks : List Str := ["_law_row", "_law_least", "_law_most", "_law_found", "_law_many", "_law_size", "_law_turn_here", "_law_p"]
theorem sc_L_disks : FnScope N_L_disks ["_law_row", "_law_least", "_law_most"] (defScope s_L_disks) := ⟨rfl, rfl, rfl, by decide +kernel, rfl, by decide +kernel, by decide +kernel⟩
abbrev s_L_triples : Stmt := topS 64
abbrev N_L_triples : List Str := ["_law_many", "_law_found", "_law_a", "_law_b", "_law_c"]
theorem sc_L_triples : FnScope N_L_triples ["_law_many"] (defScope s_L_triples) := ⟨rfl, rfl, rfl, by decide +kernel, rfl, by decide +kernel, by decide +kernel⟩
abbrev s_L_ratio : Stmt := topS 65
abbrev N_L_ratio : List Str := ["_law_numerator", "_law_denominator", "_law_common"]
theorem sc_L_ratio : FnScope N_L_ratio ["_law_numerator", "_law_denominator"] (defScope s_L_ratio) := ⟨rfl, rfl, rfl, by decide +kernel, rfl, by decide +kernel, by decide +kernel⟩
abbrev s_L_times : Stmt := topS 66
abbrev N_L_times : List Str := ["_law_one", "_law_other"]
theorem sc_L_times : FnScope N_L_times ["_law_one", "_law_other"] (defScope s_L_times) := ⟨rfl, rfl, rfl, by decide +kernel, rfl, by decide +kernel, by decide +kernel⟩
abbrev s_L_far2 : Stmt := topS 67
abbrev N_L_far2 : List Str := ["_law_a", "_law_b", "_law_x", "_law_y"]
theorem sc_L_far2 : FnScope N_L_far2 ["_law_a", "_law_b"] (defScope s_L_far2) := ⟨rfl, rfl, rfl, by decide +kernel, rfl, by decide +kernel, by decide +kernel⟩
abbrev s_L_area2 : Stmt := topS 68
abbrev N_L_area2 : List Str := ["_law_a", "_law_b", "_law_c"]
theorem sc_L_area2 : FnScope N_L_area2 ["_law_a", "_law_b", "_law_c"] (defScope s_L_area2) := ⟨rfl, rfl, rfl, by decide +kernel, rfl, by decide +kernel, by decide +kernel⟩
abbrev s_L_pairs : Stmt := topS 69
abbrev N_L_pairs : List Str := ["_law_many", "_law_found", "_law_i", "_law_j"]
theorem sc_L_pairs : FnScope N_L_pairs ["_law_many"] (defScope s_L_pairs) := ⟨rfl, rfl, rfl, by decide +kernel, rfl, by decide +kernel, by decide +kernel⟩
abbrev s_L_less : Stmt := topS 70
abbrev N_L_less : List Str := ["_law_one", "_law_other"]
theorem sc_L_less : FnScope N_L_less ["_law_one", "_law_other"] (defScope s_L_less) := ⟨rfl, rfl, rfl, by decide +kernel, rfl, by decide +kernel, by decide +kernel⟩
abbrev s_L_births : Stmt := topS 71
abbrev N_L_births : List Str := ["_law_points", "_law_found", "_law_many", "_law_triples_here", "_law_i", "_law_j", "_law_k", "_law_a", "_law_b", "_law_c", "_law_others", "_law_sides", "_law_area", "_law_around", "_law_best", "_law_triple", "_law_m", "_law_p"]
theorem sc_L_births : FnScope N_L_births ["_law_points"] (defScope s_L_births) := ⟨rfl, rfl, rfl, by decide +kernel, rfl, by decide +kernel, by decide +kernel⟩
abbrev s_L_plus : Stmt := topS 72
abbrev N_L_plus : List Str := ["_law_one", "_law_other"]
theorem sc_L_plus : FnScope N_L_plus ["_law_one", "_law_other"] (defScope s_L_plus) := ⟨rfl, rfl, rfl, by decide +kernel, rfl, by decide +kernel, by decide +kernel⟩
abbrev s_L_radius : Stmt := topS 73
abbrev N_L_radius : List Str := ["_law_row", "_law_table", "_law_values", "_law_one", "_law_near", "_law_cell"]
theorem sc_L_radius : FnScope N_L_radius ["_law_row", "_law_table"] (defScope s_L_radius) := ⟨rfl, rfl, rfl, by decide +kernel, rfl, by decide +kernel, by decide +kernel⟩
abbrev s_L_cells : Stmt := topS 74
abbrev N_L_cells : List Str := ["_law_table", "_law_r", "_law_cell"]
theorem sc_L_cells : FnScope N_L_cells ["_law_table", "_law_r"] (defScope s_L_cells) := ⟨rfl, rfl, rfl, by decide +kernel, rfl, by decide +kernel, by decide +kernel⟩
abbrev s_L_added : Stmt := topS 75
abbrev N_L_added : List Str := ["_law_one", "_law_other", "_law_x"]
theorem sc_L_added : FnScope N_L_added ["_law_one", "_law_other"] (defScope s_L_added) := ⟨rfl, rfl, rfl, by decide +kernel, rfl, by decide +kernel, by decide +kernel⟩
abbrev s_L_rank2 : Stmt := topS 76
abbrev N_L_rank2 : List Str := ["_law_rows", "_law_wide", "_law_left", "_law_rank", "_law_column", "_law_some", "_law_lead", "_law_rest", "_law_row"]
theorem sc_L_rank2 : FnScope N_L_rank2 ["_law_rows", "_law_wide"] (defScope s_L_rank2) := ⟨rfl, rfl, rfl, by decide +kernel, rfl, by decide +kernel, by decide +kernel⟩
abbrev s_L_alike : Stmt := topS 77
abbrev N_L_alike : List Str := ["_law_found", "_law_due", "_law_k"]
theorem sc_L_alike : FnScope N_L_alike ["_law_found", "_law_due"] (defScope s_L_alike) := ⟨rfl, rfl, rfl, by decide +kernel, rfl, by decide +kernel, by decide +kernel⟩
abbrev s_L_law : Stmt := topS 78
abbrev N_L_law : List Str := ["_law_script", "_law_row", "_law_points", "_law_table", "_law_turn_here", "_law_r", "_law_cells_here", "_law_pairs_here", "_law_rows", "_law_cell", "_law_due", "_law_k", "_law_pair"]
theorem sc_L_law : FnScope N_L_law ["_law_script"] (defScope s_L_law) := ⟨rfl, rfl, rfl, by decide +kernel, rfl, by decide +kernel, by decide +kernel⟩
end M
namespace M
/-! ### the values that the defs reckon, in plain Lean -/
abbrev P3 := Int × Int × Int
abbrev Rt := Int × Int
def bV (b : Bool) : Int := if b = true then 1 else 0
def gcdV (a b : Int) : Int := (Int.gcd a b : Int)
def comV (n d : Int) : Int := if d < 0 then -(gcdV n d) else gcdV n d
def redV (n d : Int) : Rt := (n.fdiv (comV n d), d.fdiv (comV n d))
def timesV (a b : Rt) : Rt := redV (a.1 * b.1) (a.2 * b.2)
def belowV (a b : Rt) : Bool := decide (a.1 * b.2 < b.1 * a.2)
def signV (n : Int) : Int := bV (decide (0 < n)) - bV (decide (n < 0))
def com3 (x y w : Int) : Int := if w < 0 then -(gcdV (gcdV x y) w) else gcdV (gcdV x y) w
def lowestV (x y w : Int) : P3 := (x.fdiv (com3 x y w), y.fdiv (com3 x y w), w.fdiv (com3 x y w))
def farX (a b : P3) : Int := a.1 * b.2.2 - b.1 * a.2.2
def farY (a b : P3) : Int := a.2.1 * b.2.2 - b.2.1 * a.2.2
def farW (a b : P3) : Int := a.2.2 * b.2.2
def far2V (a b : P3) : Rt := redV (farX a b * farX a b + farY a b * farY a b) (farW a b * farW a b)
def weightV (ps : List P3) : Int := ps.foldl (fun f p => f.fdiv (gcdV f p.2.2) * p.2.2) 1
def scaleV (W : Int) (p : P3) : Int × Int := (p.1 * W.fdiv p.2.2, p.2.1 * W.fdiv p.2.2)
def doubledV (a b c : P3) : Int :=
  a.1 * (b.2.1 * c.2.2 - c.2.1 * b.2.2) - a.2.1 * (b.1 * c.2.2 - c.1 * b.2.2) + a.2.2 * (b.1 * c.2.1 - c.1 * b.2.1)
def turnV (a b c : P3) : Int := signV (doubledV a b c)
def minorV (a b c : P3) : Int :=
  a.1 * (b.2.1 * c.2.2 - b.2.2 * c.2.1) - a.2.1 * (b.1 * c.2.2 - b.2.2 * c.1) + a.2.2 * (b.1 * c.2.1 - b.2.1 * c.1)
/-- a row of side_of -/
def rowV (W : Int) (d p : P3) : P3 :=
  let x := (scaleV W p).1 - (scaleV W d).1
  let y := (scaleV W p).2 - (scaleV W d).2
  (x, y, x * x + y * y)
def sideV (a b c d : P3) : Int :=
  let W := weightV [a, b, c, d]
  signV (minorV (rowV W d a) (rowV W d b) (rowV W d c)) * turnV a b c
def centerV (a b c : P3) : P3 :=
  let W := weightV [a, b, c]
  let cx := (scaleV W c).1
  let cy := (scaleV W c).2
  let x := (scaleV W a).1 - cx
  let y := (scaleV W a).2 - cy
  let p := (scaleV W b).1 - cx
  let q := (scaleV W b).2 - cy
  let first := x * x + y * y
  let second := p * p + q * q
  let both := 2 * (x * q - p * y)
  let right := first * q - second * y
  let up := second * x - first * p
  lowestV (cx * both + right) (cy * both + up) (both * W)
def diamX (a b p : P3) : Int := (a.1 * p.2.2 - p.1 * a.2.2) * (b.1 * p.2.2 - p.1 * b.2.2)
def diamY (a b p : P3) : Int := (a.2.1 * p.2.2 - p.2.1 * a.2.2) * (b.2.1 * p.2.2 - p.2.1 * b.2.2)
def inDiamV (a b p : P3) : Int := bV (decide (diamX a b p + diamY a b p < 0)) - bV (decide (0 < diamX a b p + diamY a b p))
/-! ### the law's own -/
def lsignV (n : Int) : Int := cond (decide (0 < n)) 1 (cond (decide (n < 0)) (-1) 0)
def ldoubledV (a b c : P3) : Int :=
  let x := b.1 * a.2.2 - a.1 * b.2.2
  let y := b.2.1 * a.2.2 - a.2.1 * b.2.2
  let p := c.1 * a.2.2 - a.1 * c.2.2
  let q := c.2.1 * a.2.2 - a.2.1 * c.2.2
  (x * q - p * y).fdiv a.2.2
def lturnV (a b c : P3) : Int := lsignV (ldoubledV a b c)
def lDiamV (a b p : P3) : Int := 0 - lsignV (diamX a b p + diamY a b p)
def lrowV (d p : P3) : P3 :=
  let x := p.1 * d.2.2 - d.1 * p.2.2
  let y := p.2.1 * d.2.2 - d.2.1 * p.2.2
  let w := p.2.2 * d.2.2
  (x * w, y * w, x * x + y * y)
def lcircV (a b c d : P3) : Int := lsignV (minorV (lrowV d a) (lrowV d b) (lrowV d c)) * lturnV a b c
def lfar2V (a b : P3) : Rt :=
  let x := a.1 * b.2.2 - b.1 * a.2.2
  let y := a.2.1 * b.2.2 - b.2.1 * a.2.2
  redV (x * x + y * y) (a.2.2 * a.2.2 * b.2.2 * b.2.2)
def larea2V (a b c : P3) : Rt := redV (ldoubledV a b c) (a.2.2 * b.2.2 * c.2.2)
def plusV (a b : Rt) : Rt := redV (a.1 * b.2 + b.1 * a.2) (a.2 * b.2)
end M
namespace M
open L2 PyProof.Rows PySem.Spec PySem
/-- a point, a ratio -/
def ptD (p : P3) : PyData := tupI [p.1, p.2.1, p.2.2]
def rtD (r : Rt) : PyData := tupI [r.1, r.2]
abbrev iS (i : Int) : Sl := .p (.int i)
abbrev bS (b : Bool) : Sl := .p (.bool b)
abbrev pS (p : P3) : Sl := .p (ptD p)
abbrev rS (r : Rt) : Sl := .p (rtD r)
def BP (n : Nat) (p : P3) : Prop := Bd n p.1 ∧ Bd n p.2.1 ∧ Bd n p.2.2
def BR (n : Nat) (r : Rt) : Prop := Bd n r.1 ∧ Bd n r.2
theorem BP.mono {n m : Nat} {p : P3} (h : BP n p) (l : n ≤ m) : BP m p := ⟨bd_mono h.1 l, bd_mono h.2.1 l, bd_mono h.2.2 l⟩
theorem BR.mono {n m : Nat} {p : Rt} (h : BR n p) (l : n ≤ m) : BR m p := ⟨bd_mono h.1 l, bd_mono h.2 l⟩
def R_gcd (ss : List Sl) (s : Sl) : Prop := ∃ a b, ss = [iS a, iS b] ∧ s = iS (gcdV a b)
theorem r_gcd {a b : Int} : R_gcd [iS a, iS b] (iS (gcdV a b)) := ⟨a, b, rfl, rfl⟩
def R_red (ss : List Sl) (s : Sl) : Prop := ∃ n d, d ≠ 0 ∧ Bd 8000 d ∧ ss = [iS n, iS d] ∧ s = rS (redV n d)
theorem r_red {n d : Int} (h : d ≠ 0) (b : Bd 8000 d) : R_red [iS n, iS d] (rS (redV n d)) := ⟨n, d, h, b, rfl, rfl⟩
def R_times (ss : List Sl) (s : Sl) : Prop := ∃ a b, a.2 ≠ 0 ∧ b.2 ≠ 0 ∧ BR 3000 a ∧ BR 3000 b ∧ ss = [rS a, rS b] ∧ s = rS (timesV a b)
theorem r_times {a b : Rt} (h1 : a.2 ≠ 0) (h2 : b.2 ≠ 0) (h3 : BR 3000 a) (h4 : BR 3000 b) : R_times [rS a, rS b] (rS (timesV a b)) := ⟨a, b, h1, h2, h3, h4, rfl, rfl⟩
/-- .. with the module's quarter -/
def R_timesQ (K : PySem.W.Frag) (ss : List Sl) (s : Sl) : Prop := R_times ss s ∨ ∃ a u, a.2 ≠ 0 ∧ BR 3000 a ∧ (∀ H, SqT K H u ([1, 4].map V.int)) ∧ ss = [rS a, .x (.ref u)] ∧ s = rS (timesV a (1, 4))
def R_below (ss : List Sl) (s : Sl) : Prop := ∃ a b, BR 100000 a ∧ BR 100000 b ∧ ss = [rS a, rS b] ∧ s = bS (belowV a b)
theorem r_below {a b : Rt} (h3 : BR 100000 a) (h4 : BR 100000 b) : R_below [rS a, rS b] (bS (belowV a b)) := ⟨a, b, h3, h4, rfl, rfl⟩
def R_sign (ss : List Sl) (s : Sl) : Prop := ∃ n, ss = [iS n] ∧ s = iS (signV n)
theorem r_sign {n : Int} : R_sign [iS n] (iS (signV n)) := ⟨n, rfl, rfl⟩
def R_lowest (ss : List Sl) (s : Sl) : Prop := ∃ x y w, w ≠ 0 ∧ Bd 8000 w ∧ ss = [iS x, iS y, iS w] ∧ s = pS (lowestV x y w)
theorem r_lowest {x y w : Int} (h : w ≠ 0) (b : Bd 8000 w) : R_lowest [iS x, iS y, iS w] (pS (lowestV x y w)) := ⟨x, y, w, h, b, rfl, rfl⟩
def R_far2 (ss : List Sl) (s : Sl) : Prop := ∃ a b, BP 1000 a ∧ BP 1000 b ∧ a.2.2 ≠ 0 ∧ b.2.2 ≠ 0 ∧ ss = [pS a, pS b] ∧ s = rS (far2V a b)
theorem r_far2 {a b : P3} (h1 : BP 1000 a) (h2 : BP 1000 b) (h3 : a.2.2 ≠ 0) (h4 : b.2.2 ≠ 0) : R_far2 [pS a, pS b] (rS (far2V a b)) := ⟨a, b, h1, h2, h3, h4, rfl, rfl⟩
def R_p3 (f : P3 → P3 → P3 → Int) (ss : List Sl) (s : Sl) : Prop := ∃ a b c, BP 1000 a ∧ BP 1000 b ∧ BP 1000 c ∧ ss = [pS a, pS b, pS c] ∧ s = iS (f a b c)
theorem r_p3 {f : P3 → P3 → P3 → Int} {a b c : P3} (h1 : BP 1000 a) (h2 : BP 1000 b) (h3 : BP 1000 c) : R_p3 f [pS a, pS b, pS c] (iS (f a b c)) := ⟨a, b, c, h1, h2, h3, rfl, rfl⟩
/-- .. where the first one's last number is not 0 -/
def R_p3w (f : P3 → P3 → P3 → Int) (ss : List Sl) (s : Sl) : Prop := ∃ a b c, a.2.2 ≠ 0 ∧ BP 1000 a ∧ BP 1000 b ∧ BP 1000 c ∧ ss = [pS a, pS b, pS c] ∧ s = iS (f a b c)
theorem r_p3w {f : P3 → P3 → P3 → Int} {a b c : P3} (h : a.2.2 ≠ 0) (h1 : BP 1000 a) (h2 : BP 1000 b) (h3 : BP 1000 c) : R_p3w f [pS a, pS b, pS c] (iS (f a b c)) := ⟨a, b, c, h, h1, h2, h3, rfl, rfl⟩
theorem gcd_le_right {n d : Int} (h : d ≠ 0) {k : Nat} (b : Bd k d) : Bd k (gcdV n d) ∧ gcdV n d ≠ 0 := by
  unfold gcdV
  have h1 : Int.gcd n d ∣ d.natAbs := Nat.gcd_dvd_right _ _
  have h2 : 0 < d.natAbs := Int.natAbs_pos.mpr h
  have h3 := Nat.le_of_dvd h2 h1
  have h4 : 0 < Int.gcd n d := Nat.pos_of_dvd_of_pos h1 h2
  refine ⟨?_, by omega⟩
  unfold Bd at *
  rw [Int.natAbs_natCast]
  exact Nat.lt_of_le_of_lt h3 b
theorem com_ok {n d : Int} (h : d ≠ 0) {k : Nat} (b : Bd k d) : Bd k (comV n d) ∧ comV n d ≠ 0 := by
  obtain ⟨h1, h2⟩ := gcd_le_right (n := n) h b
  unfold comV
  split
  · exact ⟨bd_neg h1, by omega⟩
  · exact ⟨h1, h2⟩
theorem com3_ok {x y w : Int} (h : w ≠ 0) {k : Nat} (b : Bd k w) : Bd k (com3 x y w) ∧ com3 x y w ≠ 0 := by
  obtain ⟨h1, h2⟩ := gcd_le_right (n := gcdV x y) h b
  unfold com3
  split
  · exact ⟨bd_neg h1, by omega⟩
  · exact ⟨h1, h2⟩
end M
namespace M
open L2 PyProof.Rows PySem.Spec PySem
/-- a point as the law makes them -/
structure GP (p : P3) : Prop where
  x : Bd 20 p.1
  y : Bd 20 p.2.1
  w : p.2.2 = 1 ∨ p.2.2 = 3
theorem GP.w0 {p : P3} (h : GP p) : p.2.2 ≠ 0 := by rcases h.w with e | e <;> omega
theorem GP.wpos {p : P3} (h : GP p) : 0 < p.2.2 := by rcases h.w with e | e <;> omega
theorem GP.bw {p : P3} (h : GP p) : Bd 2 p.2.2 := by rcases h.w with e | e <;> (rw [e]; decide)
theorem GP.bp {p : P3} (h : GP p) : BP 1000 p := ⟨bd_mono h.x (by decide), bd_mono h.y (by decide), bd_mono h.bw (by decide)⟩
theorem weight_snoc (ps : List P3) (p : P3) : weightV (ps ++ [p]) = (weightV ps).fdiv (gcdV (weightV ps) p.2.2) * p.2.2 := by
  unfold weightV
  rw [List.foldl_append]
  rfl
/-- the common weight is 1 or 3 -/
theorem weight_13 : ∀ (ps : List P3), (∀ p ∈ ps, GP p) → weightV ps = 1 ∨ weightV ps = 3 := by
  intro ps
  unfold weightV
  have gen : ∀ (ps : List P3) (f : Int), (f = 1 ∨ f = 3) → (∀ p ∈ ps, GP p) → (ps.foldl (fun f p => f.fdiv (gcdV f p.2.2) * p.2.2) f = 1 ∨ ps.foldl (fun f p => f.fdiv (gcdV f p.2.2) * p.2.2) f = 3) := by
    intro ps
    induction ps with
    | nil => intro f hf _; exact hf
    | cons p ps ih =>
      intro f hf h
      rw [List.foldl_cons]
      refine ih _ ?_ fun q hq => h q (List.mem_cons_of_mem _ hq)
      rcases hf with e | e <;> rcases (h p List.mem_cons_self).w with g | g <;> (rw [e, g]; decide)
  exact fun h => gen ps 1 (.inl rfl) h
/-- .. and each point's divides it -/
theorem weight_dvd (ps : List P3) (h : ∀ p ∈ ps, GP p) : ∀ p ∈ ps, p.2.2 ∣ weightV ps := by
  have h3 : ∀ (ps : List P3) (f : Int), (f = 1 ∨ f = 3) → (∀ p ∈ ps, GP p) → f = 3 → ps.foldl (fun f p => f.fdiv (gcdV f p.2.2) * p.2.2) f = 3 := by
    intro ps
    induction ps with
    | nil => intro f _ _ e; exact e
    | cons p ps ih =>
      intro f hf h e
      rw [List.foldl_cons]
      have : f.fdiv (gcdV f p.2.2) * p.2.2 = 3 := by
        rcases (h p List.mem_cons_self).w with g | g <;> (rw [e, g]; decide)
      exact ih _ (.inr this) (fun q hq => h q (List.mem_cons_of_mem _ hq)) this
  have gen : ∀ (ps : List P3) (f : Int), (f = 1 ∨ f = 3) → (∀ p ∈ ps, GP p) → ∀ p ∈ ps, p.2.2 ∣ ps.foldl (fun f p => f.fdiv (gcdV f p.2.2) * p.2.2) f := by
    intro ps
    induction ps with
    | nil => intro f _ _ p m; cases m
    | cons q ps ih =>
      intro f hf h p m
      rw [List.foldl_cons]
      have hq := (h q List.mem_cons_self).w
      have hf' : f.fdiv (gcdV f q.2.2) * q.2.2 = 1 ∨ f.fdiv (gcdV f q.2.2) * q.2.2 = 3 := by
        rcases hf with e | e <;> rcases hq with g | g <;> (rw [e, g]; decide)
      rcases List.mem_cons.mp m with e | m
      · subst e
        rcases hq with g | g
        · rw [g]; exact Int.one_dvd _
        · have z : f.fdiv (gcdV f p.2.2) * p.2.2 = 3 := by
            rcases hf with e | e <;> (rw [e, g]; decide)
          rw [h3 ps _ hf' (fun q hq => h q (List.mem_cons_of_mem _ hq)) z, g]
          exact Int.dvd_refl 3
      · exact ih _ hf' (fun q hq => h q (List.mem_cons_of_mem _ hq)) p m
  unfold weightV
  exact gen ps 1 (.inl rfl) h
theorem scale_bd {W : Int} {p : P3} (hW : W = 1 ∨ W = 3) (h : GP p) : Bd 22 (scaleV W p).1 ∧ Bd 22 (scaleV W p).2 := by
  have k : W.fdiv p.2.2 = 0 ∨ W.fdiv p.2.2 = 1 ∨ W.fdiv p.2.2 = 3 := by
    rcases hW with e | e <;> rcases h.w with g | g <;> (rw [e, g]; decide)
  have kb : Bd 2 (W.fdiv p.2.2) := by
    rcases k with e | e | e <;> (rw [e]; decide)
  exact ⟨bd_mul h.x kb, bd_mul h.y kb⟩
def R_weight (ss : List Sl) (s : Sl) : Prop := ∃ ps : List P3, (∀ p ∈ ps, GP p) ∧ ps.length ≤ 100 ∧ ss = [.p (.list (ps.map ptD))] ∧ s = iS (weightV ps)
def xyD (W : Int) (p : P3) : PyData := tupI [(scaleV W p).1, (scaleV W p).2]
def R_scaled (ss : List Sl) (s : Sl) : Prop := ∃ ps : List P3, (∀ p ∈ ps, GP p) ∧ ps.length ≤ 100 ∧ ss = [.p (.list (ps.map ptD))] ∧ s = .p (.tuple [.list (ps.map (xyD (weightV ps))), .int (weightV ps)])
def R_side (f : P3 → P3 → P3 → P3 → Int) (ss : List Sl) (s : Sl) : Prop := ∃ a b c d, GP a ∧ GP b ∧ GP c ∧ GP d ∧ ss = [pS a, pS b, pS c, pS d] ∧ s = iS (f a b c d)
theorem r_side {f : P3 → P3 → P3 → P3 → Int} {a b c d : P3} (h1 : GP a) (h2 : GP b) (h3 : GP c) (h4 : GP d) : R_side f [pS a, pS b, pS c, pS d] (iS (f a b c d)) := ⟨a, b, c, d, h1, h2, h3, h4, rfl, rfl⟩
theorem row_bp {W : Int} {d p : P3} (hW : W = 1 ∨ W = 3) (hd : GP d) (hp : GP p) : BP 1000 (rowV W d p) := by
  obtain ⟨a1, a2⟩ := scale_bd hW hp
  obtain ⟨b1, b2⟩ := scale_bd hW hd
  have x := bd_sub a1 b1
  have y := bd_sub a2 b2
  exact ⟨bd_mono x (by decide), bd_mono y (by decide), bd_mono (bd_add (bd_mul x x) (bd_mul y y)) (by decide)⟩
theorem fdiv_mul {W w : Int} (h : w ∣ W) (hw : w ≠ 0) : W.fdiv w * w = W := by
  obtain ⟨k, rfl⟩ := h
  rw [Int.mul_fdiv_cancel_left _ hw, Int.mul_comm]
/-- the scaled triangle's area -/
theorem center_nz {a b c : P3} (ha : GP a) (hb : GP b) (hc : GP c) (hn : doubledV a b c ≠ 0) :
    ((scaleV (weightV [a, b, c]) a).1 - (scaleV (weightV [a, b, c]) c).1) * ((scaleV (weightV [a, b, c]) b).2 - (scaleV (weightV [a, b, c]) c).2)
      - ((scaleV (weightV [a, b, c]) b).1 - (scaleV (weightV [a, b, c]) c).1) * ((scaleV (weightV [a, b, c]) a).2 - (scaleV (weightV [a, b, c]) c).2) ≠ 0 := by
  have hall : ∀ p ∈ [a, b, c], GP p := by intro p hp; simp only [List.mem_cons, List.not_mem_nil, or_false] at hp; rcases hp with e | e | e <;> (rw [e]; assumption)
  have h13 := weight_13 _ hall
  have hd := weight_dvd _ hall
  have da := hd a (by simp)
  have db := hd b (by simp)
  have dc := hd c (by simp)
  generalize weightV [a, b, c] = W at *
  have nW : W ≠ 0 := by rcases h13 with e | e <;> (rw [e]; decide)
  have ea := fdiv_mul da ha.w0
  have eb := fdiv_mul db hb.w0
  have ec := fdiv_mul dc hc.w0
  unfold scaleV
  obtain ⟨ax, ay, aw⟩ := a
  obtain ⟨bx, by_, bw⟩ := b
  obtain ⟨cx, cy, cw⟩ := c
  dsimp only at *
  unfold doubledV at hn
  dsimp only at hn
  generalize W.fdiv aw = ka at *
  generalize W.fdiv bw = kb at *
  generalize W.fdiv cw = kc at *
  intro h
  apply hn
  have nk : ka * kb * kc ≠ 0 := by
    refine Int.mul_ne_zero (Int.mul_ne_zero ?_ ?_) ?_
    · rintro rfl; omega
    · rintro rfl; omega
    · rintro rfl; omega
  have e : (ka * kb * kc) * (ax * (by_ * cw - cy * bw) - ay * (bx * cw - cx * bw) + aw * (bx * cy - cx * by_)) = W * ((ax * ka - cx * kc) * (by_ * kb - cy * kc) - (bx * kb - cx * kc) * (ay * ka - cy * kc)) := by grind
  rw [h, Int.mul_zero] at e
  exact (Int.mul_eq_zero.mp e).resolve_left nk
end M
namespace M
open PySem
/-! ### pairs, triples and others -/
def pairsV (n : Nat) : List (Int × Int) := ((rgV 0 n).map fun i => (rgV (i + 1) ((n : Int) - (i + 1)).toNat).map fun j => (i, j)).flatten
def triplesV (n : Nat) : List P3 := ((pairsV n).map fun p => (rgV (p.2 + 1) ((n : Int) - (p.2 + 1)).toNat).map fun k => (p.1, p.2, k)).flatten
def ptAt (ps : List P3) (i : Int) : P3 := ps.getD i.toNat (0, 0, 1)
def othersV (ps : List P3) (ex : List Int) : List P3 := ((rgV 0 ps.length).filter fun m => !ex.contains m).map (ptAt ps)
theorem mem_pairsV {n : Nat} {p : Int × Int} : p ∈ pairsV n ↔ 0 ≤ p.1 ∧ p.1 < p.2 ∧ p.2 < n := by
  unfold pairsV
  rw [List.mem_flatten]
  constructor
  · rintro ⟨l, hl, hp⟩
    obtain ⟨i, hi, rfl⟩ := List.mem_map.mp hl
    obtain ⟨j, hj, rfl⟩ := List.mem_map.mp hp
    rw [mem_rgV] at hi hj
    dsimp only
    omega
  · rintro ⟨h1, h2, h3⟩
    refine ⟨_, List.mem_map_of_mem (a := p.1) (mem_rgV.mpr ⟨h1, by omega⟩), List.mem_map.mpr ⟨p.2, mem_rgV.mpr ⟨by omega, by omega⟩, rfl⟩⟩
theorem mem_triplesV {n : Nat} {t : P3} : t ∈ triplesV n ↔ 0 ≤ t.1 ∧ t.1 < t.2.1 ∧ t.2.1 < t.2.2 ∧ t.2.2 < n := by
  unfold triplesV
  rw [List.mem_flatten]
  constructor
  · rintro ⟨l, hl, hp⟩
    obtain ⟨i, hi, rfl⟩ := List.mem_map.mp hl
    obtain ⟨j, hj, rfl⟩ := List.mem_map.mp hp
    rw [mem_pairsV] at hi
    rw [mem_rgV] at hj
    dsimp only
    omega
  · rintro ⟨h1, h2, h3, h4⟩
    exact ⟨_, List.mem_map_of_mem (a := (t.1, t.2.1)) (mem_pairsV.mpr ⟨h1, h2, by dsimp only; omega⟩), List.mem_map.mpr ⟨t.2.2, mem_rgV.mpr ⟨by dsimp only; omega, by dsimp only; omega⟩, rfl⟩⟩
theorem pairsV_length (n : Nat) (h : n ≤ 40) : (pairsV n).length ≤ 1600 := by
  unfold pairsV
  rw [List.length_flatten, List.map_map]
  refine Nat.le_trans (sum_le _ _ 40 ?_) ?_
  · intro i hi
    rw [mem_rgV] at hi
    simp only [Function.comp, List.length_map, rgV_length]
    omega
  · rw [rgV_length]; omega
theorem triplesV_length (n : Nat) (h : n ≤ 40) : (triplesV n).length ≤ 64000 := by
  unfold triplesV
  rw [List.length_flatten, List.map_map]
  refine Nat.le_trans (sum_le _ _ 40 ?_) ?_
  · intro i hi
    rw [mem_pairsV] at hi
    simp only [Function.comp, List.length_map, rgV_length]
    omega
  · have := pairsV_length n h; omega
theorem ptAt_mem {ps : List P3} {i : Int} (h0 : 0 ≤ i) (h1 : i < ps.length) : ptAt ps i ∈ ps := by
  unfold ptAt
  rw [List.getD_eq_getElem?_getD, List.getElem?_eq_getElem (by omega : i.toNat < ps.length), Option.getD_some]
  exact List.getElem_mem _
theorem mem_othersV {ps : List P3} {ex : List Int} {p : P3} (h : p ∈ othersV ps ex) : p ∈ ps := by
  unfold othersV at h
  obtain ⟨m, hm, rfl⟩ := List.mem_map.mp h
  have := mem_rgV.mp (List.mem_filter.mp hm).1
  exact ptAt_mem this.1 (by omega)
def prD (p : Int × Int) : PyData := tupI [p.1, p.2]
abbrev trD (p : P3) : PyData := ptD p
end M
namespace M
open PySem
/-! ### births -/
def emptyG (side : P3 → P3 → P3 → P3 → Int) (ps : List P3) (t : P3) : Bool :=
  ((othersV ps [t.1, t.2.1, t.2.2]).filter fun p => decide (0 < side (ptAt ps t.1) (ptAt ps t.2.1) (ptAt ps t.2.2) p)).isEmpty
def trisG (side : P3 → P3 → P3 → P3 → Int) (ps : List P3) : List P3 := (triplesV ps.length).filter (emptyG side ps)
def ptL (p : P3) : List Int := [p.1, p.2.1, p.2.2]
def aroundV (ts : List P3) (p : Int × Int) : List P3 := ts.filter fun t => (ptL t).contains p.1 && (ptL t).contains p.2
def leastV (vs : List Rt) : Rt := vs.foldl (fun best v => cond (belowV v best) v best) (vs.headD (0, 1))
def freeG (dm : P3 → P3 → P3 → Int) (ps : List P3) (p : Int × Int) : Bool := ((othersV ps [p.1, p.2]).filter fun q => decide (0 < dm (ptAt ps p.1) (ptAt ps p.2) q)).isEmpty
def b3G (b3 : P3 → P3 → P3 → Rt) (ps : List P3) (t : P3) : Rt := b3 (ptAt ps t.1) (ptAt ps t.2.1) (ptAt ps t.2.2)
def b2G (b3 : P3 → P3 → P3 → Rt) (dm : P3 → P3 → P3 → Int) (fr : P3 → P3 → Rt) (ps : List P3) (ts : List P3) (p : Int × Int) : Rt :=
  cond (freeG dm ps p) (timesV (fr (ptAt ps p.1) (ptAt ps p.2)) (1, 4)) (leastV ((aroundV ts p).map (b3G b3 ps)))
def edgeV (n : Nat) (ts : List P3) (p : Int × Int) : Bool := !(aroundV ts p).isEmpty || decide ((n : Int) = 2)
def onesV (n : Nat) : List (List Int × Rt) := (rgV 0 n).map fun i => ([i], (0, 1))
def bornG (side : P3 → P3 → P3 → P3 → Int) (b3 : P3 → P3 → P3 → Rt) (dm : P3 → P3 → P3 → Int) (fr : P3 → P3 → Rt) (ps : List P3) : List (List Int × Rt) :=
  (onesV ps.length ++ (trisG side ps).map fun t => (ptL t, b3G b3 ps t))
    ++ ((pairsV ps.length).filter (edgeV ps.length (trisG side ps))).map fun p => ([p.1, p.2], b2G b3 dm fr ps (trisG side ps) p)
def birth3 (a b c : P3) : Rt := far2V (centerV a b c) a
def bornV (ps : List P3) : List (List Int × Rt) := bornG sideV birth3 inDiamV far2V ps
def lbirth3 (a b c : P3) : Rt :=
  let sides := timesV (timesV (lfar2V a b) (lfar2V b c)) (lfar2V c a)
  let area := timesV (larea2V a b c) (larea2V a b c)
  redV (sides.1 * area.2) (sides.2 * area.1 * 4)
def lbornV (ps : List P3) : List (List Int × Rt) := bornG lcircV lbirth3 lDiamV lfar2V ps
def tbD (t : List (List Int × Rt)) : List (List Int × PyData) := t.map fun e => (e.1, rtD e.2)
structure Gen (ps : List P3) : Prop where
  gp : ∀ p ∈ ps, GP p
  l1 : 1 ≤ ps.length
  l2 : ps.length ≤ 12
  nd : ps.Nodup
  prim : ∀ p ∈ ps, gcdV (gcdV p.1 p.2.1) p.2.2 = 1
  turn : ∀ i j k : Int, 0 ≤ i → i < j → j < k → k < ps.length → turnV (ptAt ps i) (ptAt ps j) (ptAt ps k) ≠ 0
  diam : ∀ i j k : Int, 0 ≤ i → i < j → j < ps.length → 0 ≤ k → k < ps.length → k ≠ i → k ≠ j → inDiamV (ptAt ps i) (ptAt ps j) (ptAt ps k) ≠ 0
  side : ∀ i j k m : Int, 0 ≤ i → i < j → j < k → k < m → m < ps.length → sideV (ptAt ps i) (ptAt ps j) (ptAt ps k) (ptAt ps m) ≠ 0
end M
namespace M
open L2 PyProof.Rows PySem.Spec PySem
section
variable {P : Program} {w : World} {K : PySem.W.Frag} {mg : Str → Option Value} {base : Heap}
-- def gcd
theorem fn_gcd (B : Blt mg) (D : DefAt K mg "gcd" s_gcd ["one", "other"]) : Fn P w K mg base "gcd" R_gcd 1 := by
  refine fn_at D sc_gcd (by rintro _ _ ⟨a, b, rfl, rfl⟩; rfl) ?_
  rintro _ _ ⟨a, b, rfl, rfl⟩
  refine pxb_seq (pxs_par (n1 := 0) (n2 := 1) sc_gcd.nd rfl rfl (by decide) rfl rfl (pxa_cons (px_abs B.abs rfl (px_var (n := 0) rfl (by first | exact Or.inl rfl | exact Or.inr (Or.inl rfl) | exact Or.inr (Or.inr rfl)) rfl) (fun _ => rfl)) (pxa_cons (px_abs B.abs rfl (px_var (n := 1) rfl (by first | exact Or.inl rfl | exact Or.inr (Or.inl rfl) | exact Or.inr (Or.inr rfl)) rfl) (fun _ => rfl)) pxa_nil (fun _ => rfl)) (fun _ => rfl)) rfl rfl rfl (fun _ => rfl)) ?_
  refine pxb_cons (pxs_while (fun m δ' => ∃ x y : Nat, m = y ∧ Nat.gcd x y = Int.gcd a b ∧ δ' = [some (iS x), some (iS y)]) b.natAbs ⟨a.natAbs, b.natAbs, rfl, rfl, rfl⟩ ?_) (nx1 := fun δ' => δ' = [some (iS (gcdV a b)), some (iS 0)]) ?_
  · rintro y _ ⟨x, _, rfl, hg, rfl⟩
    refine ⟨_, (pxt_cmp (px_neI (px_var (n := 1) rfl (by first | exact Or.inl rfl | exact Or.inr (Or.inl rfl) | exact Or.inr (Or.inr rfl)) rfl) px_int) (nomark _)), fun hy => ?_, fun hy => ?_⟩
    · have hy' : y ≠ 0 := by simpa using hy
      have hy2 : (y : Int) ≠ 0 := by omega
      refine pxb_cons (pxs_par (n1 := 0) (n2 := 1) sc_gcd.nd rfl rfl (by decide) rfl rfl (pxa_cons (px_var (n := 1) rfl (by first | exact Or.inl rfl | exact Or.inr (Or.inl rfl) | exact Or.inr (Or.inr rfl)) rfl) (pxa_cons (px_mod (px_var (n := 0) rfl (by first | exact Or.inl rfl | exact Or.inr (Or.inl rfl) | exact Or.inr (Or.inr rfl)) rfl) (px_var (n := 1) rfl (by first | exact Or.inl rfl | exact Or.inr (Or.inl rfl) | exact Or.inr (Or.inr rfl)) rfl) (by first | assumption | omega | decide)) pxa_nil (fun _ => rfl)) (fun _ => rfl)) rfl rfl rfl (fun _ => rfl)) ?_
      rintro _ rfl
      refine pxb_nil ⟨x % y, Nat.mod_lt _ (Nat.pos_of_ne_zero hy'), y, x % y, rfl, ?_, ?_⟩
      · rw [← hg, Nat.gcd_comm x y, Nat.gcd_rec y x, Nat.gcd_comm]
      · rw [Int.fmod_eq_emod_of_nonneg _ (by omega : (0 : Int) ≤ (y : Int)), ← Int.natCast_emod]
        rfl
    · have hy' : y = 0 := by simpa using hy
      subst hy'
      rw [Nat.gcd_zero_right] at hg
      subst hg
      rfl
  · rintro _ rfl
    exact pxb_one (pxs_ret (px_var (n := 0) rfl (by first | exact Or.inl rfl | exact Or.inr (Or.inl rfl) | exact Or.inr (Or.inr rfl)) rfl) (by first | rfl | done))

theorem fn_reduced (B : Blt mg) (D : DefAt K mg "reduced" s_reduced ["numerator", "denominator"]) (h_gcd : Fn P w K mg base "gcd" R_gcd 1) : Fn P w K mg base "reduced" R_red 2 := by
  -- def reduced
  refine fn_at D sc_reduced (by rintro _ _ ⟨a, b, _, _, rfl, rfl⟩; rfl) ?_
  rintro _ _ ⟨n, d, hd, bd, rfl, rfl⟩
  refine pxb_seq (pxs_set (n := 2) sc_reduced.nd rfl (by first | exact Or.inl rfl | exact Or.inr rfl) (.inl rfl) (px_call h_gcd (Nat.le_of_ble_eq_true rfl) rfl (pxa_cons (px_var (n := 0) rfl (by first | exact Or.inl rfl | exact Or.inr (Or.inl rfl) | exact Or.inr (Or.inr rfl)) rfl) (pxa_cons (px_var (n := 1) rfl (by first | exact Or.inl rfl | exact Or.inr (Or.inl rfl) | exact Or.inr (Or.inr rfl)) rfl) pxa_nil (fun _ => rfl)) (fun _ => rfl)) r_gcd rfl (fun _ => rfl) (fun _ => rfl)) rfl (fun _ => rfl)) ?_
  refine pxb_cons (nx1 := fun δ' => δ' = [some (iS n), some (iS d), some (iS (comV n d))]) (pxs_if (pxt_cmp (px_lt (px_var (n := 1) rfl (by first | exact Or.inl rfl | exact Or.inr (Or.inl rfl) | exact Or.inr (Or.inr rfl)) rfl) px_int) (nomark _)) (fun h => ?_) fun h => ?_) ?_
  · refine pxb_seq (pxs_set (n := 2) sc_reduced.nd rfl (by first | exact .inl rfl | exact .inr rfl) (.inl rfl) (px_neg (px_var (n := 2) rfl (by first | exact Or.inl rfl | exact Or.inr (Or.inl rfl) | exact Or.inr (Or.inr rfl)) rfl)) rfl (fun _ => rfl)) (pxb_nil ?_)
    rw [comV, if_pos (of_decide_eq_true h)]
    rfl
  · refine pxb_nil ?_
    rw [comV, if_neg (of_decide_eq_false h)]
    rfl
  rintro _ rfl
  obtain ⟨c1, c2⟩ := com_ok (n := n) hd bd
  exact pxb_one (pxs_ret (px_tupI (pxi1 (px_fdiv (px_var (n := 0) rfl (by first | exact Or.inl rfl | exact Or.inr (Or.inl rfl) | exact Or.inr (Or.inr rfl)) rfl) (px_var (n := 2) rfl (by first | exact Or.inl rfl | exact Or.inr (Or.inl rfl) | exact Or.inr (Or.inr rfl)) rfl) (divX (by repeat first | assumption | exact (by decide : Bd 64 _) | apply bd_mul | apply bd_add | apply bd_sub | apply bd_neg) (by first | assumption | omega | decide) (by decide))) (pxi1 (px_fdiv (px_var (n := 1) rfl (by first | exact Or.inl rfl | exact Or.inr (Or.inl rfl) | exact Or.inr (Or.inr rfl)) rfl) (px_var (n := 2) rfl (by first | exact Or.inl rfl | exact Or.inr (Or.inl rfl) | exact Or.inr (Or.inr rfl)) rfl) (divX (by repeat first | assumption | exact (by decide : Bd 64 _) | apply bd_mul | apply bd_add | apply bd_sub | apply bd_neg) (by first | assumption | omega | decide) (by decide))) pxi0 (fun _ => rfl)) (fun _ => rfl))) (by first | rfl | done))
theorem fn_times (B : Blt mg) (D : DefAt K mg "times" s_times ["one", "other"]) (h_reduced : Fn P w K mg base "reduced" R_red 2) : Fn P w K mg base "times" (R_timesQ K) 3 := by
  refine fn_at D sc_times (by rintro _ _ (⟨a, b, _, _, _, _, rfl, rfl⟩ | ⟨a, u, _, _, _, rfl, rfl⟩) <;> rfl) ?_
  rintro _ _ (⟨⟨a1, a2⟩, ⟨b1, b2⟩, h1, h2, ⟨h3, h4⟩, ⟨h5, h6⟩, rfl, rfl⟩ | ⟨⟨a1, a2⟩, u, h1, ⟨h3, h4⟩, hu, rfl, rfl⟩)
  · -- def times
    have n1 : a2 * b2 ≠ 0 := Int.mul_ne_zero h1 h2
    have n2 : Bd 8000 (a2 * b2) := bd_mono (bd_mul h4 h6) (by decide)
    exact pxb_one (pxs_ret (px_call h_reduced (Nat.le_of_ble_eq_true rfl) rfl (pxa_cons (px_mul (px_ixT (px_var (n := 0) rfl (by first | exact Or.inl rfl | exact Or.inr (Or.inl rfl) | exact Or.inr (Or.inr rfl)) rfl) px_int (by first | assumption | rfl) (fun _ _ => rfl)) (px_ixT (px_var (n := 1) rfl (by first | exact Or.inl rfl | exact Or.inr (Or.inl rfl) | exact Or.inr (Or.inr rfl)) rfl) px_int (by first | assumption | rfl) (fun _ _ => rfl)) (mulW (by repeat first | assumption | exact (by decide : Bd 64 _) | apply bd_mul | apply bd_add | apply bd_sub | apply bd_neg) (by repeat first | assumption | exact (by decide : Bd 64 _) | apply bd_mul | apply bd_add | apply bd_sub | apply bd_neg) (by decide))) (pxa_cons (px_mul (px_ixT (px_var (n := 0) rfl (by first | exact Or.inl rfl | exact Or.inr (Or.inl rfl) | exact Or.inr (Or.inr rfl)) rfl) px_int (by first | assumption | rfl) (fun _ _ => rfl)) (px_ixT (px_var (n := 1) rfl (by first | exact Or.inl rfl | exact Or.inr (Or.inl rfl) | exact Or.inr (Or.inr rfl)) rfl) px_int (by first | assumption | rfl) (fun _ _ => rfl)) (mulW (by repeat first | assumption | exact (by decide : Bd 64 _) | apply bd_mul | apply bd_add | apply bd_sub | apply bd_neg) (by repeat first | assumption | exact (by decide : Bd 64 _) | apply bd_mul | apply bd_add | apply bd_sub | apply bd_neg) (by decide))) pxa_nil (fun _ => rfl)) (fun _ => rfl)) (r_red (by assumption) (by assumption)) rfl (fun _ => rfl) (fun _ => rfl)) (by first | rfl | done))
  · -- def times
    have h5 : Bd 64 (1 : Int) := by decide
    have h6 : Bd 64 (4 : Int) := by decide
    have n1 : a2 * 4 ≠ 0 := Int.mul_ne_zero h1 (by decide)
    have n2 : Bd 8000 (a2 * 4) := bd_mono (bd_mul h4 h6) (by decide)
    exact pxb_one (pxs_ret (px_call h_reduced (Nat.le_of_ble_eq_true rfl) rfl (pxa_cons (px_mul (px_ixT (px_var (n := 0) rfl (by first | exact Or.inl rfl | exact Or.inr (Or.inl rfl) | exact Or.inr (Or.inr rfl)) rfl) px_int (by first | assumption | rfl) (fun _ _ => rfl)) (px_ixK (px_var (n := 1) rfl (by first | exact Or.inl rfl | exact Or.inr (Or.inl rfl) | exact Or.inr (Or.inr rfl)) rfl) px_int (by assumption) (by rfl) (fun _ _ => rfl)) (mulW (by repeat first | assumption | exact (by decide : Bd 64 _) | apply bd_mul | apply bd_add | apply bd_sub | apply bd_neg) (by repeat first | assumption | exact (by decide : Bd 64 _) | apply bd_mul | apply bd_add | apply bd_sub | apply bd_neg) (by decide))) (pxa_cons (px_mul (px_ixT (px_var (n := 0) rfl (by first | exact Or.inl rfl | exact Or.inr (Or.inl rfl) | exact Or.inr (Or.inr rfl)) rfl) px_int (by first | assumption | rfl) (fun _ _ => rfl)) (px_ixK (px_var (n := 1) rfl (by first | exact Or.inl rfl | exact Or.inr (Or.inl rfl) | exact Or.inr (Or.inr rfl)) rfl) px_int (by assumption) (by rfl) (fun _ _ => rfl)) (mulW (by repeat first | assumption | exact (by decide : Bd 64 _) | apply bd_mul | apply bd_add | apply bd_sub | apply bd_neg) (by repeat first | assumption | exact (by decide : Bd 64 _) | apply bd_mul | apply bd_add | apply bd_sub | apply bd_neg) (by decide))) pxa_nil (fun _ => rfl)) (fun _ => rfl)) (r_red (by assumption) (by assumption)) rfl (fun _ => rfl) (fun _ => rfl)) (by first | rfl | done))
theorem fn_is_below (B : Blt mg) (D : DefAt K mg "is_below" s_is_below ["one", "other"]) : Fn P w K mg base "is_below" R_below 1 := by
  -- def is_below
  refine fn_at D sc_is_below (by rintro _ _ ⟨a, b, _, _, rfl, rfl⟩; rfl) ?_
  rintro _ _ ⟨⟨a1, a2⟩, ⟨b1, b2⟩, ⟨h3, h4⟩, ⟨h5, h6⟩, rfl, rfl⟩
  exact pxb_one (pxs_ret (px_cmp (px_lt (px_mul (px_ixT (px_var (n := 0) rfl (by first | exact Or.inl rfl | exact Or.inr (Or.inl rfl) | exact Or.inr (Or.inr rfl)) rfl) px_int (by first | assumption | rfl) (fun _ _ => rfl)) (px_ixT (px_var (n := 1) rfl (by first | exact Or.inl rfl | exact Or.inr (Or.inl rfl) | exact Or.inr (Or.inr rfl)) rfl) px_int (by first | assumption | rfl) (fun _ _ => rfl)) (mulW (by repeat first | assumption | exact (by decide : Bd 64 _) | apply bd_mul | apply bd_add | apply bd_sub | apply bd_neg) (by repeat first | assumption | exact (by decide : Bd 64 _) | apply bd_mul | apply bd_add | apply bd_sub | apply bd_neg) (by decide))) (px_mul (px_ixT (px_var (n := 1) rfl (by first | exact Or.inl rfl | exact Or.inr (Or.inl rfl) | exact Or.inr (Or.inr rfl)) rfl) px_int (by first | assumption | rfl) (fun _ _ => rfl)) (px_ixT (px_var (n := 0) rfl (by first | exact Or.inl rfl | exact Or.inr (Or.inl rfl) | exact Or.inr (Or.inr rfl)) rfl) px_int (by first | assumption | rfl) (fun _ _ => rfl)) (mulW (by repeat first | assumption | exact (by decide : Bd 64 _) | apply bd_mul | apply bd_add | apply bd_sub | apply bd_neg) (by repeat first | assumption | exact (by decide : Bd 64 _) | apply bd_mul | apply bd_add | apply bd_sub | apply bd_neg) (by decide)))) (nomark _)) (by first | rfl | done))
theorem fn_sign (B : Blt mg) (D : DefAt K mg "sign" s_sign ["number"]) : Fn P w K mg base "sign" R_sign 1 := by
  -- def sign
  refine fn_at D sc_sign (by rintro _ _ ⟨a, rfl, rfl⟩; rfl) ?_
  rintro _ _ ⟨n, rfl, rfl⟩
  exact pxb_one (pxs_ret (px_subB (px_cmp (px_gt (px_var (n := 0) rfl (by first | exact Or.inl rfl | exact Or.inr (Or.inl rfl) | exact Or.inr (Or.inr rfl)) rfl) px_int) (nomark _)) (px_cmp (px_lt (px_var (n := 0) rfl (by first | exact Or.inl rfl | exact Or.inr (Or.inl rfl) | exact Or.inr (Or.inr rfl)) rfl) px_int) (nomark _))) (by first | rfl | done))
theorem fn_lowest (B : Blt mg) (D : DefAt K mg "lowest" s_lowest ["x", "y", "w"]) (h_gcd : Fn P w K mg base "gcd" R_gcd 1) : Fn P w K mg base "lowest" R_lowest 2 := by
  -- def lowest
  refine fn_at D sc_lowest (by rintro _ _ ⟨a, b, c, _, _, rfl, rfl⟩; rfl) ?_
  rintro _ _ ⟨x, y, w, hd, bd, rfl, rfl⟩
  refine pxb_seq (pxs_set (n := 3) sc_lowest.nd rfl (by first | exact Or.inl rfl | exact Or.inr rfl) (.inl rfl) (px_call h_gcd (Nat.le_of_ble_eq_true rfl) rfl (pxa_cons (px_call h_gcd (Nat.le_of_ble_eq_true rfl) rfl (pxa_cons (px_var (n := 0) rfl (by first | exact Or.inl rfl | exact Or.inr (Or.inl rfl) | exact Or.inr (Or.inr rfl)) rfl) (pxa_cons (px_var (n := 1) rfl (by first | exact Or.inl rfl | exact Or.inr (Or.inl rfl) | exact Or.inr (Or.inr rfl)) rfl) pxa_nil (fun _ => rfl)) (fun _ => rfl)) r_gcd rfl (fun _ => rfl) (fun _ => rfl)) (pxa_cons (px_var (n := 2) rfl (by first | exact Or.inl rfl | exact Or.inr (Or.inl rfl) | exact Or.inr (Or.inr rfl)) rfl) pxa_nil (fun _ => rfl)) (fun _ => rfl)) r_gcd rfl (fun _ => rfl) (fun _ => rfl)) rfl (fun _ => rfl)) ?_
  refine pxb_cons (nx1 := fun δ' => δ' = [some (iS x), some (iS y), some (iS w), some (iS (com3 x y w))]) (pxs_if (pxt_cmp (px_lt (px_var (n := 2) rfl (by first | exact Or.inl rfl | exact Or.inr (Or.inl rfl) | exact Or.inr (Or.inr rfl)) rfl) px_int) (nomark _)) (fun h => ?_) fun h => ?_) ?_
  · refine pxb_seq (pxs_set (n := 3) sc_lowest.nd rfl (by first | exact .inl rfl | exact .inr rfl) (.inl rfl) (px_neg (px_var (n := 3) rfl (by first | exact Or.inl rfl | exact Or.inr (Or.inl rfl) | exact Or.inr (Or.inr rfl)) rfl)) rfl (fun _ => rfl)) (pxb_nil ?_)
    rw [com3, if_pos (of_decide_eq_true h)]
    rfl
  · refine pxb_nil ?_
    rw [com3, if_neg (of_decide_eq_false h)]
    rfl
  rintro _ rfl
  obtain ⟨c1, c2⟩ := com3_ok (x := x) (y := y) hd bd
  exact pxb_one (pxs_ret (px_tupI (pxi1 (px_fdiv (px_var (n := 0) rfl (by first | exact Or.inl rfl | exact Or.inr (Or.inl rfl) | exact Or.inr (Or.inr rfl)) rfl) (px_var (n := 3) rfl (by first | exact Or.inl rfl | exact Or.inr (Or.inl rfl) | exact Or.inr (Or.inr rfl)) rfl) (divX (by repeat first | assumption | exact (by decide : Bd 64 _) | apply bd_mul | apply bd_add | apply bd_sub | apply bd_neg) (by first | assumption | omega | decide) (by decide))) (pxi1 (px_fdiv (px_var (n := 1) rfl (by first | exact Or.inl rfl | exact Or.inr (Or.inl rfl) | exact Or.inr (Or.inr rfl)) rfl) (px_var (n := 3) rfl (by first | exact Or.inl rfl | exact Or.inr (Or.inl rfl) | exact Or.inr (Or.inr rfl)) rfl) (divX (by repeat first | assumption | exact (by decide : Bd 64 _) | apply bd_mul | apply bd_add | apply bd_sub | apply bd_neg) (by first | assumption | omega | decide) (by decide))) (pxi1 (px_fdiv (px_var (n := 2) rfl (by first | exact Or.inl rfl | exact Or.inr (Or.inl rfl) | exact Or.inr (Or.inr rfl)) rfl) (px_var (n := 3) rfl (by first | exact Or.inl rfl | exact Or.inr (Or.inl rfl) | exact Or.inr (Or.inr rfl)) rfl) (divX (by repeat first | assumption | exact (by decide : Bd 64 _) | apply bd_mul | apply bd_add | apply bd_sub | apply bd_neg) (by first | assumption | omega | decide) (by decide))) pxi0 (fun _ => rfl)) (fun _ => rfl)) (fun _ => rfl))) (by first | rfl | done))
theorem fn_far2 (B : Blt mg) (D : DefAt K mg "far2" s_far2 ["a", "b"]) (h_reduced : Fn P w K mg base "reduced" R_red 2) : Fn P w K mg base "far2" R_far2 3 := by
  -- def far2
  refine fn_at D sc_far2 (by rintro _ _ ⟨a, b, _, _, _, _, rfl, rfl⟩; rfl) ?_
  rintro _ _ ⟨⟨ax, ay, aw⟩, ⟨bx, by_, bw⟩, ⟨h1, h2, h3⟩, ⟨h4, h5, h6⟩, n1, n2, rfl, rfl⟩
  have n3 : (aw * bw) * (aw * bw) ≠ 0 := Int.mul_ne_zero (Int.mul_ne_zero n1 n2) (Int.mul_ne_zero n1 n2)
  have n4 : Bd 8000 ((aw * bw) * (aw * bw)) := bd_mono (bd_mul (bd_mul h3 h6) (bd_mul h3 h6)) (by decide)
  refine pxb_seq (pxs_par3 (n1 := 2) (n2 := 3) (n3 := 4) sc_far2.nd rfl rfl rfl (by decide) (by decide) (by decide) rfl rfl rfl (pxa_cons (px_sub (px_mul (px_ixT (px_var (n := 0) rfl (by first | exact Or.inl rfl | exact Or.inr (Or.inl rfl) | exact Or.inr (Or.inr rfl)) rfl) px_int (by first | assumption | rfl) (fun _ _ => rfl)) (px_ixT (px_var (n := 1) rfl (by first | exact Or.inl rfl | exact Or.inr (Or.inl rfl) | exact Or.inr (Or.inr rfl)) rfl) px_int (by first | assumption | rfl) (fun _ _ => rfl)) (mulW (by repeat first | assumption | exact (by decide : Bd 64 _) | apply bd_mul | apply bd_add | apply bd_sub | apply bd_neg) (by repeat first | assumption | exact (by decide : Bd 64 _) | apply bd_mul | apply bd_add | apply bd_sub | apply bd_neg) (by decide))) (px_mul (px_ixT (px_var (n := 1) rfl (by first | exact Or.inl rfl | exact Or.inr (Or.inl rfl) | exact Or.inr (Or.inr rfl)) rfl) px_int (by first | assumption | rfl) (fun _ _ => rfl)) (px_ixT (px_var (n := 0) rfl (by first | exact Or.inl rfl | exact Or.inr (Or.inl rfl) | exact Or.inr (Or.inr rfl)) rfl) px_int (by first | assumption | rfl) (fun _ _ => rfl)) (mulW (by repeat first | assumption | exact (by decide : Bd 64 _) | apply bd_mul | apply bd_add | apply bd_sub | apply bd_neg) (by repeat first | assumption | exact (by decide : Bd 64 _) | apply bd_mul | apply bd_add | apply bd_sub | apply bd_neg) (by decide)))) (pxa_cons (px_sub (px_mul (px_ixT (px_var (n := 0) rfl (by first | exact Or.inl rfl | exact Or.inr (Or.inl rfl) | exact Or.inr (Or.inr rfl)) rfl) px_int (by first | assumption | rfl) (fun _ _ => rfl)) (px_ixT (px_var (n := 1) rfl (by first | exact Or.inl rfl | exact Or.inr (Or.inl rfl) | exact Or.inr (Or.inr rfl)) rfl) px_int (by first | assumption | rfl) (fun _ _ => rfl)) (mulW (by repeat first | assumption | exact (by decide : Bd 64 _) | apply bd_mul | apply bd_add | apply bd_sub | apply bd_neg) (by repeat first | assumption | exact (by decide : Bd 64 _) | apply bd_mul | apply bd_add | apply bd_sub | apply bd_neg) (by decide))) (px_mul (px_ixT (px_var (n := 1) rfl (by first | exact Or.inl rfl | exact Or.inr (Or.inl rfl) | exact Or.inr (Or.inr rfl)) rfl) px_int (by first | assumption | rfl) (fun _ _ => rfl)) (px_ixT (px_var (n := 0) rfl (by first | exact Or.inl rfl | exact Or.inr (Or.inl rfl) | exact Or.inr (Or.inr rfl)) rfl) px_int (by first | assumption | rfl) (fun _ _ => rfl)) (mulW (by repeat first | assumption | exact (by decide : Bd 64 _) | apply bd_mul | apply bd_add | apply bd_sub | apply bd_neg) (by repeat first | assumption | exact (by decide : Bd 64 _) | apply bd_mul | apply bd_add | apply bd_sub | apply bd_neg) (by decide)))) (pxa_cons (px_mul (px_ixT (px_var (n := 0) rfl (by first | exact Or.inl rfl | exact Or.inr (Or.inl rfl) | exact Or.inr (Or.inr rfl)) rfl) px_int (by first | assumption | rfl) (fun _ _ => rfl)) (px_ixT (px_var (n := 1) rfl (by first | exact Or.inl rfl | exact Or.inr (Or.inl rfl) | exact Or.inr (Or.inr rfl)) rfl) px_int (by first | assumption | rfl) (fun _ _ => rfl)) (mulW (by repeat first | assumption | exact (by decide : Bd 64 _) | apply bd_mul | apply bd_add | apply bd_sub | apply bd_neg) (by repeat first | assumption | exact (by decide : Bd 64 _) | apply bd_mul | apply bd_add | apply bd_sub | apply bd_neg) (by decide))) pxa_nil (fun _ => rfl)) (fun _ => rfl)) (fun _ => rfl)) rfl rfl rfl rfl (fun _ => rfl)) ?_
  exact pxb_one (pxs_ret (px_call h_reduced (Nat.le_of_ble_eq_true rfl) rfl (pxa_cons (px_add (px_mul (px_var (n := 2) rfl (by first | exact Or.inl rfl | exact Or.inr (Or.inl rfl) | exact Or.inr (Or.inr rfl)) rfl) (px_var (n := 2) rfl (by first | exact Or.inl rfl | exact Or.inr (Or.inl rfl) | exact Or.inr (Or.inr rfl)) rfl) (mulW (by repeat first | assumption | exact (by decide : Bd 64 _) | apply bd_mul | apply bd_add | apply bd_sub | apply bd_neg) (by repeat first | assumption | exact (by decide : Bd 64 _) | apply bd_mul | apply bd_add | apply bd_sub | apply bd_neg) (by decide))) (px_mul (px_var (n := 3) rfl (by first | exact Or.inl rfl | exact Or.inr (Or.inl rfl) | exact Or.inr (Or.inr rfl)) rfl) (px_var (n := 3) rfl (by first | exact Or.inl rfl | exact Or.inr (Or.inl rfl) | exact Or.inr (Or.inr rfl)) rfl) (mulW (by repeat first | assumption | exact (by decide : Bd 64 _) | apply bd_mul | apply bd_add | apply bd_sub | apply bd_neg) (by repeat first | assumption | exact (by decide : Bd 64 _) | apply bd_mul | apply bd_add | apply bd_sub | apply bd_neg) (by decide)))) (pxa_cons (px_mul (px_var (n := 4) rfl (by first | exact Or.inl rfl | exact Or.inr (Or.inl rfl) | exact Or.inr (Or.inr rfl)) rfl) (px_var (n := 4) rfl (by first | exact Or.inl rfl | exact Or.inr (Or.inl rfl) | exact Or.inr (Or.inr rfl)) rfl) (mulW (by repeat first | assumption | exact (by decide : Bd 64 _) | apply bd_mul | apply bd_add | apply bd_sub | apply bd_neg) (by repeat first | assumption | exact (by decide : Bd 64 _) | apply bd_mul | apply bd_add | apply bd_sub | apply bd_neg) (by decide))) pxa_nil (fun _ => rfl)) (fun _ => rfl)) (r_red (by assumption) (by assumption)) rfl (fun _ => rfl) (fun _ => rfl)) (by first | rfl | done))
theorem fn_doubled (B : Blt mg) (D : DefAt K mg "doubled" s_doubled ["a", "b", "c"]) : Fn P w K mg base "doubled" (R_p3 doubledV) 1 := by
  -- def doubled
  refine fn_at D sc_doubled (by rintro _ _ ⟨a, b, c, _, _, _, rfl, rfl⟩; rfl) ?_
  rintro _ _ ⟨⟨ax, ay, aw⟩, ⟨bx, by_, bw⟩, ⟨cx, cy, cw⟩, ⟨h1, h2, h3⟩, ⟨h4, h5, h6⟩, ⟨h7, h8, h9⟩, rfl, rfl⟩
  refine pxb_seq (pxs_set (n := 3) sc_doubled.nd rfl (by first | exact Or.inl rfl | exact Or.inr rfl) (.inl rfl) (px_mul (px_ixT (px_var (n := 0) rfl (by first | exact Or.inl rfl | exact Or.inr (Or.inl rfl) | exact Or.inr (Or.inr rfl)) rfl) px_int (by first | assumption | rfl) (fun _ _ => rfl)) (px_sub (px_mul (px_ixT (px_var (n := 1) rfl (by first | exact Or.inl rfl | exact Or.inr (Or.inl rfl) | exact Or.inr (Or.inr rfl)) rfl) px_int (by first | assumption | rfl) (fun _ _ => rfl)) (px_ixT (px_var (n := 2) rfl (by first | exact Or.inl rfl | exact Or.inr (Or.inl rfl) | exact Or.inr (Or.inr rfl)) rfl) px_int (by first | assumption | rfl) (fun _ _ => rfl)) (mulW (by repeat first | assumption | exact (by decide : Bd 64 _) | apply bd_mul | apply bd_add | apply bd_sub | apply bd_neg) (by repeat first | assumption | exact (by decide : Bd 64 _) | apply bd_mul | apply bd_add | apply bd_sub | apply bd_neg) (by decide))) (px_mul (px_ixT (px_var (n := 2) rfl (by first | exact Or.inl rfl | exact Or.inr (Or.inl rfl) | exact Or.inr (Or.inr rfl)) rfl) px_int (by first | assumption | rfl) (fun _ _ => rfl)) (px_ixT (px_var (n := 1) rfl (by first | exact Or.inl rfl | exact Or.inr (Or.inl rfl) | exact Or.inr (Or.inr rfl)) rfl) px_int (by first | assumption | rfl) (fun _ _ => rfl)) (mulW (by repeat first | assumption | exact (by decide : Bd 64 _) | apply bd_mul | apply bd_add | apply bd_sub | apply bd_neg) (by repeat first | assumption | exact (by decide : Bd 64 _) | apply bd_mul | apply bd_add | apply bd_sub | apply bd_neg) (by decide)))) (mulW (by repeat first | assumption | exact (by decide : Bd 64 _) | apply bd_mul | apply bd_add | apply bd_sub | apply bd_neg) (by repeat first | assumption | exact (by decide : Bd 64 _) | apply bd_mul | apply bd_add | apply bd_sub | apply bd_neg) (by decide))) rfl (fun _ => rfl)) ?_
  refine pxb_seq (pxs_set (n := 4) sc_doubled.nd rfl (by first | exact Or.inl rfl | exact Or.inr rfl) (.inl rfl) (px_mul (px_ixT (px_var (n := 0) rfl (by first | exact Or.inl rfl | exact Or.inr (Or.inl rfl) | exact Or.inr (Or.inr rfl)) rfl) px_int (by first | assumption | rfl) (fun _ _ => rfl)) (px_sub (px_mul (px_ixT (px_var (n := 1) rfl (by first | exact Or.inl rfl | exact Or.inr (Or.inl rfl) | exact Or.inr (Or.inr rfl)) rfl) px_int (by first | assumption | rfl) (fun _ _ => rfl)) (px_ixT (px_var (n := 2) rfl (by first | exact Or.inl rfl | exact Or.inr (Or.inl rfl) | exact Or.inr (Or.inr rfl)) rfl) px_int (by first | assumption | rfl) (fun _ _ => rfl)) (mulW (by repeat first | assumption | exact (by decide : Bd 64 _) | apply bd_mul | apply bd_add | apply bd_sub | apply bd_neg) (by repeat first | assumption | exact (by decide : Bd 64 _) | apply bd_mul | apply bd_add | apply bd_sub | apply bd_neg) (by decide))) (px_mul (px_ixT (px_var (n := 2) rfl (by first | exact Or.inl rfl | exact Or.inr (Or.inl rfl) | exact Or.inr (Or.inr rfl)) rfl) px_int (by first | assumption | rfl) (fun _ _ => rfl)) (px_ixT (px_var (n := 1) rfl (by first | exact Or.inl rfl | exact Or.inr (Or.inl rfl) | exact Or.inr (Or.inr rfl)) rfl) px_int (by first | assumption | rfl) (fun _ _ => rfl)) (mulW (by repeat first | assumption | exact (by decide : Bd 64 _) | apply bd_mul | apply bd_add | apply bd_sub | apply bd_neg) (by repeat first | assumption | exact (by decide : Bd 64 _) | apply bd_mul | apply bd_add | apply bd_sub | apply bd_neg) (by decide)))) (mulW (by repeat first | assumption | exact (by decide : Bd 64 _) | apply bd_mul | apply bd_add | apply bd_sub | apply bd_neg) (by repeat first | assumption | exact (by decide : Bd 64 _) | apply bd_mul | apply bd_add | apply bd_sub | apply bd_neg) (by decide))) rfl (fun _ => rfl)) ?_
  exact pxb_one (pxs_ret (px_add (px_sub (px_var (n := 3) rfl (by first | exact Or.inl rfl | exact Or.inr (Or.inl rfl) | exact Or.inr (Or.inr rfl)) rfl) (px_var (n := 4) rfl (by first | exact Or.inl rfl | exact Or.inr (Or.inl rfl) | exact Or.inr (Or.inr rfl)) rfl)) (px_mul (px_ixT (px_var (n := 0) rfl (by first | exact Or.inl rfl | exact Or.inr (Or.inl rfl) | exact Or.inr (Or.inr rfl)) rfl) px_int (by first | assumption | rfl) (fun _ _ => rfl)) (px_sub (px_mul (px_ixT (px_var (n := 1) rfl (by first | exact Or.inl rfl | exact Or.inr (Or.inl rfl) | exact Or.inr (Or.inr rfl)) rfl) px_int (by first | assumption | rfl) (fun _ _ => rfl)) (px_ixT (px_var (n := 2) rfl (by first | exact Or.inl rfl | exact Or.inr (Or.inl rfl) | exact Or.inr (Or.inr rfl)) rfl) px_int (by first | assumption | rfl) (fun _ _ => rfl)) (mulW (by repeat first | assumption | exact (by decide : Bd 64 _) | apply bd_mul | apply bd_add | apply bd_sub | apply bd_neg) (by repeat first | assumption | exact (by decide : Bd 64 _) | apply bd_mul | apply bd_add | apply bd_sub | apply bd_neg) (by decide))) (px_mul (px_ixT (px_var (n := 2) rfl (by first | exact Or.inl rfl | exact Or.inr (Or.inl rfl) | exact Or.inr (Or.inr rfl)) rfl) px_int (by first | assumption | rfl) (fun _ _ => rfl)) (px_ixT (px_var (n := 1) rfl (by first | exact Or.inl rfl | exact Or.inr (Or.inl rfl) | exact Or.inr (Or.inr rfl)) rfl) px_int (by first | assumption | rfl) (fun _ _ => rfl)) (mulW (by repeat first | assumption | exact (by decide : Bd 64 _) | apply bd_mul | apply bd_add | apply bd_sub | apply bd_neg) (by repeat first | assumption | exact (by decide : Bd 64 _) | apply bd_mul | apply bd_add | apply bd_sub | apply bd_neg) (by decide)))) (mulW (by repeat first | assumption | exact (by decide : Bd 64 _) | apply bd_mul | apply bd_add | apply bd_sub | apply bd_neg) (by repeat first | assumption | exact (by decide : Bd 64 _) | apply bd_mul | apply bd_add | apply bd_sub | apply bd_neg) (by decide)))) (by first | rfl | done))
theorem fn_turn_of (B : Blt mg) (D : DefAt K mg "turn_of" s_turn_of ["a", "b", "c"]) (h_sign : Fn P w K mg base "sign" R_sign 1) (h_doubled : Fn P w K mg base "doubled" (R_p3 doubledV) 1) : Fn P w K mg base "turn_of" (R_p3 turnV) 2 := by
  -- def turn_of
  refine fn_at D sc_turn_of (by rintro _ _ ⟨a, b, c, _, _, _, rfl, rfl⟩; rfl) ?_
  rintro _ _ ⟨a, b, c, h1, h2, h3, rfl, rfl⟩
  exact pxb_one (pxs_ret (px_call h_sign (Nat.le_of_ble_eq_true rfl) rfl (pxa_cons (px_call h_doubled (Nat.le_of_ble_eq_true rfl) rfl (pxa_cons (px_var (n := 0) rfl (by first | exact Or.inl rfl | exact Or.inr (Or.inl rfl) | exact Or.inr (Or.inr rfl)) rfl) (pxa_cons (px_var (n := 1) rfl (by first | exact Or.inl rfl | exact Or.inr (Or.inl rfl) | exact Or.inr (Or.inr rfl)) rfl) (pxa_cons (px_var (n := 2) rfl (by first | exact Or.inl rfl | exact Or.inr (Or.inl rfl) | exact Or.inr (Or.inr rfl)) rfl) pxa_nil (fun _ => rfl)) (fun _ => rfl)) (fun _ => rfl)) (r_p3 (by assumption) (by assumption) (by assumption)) rfl (fun _ => rfl) (fun _ => rfl)) pxa_nil (fun _ => rfl)) r_sign rfl (fun _ => rfl) (fun _ => rfl)) (by first | rfl | done))
theorem fn_minor (B : Blt mg) (D : DefAt K mg "minor" s_minor ["a", "b", "c"]) : Fn P w K mg base "minor" (R_p3 minorV) 1 := by
  -- def minor
  refine fn_at D sc_minor (by rintro _ _ ⟨a, b, c, _, _, _, rfl, rfl⟩; rfl) ?_
  rintro _ _ ⟨⟨ax, ay, aw⟩, ⟨bx, by_, bw⟩, ⟨cx, cy, cw⟩, ⟨h1, h2, h3⟩, ⟨h4, h5, h6⟩, ⟨h7, h8, h9⟩, rfl, rfl⟩
  refine pxb_seq (pxs_set (n := 3) sc_minor.nd rfl (by first | exact Or.inl rfl | exact Or.inr rfl) (.inl rfl) (px_mul (px_ixT (px_var (n := 0) rfl (by first | exact Or.inl rfl | exact Or.inr (Or.inl rfl) | exact Or.inr (Or.inr rfl)) rfl) px_int (by first | assumption | rfl) (fun _ _ => rfl)) (px_sub (px_mul (px_ixT (px_var (n := 1) rfl (by first | exact Or.inl rfl | exact Or.inr (Or.inl rfl) | exact Or.inr (Or.inr rfl)) rfl) px_int (by first | assumption | rfl) (fun _ _ => rfl)) (px_ixT (px_var (n := 2) rfl (by first | exact Or.inl rfl | exact Or.inr (Or.inl rfl) | exact Or.inr (Or.inr rfl)) rfl) px_int (by first | assumption | rfl) (fun _ _ => rfl)) (mulW (by repeat first | assumption | exact (by decide : Bd 64 _) | apply bd_mul | apply bd_add | apply bd_sub | apply bd_neg) (by repeat first | assumption | exact (by decide : Bd 64 _) | apply bd_mul | apply bd_add | apply bd_sub | apply bd_neg) (by decide))) (px_mul (px_ixT (px_var (n := 1) rfl (by first | exact Or.inl rfl | exact Or.inr (Or.inl rfl) | exact Or.inr (Or.inr rfl)) rfl) px_int (by first | assumption | rfl) (fun _ _ => rfl)) (px_ixT (px_var (n := 2) rfl (by first | exact Or.inl rfl | exact Or.inr (Or.inl rfl) | exact Or.inr (Or.inr rfl)) rfl) px_int (by first | assumption | rfl) (fun _ _ => rfl)) (mulW (by repeat first | assumption | exact (by decide : Bd 64 _) | apply bd_mul | apply bd_add | apply bd_sub | apply bd_neg) (by repeat first | assumption | exact (by decide : Bd 64 _) | apply bd_mul | apply bd_add | apply bd_sub | apply bd_neg) (by decide)))) (mulW (by repeat first | assumption | exact (by decide : Bd 64 _) | apply bd_mul | apply bd_add | apply bd_sub | apply bd_neg) (by repeat first | assumption | exact (by decide : Bd 64 _) | apply bd_mul | apply bd_add | apply bd_sub | apply bd_neg) (by decide))) rfl (fun _ => rfl)) ?_
  exact pxb_one (pxs_ret (px_add (px_sub (px_var (n := 3) rfl (by first | exact Or.inl rfl | exact Or.inr (Or.inl rfl) | exact Or.inr (Or.inr rfl)) rfl) (px_mul (px_ixT (px_var (n := 0) rfl (by first | exact Or.inl rfl | exact Or.inr (Or.inl rfl) | exact Or.inr (Or.inr rfl)) rfl) px_int (by first | assumption | rfl) (fun _ _ => rfl)) (px_sub (px_mul (px_ixT (px_var (n := 1) rfl (by first | exact Or.inl rfl | exact Or.inr (Or.inl rfl) | exact Or.inr (Or.inr rfl)) rfl) px_int (by first | assumption | rfl) (fun _ _ => rfl)) (px_ixT (px_var (n := 2) rfl (by first | exact Or.inl rfl | exact Or.inr (Or.inl rfl) | exact Or.inr (Or.inr rfl)) rfl) px_int (by first | assumption | rfl) (fun _ _ => rfl)) (mulW (by repeat first | assumption | exact (by decide : Bd 64 _) | apply bd_mul | apply bd_add | apply bd_sub | apply bd_neg) (by repeat first | assumption | exact (by decide : Bd 64 _) | apply bd_mul | apply bd_add | apply bd_sub | apply bd_neg) (by decide))) (px_mul (px_ixT (px_var (n := 1) rfl (by first | exact Or.inl rfl | exact Or.inr (Or.inl rfl) | exact Or.inr (Or.inr rfl)) rfl) px_int (by first | assumption | rfl) (fun _ _ => rfl)) (px_ixT (px_var (n := 2) rfl (by first | exact Or.inl rfl | exact Or.inr (Or.inl rfl) | exact Or.inr (Or.inr rfl)) rfl) px_int (by first | assumption | rfl) (fun _ _ => rfl)) (mulW (by repeat first | assumption | exact (by decide : Bd 64 _) | apply bd_mul | apply bd_add | apply bd_sub | apply bd_neg) (by repeat first | assumption | exact (by decide : Bd 64 _) | apply bd_mul | apply bd_add | apply bd_sub | apply bd_neg) (by decide)))) (mulW (by repeat first | assumption | exact (by decide : Bd 64 _) | apply bd_mul | apply bd_add | apply bd_sub | apply bd_neg) (by repeat first | assumption | exact (by decide : Bd 64 _) | apply bd_mul | apply bd_add | apply bd_sub | apply bd_neg) (by decide)))) (px_mul (px_ixT (px_var (n := 0) rfl (by first | exact Or.inl rfl | exact Or.inr (Or.inl rfl) | exact Or.inr (Or.inr rfl)) rfl) px_int (by first | assumption | rfl) (fun _ _ => rfl)) (px_sub (px_mul (px_ixT (px_var (n := 1) rfl (by first | exact Or.inl rfl | exact Or.inr (Or.inl rfl) | exact Or.inr (Or.inr rfl)) rfl) px_int (by first | assumption | rfl) (fun _ _ => rfl)) (px_ixT (px_var (n := 2) rfl (by first | exact Or.inl rfl | exact Or.inr (Or.inl rfl) | exact Or.inr (Or.inr rfl)) rfl) px_int (by first | assumption | rfl) (fun _ _ => rfl)) (mulW (by repeat first | assumption | exact (by decide : Bd 64 _) | apply bd_mul | apply bd_add | apply bd_sub | apply bd_neg) (by repeat first | assumption | exact (by decide : Bd 64 _) | apply bd_mul | apply bd_add | apply bd_sub | apply bd_neg) (by decide))) (px_mul (px_ixT (px_var (n := 1) rfl (by first | exact Or.inl rfl | exact Or.inr (Or.inl rfl) | exact Or.inr (Or.inr rfl)) rfl) px_int (by first | assumption | rfl) (fun _ _ => rfl)) (px_ixT (px_var (n := 2) rfl (by first | exact Or.inl rfl | exact Or.inr (Or.inl rfl) | exact Or.inr (Or.inr rfl)) rfl) px_int (by first | assumption | rfl) (fun _ _ => rfl)) (mulW (by repeat first | assumption | exact (by decide : Bd 64 _) | apply bd_mul | apply bd_add | apply bd_sub | apply bd_neg) (by repeat first | assumption | exact (by decide : Bd 64 _) | apply bd_mul | apply bd_add | apply bd_sub | apply bd_neg) (by decide)))) (mulW (by repeat first | assumption | exact (by decide : Bd 64 _) | apply bd_mul | apply bd_add | apply bd_sub | apply bd_neg) (by repeat first | assumption | exact (by decide : Bd 64 _) | apply bd_mul | apply bd_add | apply bd_sub | apply bd_neg) (by decide)))) (by first | rfl | done))
theorem fn_in_diameter (B : Blt mg) (D : DefAt K mg "in_diameter" s_in_diameter ["a", "b", "p"]) : Fn P w K mg base "in_diameter" (R_p3 inDiamV) 1 := by
  -- def in_diameter
  refine fn_at D sc_in_diameter (by rintro _ _ ⟨a, b, c, _, _, _, rfl, rfl⟩; rfl) ?_
  rintro _ _ ⟨⟨ax, ay, aw⟩, ⟨bx, by_, bw⟩, ⟨cx, cy, cw⟩, ⟨h1, h2, h3⟩, ⟨h4, h5, h6⟩, ⟨h7, h8, h9⟩, rfl, rfl⟩
  refine pxb_seq (pxs_set (n := 3) sc_in_diameter.nd rfl (by first | exact Or.inl rfl | exact Or.inr rfl) (.inl rfl) (px_mul (px_sub (px_mul (px_ixT (px_var (n := 0) rfl (by first | exact Or.inl rfl | exact Or.inr (Or.inl rfl) | exact Or.inr (Or.inr rfl)) rfl) px_int (by first | assumption | rfl) (fun _ _ => rfl)) (px_ixT (px_var (n := 2) rfl (by first | exact Or.inl rfl | exact Or.inr (Or.inl rfl) | exact Or.inr (Or.inr rfl)) rfl) px_int (by first | assumption | rfl) (fun _ _ => rfl)) (mulW (by repeat first | assumption | exact (by decide : Bd 64 _) | apply bd_mul | apply bd_add | apply bd_sub | apply bd_neg) (by repeat first | assumption | exact (by decide : Bd 64 _) | apply bd_mul | apply bd_add | apply bd_sub | apply bd_neg) (by decide))) (px_mul (px_ixT (px_var (n := 2) rfl (by first | exact Or.inl rfl | exact Or.inr (Or.inl rfl) | exact Or.inr (Or.inr rfl)) rfl) px_int (by first | assumption | rfl) (fun _ _ => rfl)) (px_ixT (px_var (n := 0) rfl (by first | exact Or.inl rfl | exact Or.inr (Or.inl rfl) | exact Or.inr (Or.inr rfl)) rfl) px_int (by first | assumption | rfl) (fun _ _ => rfl)) (mulW (by repeat first | assumption | exact (by decide : Bd 64 _) | apply bd_mul | apply bd_add | apply bd_sub | apply bd_neg) (by repeat first | assumption | exact (by decide : Bd 64 _) | apply bd_mul | apply bd_add | apply bd_sub | apply bd_neg) (by decide)))) (px_sub (px_mul (px_ixT (px_var (n := 1) rfl (by first | exact Or.inl rfl | exact Or.inr (Or.inl rfl) | exact Or.inr (Or.inr rfl)) rfl) px_int (by first | assumption | rfl) (fun _ _ => rfl)) (px_ixT (px_var (n := 2) rfl (by first | exact Or.inl rfl | exact Or.inr (Or.inl rfl) | exact Or.inr (Or.inr rfl)) rfl) px_int (by first | assumption | rfl) (fun _ _ => rfl)) (mulW (by repeat first | assumption | exact (by decide : Bd 64 _) | apply bd_mul | apply bd_add | apply bd_sub | apply bd_neg) (by repeat first | assumption | exact (by decide : Bd 64 _) | apply bd_mul | apply bd_add | apply bd_sub | apply bd_neg) (by decide))) (px_mul (px_ixT (px_var (n := 2) rfl (by first | exact Or.inl rfl | exact Or.inr (Or.inl rfl) | exact Or.inr (Or.inr rfl)) rfl) px_int (by first | assumption | rfl) (fun _ _ => rfl)) (px_ixT (px_var (n := 1) rfl (by first | exact Or.inl rfl | exact Or.inr (Or.inl rfl) | exact Or.inr (Or.inr rfl)) rfl) px_int (by first | assumption | rfl) (fun _ _ => rfl)) (mulW (by repeat first | assumption | exact (by decide : Bd 64 _) | apply bd_mul | apply bd_add | apply bd_sub | apply bd_neg) (by repeat first | assumption | exact (by decide : Bd 64 _) | apply bd_mul | apply bd_add | apply bd_sub | apply bd_neg) (by decide)))) (mulW (by repeat first | assumption | exact (by decide : Bd 64 _) | apply bd_mul | apply bd_add | apply bd_sub | apply bd_neg) (by repeat first | assumption | exact (by decide : Bd 64 _) | apply bd_mul | apply bd_add | apply bd_sub | apply bd_neg) (by decide))) rfl (fun _ => rfl)) ?_
  refine pxb_seq (pxs_set (n := 4) sc_in_diameter.nd rfl (by first | exact Or.inl rfl | exact Or.inr rfl) (.inl rfl) (px_mul (px_sub (px_mul (px_ixT (px_var (n := 0) rfl (by first | exact Or.inl rfl | exact Or.inr (Or.inl rfl) | exact Or.inr (Or.inr rfl)) rfl) px_int (by first | assumption | rfl) (fun _ _ => rfl)) (px_ixT (px_var (n := 2) rfl (by first | exact Or.inl rfl | exact Or.inr (Or.inl rfl) | exact Or.inr (Or.inr rfl)) rfl) px_int (by first | assumption | rfl) (fun _ _ => rfl)) (mulW (by repeat first | assumption | exact (by decide : Bd 64 _) | apply bd_mul | apply bd_add | apply bd_sub | apply bd_neg) (by repeat first | assumption | exact (by decide : Bd 64 _) | apply bd_mul | apply bd_add | apply bd_sub | apply bd_neg) (by decide))) (px_mul (px_ixT (px_var (n := 2) rfl (by first | exact Or.inl rfl | exact Or.inr (Or.inl rfl) | exact Or.inr (Or.inr rfl)) rfl) px_int (by first | assumption | rfl) (fun _ _ => rfl)) (px_ixT (px_var (n := 0) rfl (by first | exact Or.inl rfl | exact Or.inr (Or.inl rfl) | exact Or.inr (Or.inr rfl)) rfl) px_int (by first | assumption | rfl) (fun _ _ => rfl)) (mulW (by repeat first | assumption | exact (by decide : Bd 64 _) | apply bd_mul | apply bd_add | apply bd_sub | apply bd_neg) (by repeat first | assumption | exact (by decide : Bd 64 _) | apply bd_mul | apply bd_add | apply bd_sub | apply bd_neg) (by decide)))) (px_sub (px_mul (px_ixT (px_var (n := 1) rfl (by first | exact Or.inl rfl | exact Or.inr (Or.inl rfl) | exact Or.inr (Or.inr rfl)) rfl) px_int (by first | assumption | rfl) (fun _ _ => rfl)) (px_ixT (px_var (n := 2) rfl (by first | exact Or.inl rfl | exact Or.inr (Or.inl rfl) | exact Or.inr (Or.inr rfl)) rfl) px_int (by first | assumption | rfl) (fun _ _ => rfl)) (mulW (by repeat first | assumption | exact (by decide : Bd 64 _) | apply bd_mul | apply bd_add | apply bd_sub | apply bd_neg) (by repeat first | assumption | exact (by decide : Bd 64 _) | apply bd_mul | apply bd_add | apply bd_sub | apply bd_neg) (by decide))) (px_mul (px_ixT (px_var (n := 2) rfl (by first | exact Or.inl rfl | exact Or.inr (Or.inl rfl) | exact Or.inr (Or.inr rfl)) rfl) px_int (by first | assumption | rfl) (fun _ _ => rfl)) (px_ixT (px_var (n := 1) rfl (by first | exact Or.inl rfl | exact Or.inr (Or.inl rfl) | exact Or.inr (Or.inr rfl)) rfl) px_int (by first | assumption | rfl) (fun _ _ => rfl)) (mulW (by repeat first | assumption | exact (by decide : Bd 64 _) | apply bd_mul | apply bd_add | apply bd_sub | apply bd_neg) (by repeat first | assumption | exact (by decide : Bd 64 _) | apply bd_mul | apply bd_add | apply bd_sub | apply bd_neg) (by decide)))) (mulW (by repeat first | assumption | exact (by decide : Bd 64 _) | apply bd_mul | apply bd_add | apply bd_sub | apply bd_neg) (by repeat first | assumption | exact (by decide : Bd 64 _) | apply bd_mul | apply bd_add | apply bd_sub | apply bd_neg) (by decide))) rfl (fun _ => rfl)) ?_
  exact pxb_one (pxs_ret (px_subB (px_cmp (px_lt (px_add (px_var (n := 3) rfl (by first | exact Or.inl rfl | exact Or.inr (Or.inl rfl) | exact Or.inr (Or.inr rfl)) rfl) (px_var (n := 4) rfl (by first | exact Or.inl rfl | exact Or.inr (Or.inl rfl) | exact Or.inr (Or.inr rfl)) rfl)) px_int) (nomark _)) (px_cmp (px_gt (px_add (px_var (n := 3) rfl (by first | exact Or.inl rfl | exact Or.inr (Or.inl rfl) | exact Or.inr (Or.inr rfl)) rfl) (px_var (n := 4) rfl (by first | exact Or.inl rfl | exact Or.inr (Or.inl rfl) | exact Or.inr (Or.inr rfl)) rfl)) px_int) (nomark _))) (by first | rfl | done))
/-! ### the law's own -/
theorem fn_L_gcd (B : Blt mg) (D : DefAt K mg "_law_gcd" s_L_gcd ["_law_one", "_law_other"]) : Fn P w K mg base "_law_gcd" R_gcd 1 := by
  -- def _law_gcd
  refine fn_at D sc_L_gcd (by rintro _ _ ⟨a, b, rfl, rfl⟩; rfl) ?_
  rintro _ _ ⟨a, b, rfl, rfl⟩
  refine pxb_seq (pxs_par (n1 := 0) (n2 := 1) sc_L_gcd.nd rfl rfl (by decide) rfl rfl (pxa_cons (px_abs B.abs rfl (px_var (n := 0) rfl (by first | exact Or.inl rfl | exact Or.inr (Or.inl rfl) | exact Or.inr (Or.inr rfl)) rfl) (fun _ => rfl)) (pxa_cons (px_abs B.abs rfl (px_var (n := 1) rfl (by first | exact Or.inl rfl | exact Or.inr (Or.inl rfl) | exact Or.inr (Or.inr rfl)) rfl) (fun _ => rfl)) pxa_nil (fun _ => rfl)) (fun _ => rfl)) rfl rfl rfl (fun _ => rfl)) ?_
  refine pxb_cons (pxs_while (fun m δ' => ∃ x y : Nat, m = y ∧ Nat.gcd x y = Int.gcd a b ∧ δ' = [some (iS x), some (iS y)]) b.natAbs ⟨a.natAbs, b.natAbs, rfl, rfl, rfl⟩ ?_) (nx1 := fun δ' => δ' = [some (iS (gcdV a b)), some (iS 0)]) ?_
  · rintro y _ ⟨x, _, rfl, hg, rfl⟩
    refine ⟨_, (pxt_cmp (px_neI (px_var (n := 1) rfl (by first | exact Or.inl rfl | exact Or.inr (Or.inl rfl) | exact Or.inr (Or.inr rfl)) rfl) px_int) (nomark _)), fun hy => ?_, fun hy => ?_⟩
    · have hy' : y ≠ 0 := by simpa using hy
      have hy2 : (y : Int) ≠ 0 := by omega
      refine pxb_cons (pxs_par (n1 := 0) (n2 := 1) sc_L_gcd.nd rfl rfl (by decide) rfl rfl (pxa_cons (px_var (n := 1) rfl (by first | exact Or.inl rfl | exact Or.inr (Or.inl rfl) | exact Or.inr (Or.inr rfl)) rfl) (pxa_cons (px_mod (px_int1 B.int rfl (px_var (n := 0) rfl (by first | exact Or.inl rfl | exact Or.inr (Or.inl rfl) | exact Or.inr (Or.inr rfl)) rfl) (fun _ => rfl)) (px_var (n := 1) rfl (by first | exact Or.inl rfl | exact Or.inr (Or.inl rfl) | exact Or.inr (Or.inr rfl)) rfl) (by first | assumption | omega | decide)) pxa_nil (fun _ => rfl)) (fun _ => rfl)) rfl rfl rfl (fun _ => rfl)) ?_
      rintro _ rfl
      refine pxb_nil ⟨x % y, Nat.mod_lt _ (Nat.pos_of_ne_zero hy'), y, x % y, rfl, ?_, ?_⟩
      · rw [← hg, Nat.gcd_comm x y, Nat.gcd_rec y x, Nat.gcd_comm]
      · rw [Int.fmod_eq_emod_of_nonneg _ (by omega : (0 : Int) ≤ (y : Int)), ← Int.natCast_emod]
        rfl
    · have hy' : y = 0 := by simpa using hy
      subst hy'
      rw [Nat.gcd_zero_right] at hg
      subst hg
      rfl
  · rintro _ rfl
    exact pxb_one (pxs_ret (px_var (n := 0) rfl (by first | exact Or.inl rfl | exact Or.inr (Or.inl rfl) | exact Or.inr (Or.inr rfl)) rfl) (by first | rfl | done))
theorem comV_cond (n d : Int) : cond (decide (d < 0)) (0 - gcdV n d) (gcdV n d) = comV n d := by
  unfold comV
  by_cases h : d < 0
  · rw [decide_eq_true h, if_pos h, cond_true, Int.zero_sub]
  · rw [decide_eq_false h, if_neg h, cond_false]
theorem com3_cond (x y w : Int) : cond (decide (w < 0)) (0 - gcdV (gcdV x y) w) (gcdV (gcdV x y) w) = com3 x y w := by
  unfold com3
  by_cases h : w < 0
  · rw [decide_eq_true h, if_pos h, cond_true, Int.zero_sub]
  · rw [decide_eq_false h, if_neg h, cond_false]
theorem fn_L_ratio (B : Blt mg) (D : DefAt K mg "_law_ratio" s_L_ratio ["_law_numerator", "_law_denominator"]) (h_L_gcd : Fn P w K mg base "_law_gcd" R_gcd 1) : Fn P w K mg base "_law_ratio" R_red 2 := by
  -- def _law_ratio
  refine fn_at D sc_L_ratio (by rintro _ _ ⟨a, b, _, _, rfl, rfl⟩; rfl) ?_
  rintro _ _ ⟨n, d, hd, bd, rfl, rfl⟩
  refine pxb_seq (pxs_set (n := 2) sc_L_ratio.nd rfl (by first | exact Or.inl rfl | exact Or.inr rfl) (.inl rfl) (px_call h_L_gcd (Nat.le_of_ble_eq_true rfl) rfl (pxa_cons (px_var (n := 0) rfl (by first | exact Or.inl rfl | exact Or.inr (Or.inl rfl) | exact Or.inr (Or.inr rfl)) rfl) (pxa_cons (px_var (n := 1) rfl (by first | exact Or.inl rfl | exact Or.inr (Or.inl rfl) | exact Or.inr (Or.inr rfl)) rfl) pxa_nil (fun _ => rfl)) (fun _ => rfl)) r_gcd rfl (fun _ => rfl) (fun _ => rfl)) rfl (fun _ => rfl)) ?_
  refine pxb_seq (pxs_set (n := 2) sc_L_ratio.nd rfl (by first | exact Or.inl rfl | exact Or.inr rfl) (.inl rfl) (px_ifI (pxt_cmp (px_lt (px_var (n := 1) rfl (by first | exact Or.inl rfl | exact Or.inr (Or.inl rfl) | exact Or.inr (Or.inr rfl)) rfl) px_int) (nomark _)) (fun _ => (px_sub px_int (px_var (n := 2) rfl (by first | exact Or.inl rfl | exact Or.inr (Or.inl rfl) | exact Or.inr (Or.inr rfl)) rfl))) (fun _ => (px_var (n := 2) rfl (by first | exact Or.inl rfl | exact Or.inr (Or.inl rfl) | exact Or.inr (Or.inr rfl)) rfl))) rfl (fun _ => rfl)) ?_
  rw [comV_cond]
  obtain ⟨c1, c2⟩ := com_ok (n := n) hd bd
  exact pxb_one (pxs_ret (px_tupI (pxi1 (px_fdiv (px_var (n := 0) rfl (by first | exact Or.inl rfl | exact Or.inr (Or.inl rfl) | exact Or.inr (Or.inr rfl)) rfl) (px_var (n := 2) rfl (by first | exact Or.inl rfl | exact Or.inr (Or.inl rfl) | exact Or.inr (Or.inr rfl)) rfl) (divX (by repeat first | assumption | exact (by decide : Bd 64 _) | apply bd_mul | apply bd_add | apply bd_sub | apply bd_neg) (by first | assumption | omega | decide) (by decide))) (pxi1 (px_fdiv (px_var (n := 1) rfl (by first | exact Or.inl rfl | exact Or.inr (Or.inl rfl) | exact Or.inr (Or.inr rfl)) rfl) (px_var (n := 2) rfl (by first | exact Or.inl rfl | exact Or.inr (Or.inl rfl) | exact Or.inr (Or.inr rfl)) rfl) (divX (by repeat first | assumption | exact (by decide : Bd 64 _) | apply bd_mul | apply bd_add | apply bd_sub | apply bd_neg) (by first | assumption | omega | decide) (by decide))) pxi0 (fun _ => rfl)) (fun _ => rfl))) (by first | rfl | done))
theorem fn_L_lowest (B : Blt mg) (D : DefAt K mg "_law_lowest" s_L_lowest ["_law_x", "_law_y", "_law_w"]) (h_L_gcd : Fn P w K mg base "_law_gcd" R_gcd 1) : Fn P w K mg base "_law_lowest" R_lowest 2 := by
  -- def _law_lowest
  refine fn_at D sc_L_lowest (by rintro _ _ ⟨a, b, c, _, _, rfl, rfl⟩; rfl) ?_
  rintro _ _ ⟨x, y, w, hd, bd, rfl, rfl⟩
  refine pxb_seq (pxs_set (n := 3) sc_L_lowest.nd rfl (by first | exact Or.inl rfl | exact Or.inr rfl) (.inl rfl) (px_call h_L_gcd (Nat.le_of_ble_eq_true rfl) rfl (pxa_cons (px_call h_L_gcd (Nat.le_of_ble_eq_true rfl) rfl (pxa_cons (px_var (n := 0) rfl (by first | exact Or.inl rfl | exact Or.inr (Or.inl rfl) | exact Or.inr (Or.inr rfl)) rfl) (pxa_cons (px_var (n := 1) rfl (by first | exact Or.inl rfl | exact Or.inr (Or.inl rfl) | exact Or.inr (Or.inr rfl)) rfl) pxa_nil (fun _ => rfl)) (fun _ => rfl)) r_gcd rfl (fun _ => rfl) (fun _ => rfl)) (pxa_cons (px_var (n := 2) rfl (by first | exact Or.inl rfl | exact Or.inr (Or.inl rfl) | exact Or.inr (Or.inr rfl)) rfl) pxa_nil (fun _ => rfl)) (fun _ => rfl)) r_gcd rfl (fun _ => rfl) (fun _ => rfl)) rfl (fun _ => rfl)) ?_
  refine pxb_seq (pxs_set (n := 3) sc_L_lowest.nd rfl (by first | exact Or.inl rfl | exact Or.inr rfl) (.inl rfl) (px_ifI (pxt_cmp (px_lt (px_var (n := 2) rfl (by first | exact Or.inl rfl | exact Or.inr (Or.inl rfl) | exact Or.inr (Or.inr rfl)) rfl) px_int) (nomark _)) (fun _ => (px_sub px_int (px_var (n := 3) rfl (by first | exact Or.inl rfl | exact Or.inr (Or.inl rfl) | exact Or.inr (Or.inr rfl)) rfl))) (fun _ => (px_var (n := 3) rfl (by first | exact Or.inl rfl | exact Or.inr (Or.inl rfl) | exact Or.inr (Or.inr rfl)) rfl))) rfl (fun _ => rfl)) ?_
  rw [com3_cond]
  obtain ⟨c1, c2⟩ := com3_ok (x := x) (y := y) hd bd
  exact pxb_one (pxs_ret (px_tupI (pxi1 (px_fdiv (px_var (n := 0) rfl (by first | exact Or.inl rfl | exact Or.inr (Or.inl rfl) | exact Or.inr (Or.inr rfl)) rfl) (px_var (n := 3) rfl (by first | exact Or.inl rfl | exact Or.inr (Or.inl rfl) | exact Or.inr (Or.inr rfl)) rfl) (divX (by repeat first | assumption | exact (by decide : Bd 64 _) | apply bd_mul | apply bd_add | apply bd_sub | apply bd_neg) (by first | assumption | omega | decide) (by decide))) (pxi1 (px_fdiv (px_var (n := 1) rfl (by first | exact Or.inl rfl | exact Or.inr (Or.inl rfl) | exact Or.inr (Or.inr rfl)) rfl) (px_var (n := 3) rfl (by first | exact Or.inl rfl | exact Or.inr (Or.inl rfl) | exact Or.inr (Or.inr rfl)) rfl) (divX (by repeat first | assumption | exact (by decide : Bd 64 _) | apply bd_mul | apply bd_add | apply bd_sub | apply bd_neg) (by first | assumption | omega | decide) (by decide))) (pxi1 (px_fdiv (px_var (n := 2) rfl (by first | exact Or.inl rfl | exact Or.inr (Or.inl rfl) | exact Or.inr (Or.inr rfl)) rfl) (px_var (n := 3) rfl (by first | exact Or.inl rfl | exact Or.inr (Or.inl rfl) | exact Or.inr (Or.inr rfl)) rfl) (divX (by repeat first | assumption | exact (by decide : Bd 64 _) | apply bd_mul | apply bd_add | apply bd_sub | apply bd_neg) (by first | assumption | omega | decide) (by decide))) pxi0 (fun _ => rfl)) (fun _ => rfl)) (fun _ => rfl))) (by first | rfl | done))
theorem fn_L_times (B : Blt mg) (D : DefAt K mg "_law_times" s_L_times ["_law_one", "_law_other"]) (h_L_ratio : Fn P w K mg base "_law_ratio" R_red 2) : Fn P w K mg base "_law_times" R_times 3 := by
  -- def _law_times
  refine fn_at D sc_L_times (by rintro _ _ ⟨a, b, _, _, _, _, rfl, rfl⟩; rfl) ?_
  rintro _ _ ⟨⟨a1, a2⟩, ⟨b1, b2⟩, h1, h2, ⟨h3, h4⟩, ⟨h5, h6⟩, rfl, rfl⟩
  have n1 : a2 * b2 ≠ 0 := Int.mul_ne_zero h1 h2
  have n2 : Bd 8000 (a2 * b2) := bd_mono (bd_mul h4 h6) (by decide)
  exact pxb_one (pxs_ret (px_call h_L_ratio (Nat.le_of_ble_eq_true rfl) rfl (pxa_cons (px_mul (px_ixT (px_var (n := 0) rfl (by first | exact Or.inl rfl | exact Or.inr (Or.inl rfl) | exact Or.inr (Or.inr rfl)) rfl) px_int (by first | assumption | rfl) (fun _ _ => rfl)) (px_ixT (px_var (n := 1) rfl (by first | exact Or.inl rfl | exact Or.inr (Or.inl rfl) | exact Or.inr (Or.inr rfl)) rfl) px_int (by first | assumption | rfl) (fun _ _ => rfl)) (mulW (by repeat first | assumption | exact (by decide : Bd 64 _) | apply bd_mul | apply bd_add | apply bd_sub | apply bd_neg) (by repeat first | assumption | exact (by decide : Bd 64 _) | apply bd_mul | apply bd_add | apply bd_sub | apply bd_neg) (by decide))) (pxa_cons (px_mul (px_ixT (px_var (n := 0) rfl (by first | exact Or.inl rfl | exact Or.inr (Or.inl rfl) | exact Or.inr (Or.inr rfl)) rfl) px_int (by first | assumption | rfl) (fun _ _ => rfl)) (px_ixT (px_var (n := 1) rfl (by first | exact Or.inl rfl | exact Or.inr (Or.inl rfl) | exact Or.inr (Or.inr rfl)) rfl) px_int (by first | assumption | rfl) (fun _ _ => rfl)) (mulW (by repeat first | assumption | exact (by decide : Bd 64 _) | apply bd_mul | apply bd_add | apply bd_sub | apply bd_neg) (by repeat first | assumption | exact (by decide : Bd 64 _) | apply bd_mul | apply bd_add | apply bd_sub | apply bd_neg) (by decide))) pxa_nil (fun _ => rfl)) (fun _ => rfl)) (r_red (by assumption) (by assumption)) rfl (fun _ => rfl) (fun _ => rfl)) (by first | rfl | done))
theorem fn_L_plus (B : Blt mg) (D : DefAt K mg "_law_plus" s_L_plus ["_law_one", "_law_other"]) (h_L_ratio : Fn P w K mg base "_law_ratio" R_red 2) : Fn P w K mg base "_law_plus" (fun ss s => ∃ a b, a.2 ≠ 0 ∧ b.2 ≠ 0 ∧ BR 3000 a ∧ BR 3000 b ∧ ss = [rS a, rS b] ∧ s = rS (plusV a b)) 3 := by
  -- def _law_plus
  refine fn_at D sc_L_plus (by rintro _ _ ⟨a, b, _, _, _, _, rfl, rfl⟩; rfl) ?_
  rintro _ _ ⟨⟨a1, a2⟩, ⟨b1, b2⟩, h1, h2, ⟨h3, h4⟩, ⟨h5, h6⟩, rfl, rfl⟩
  have n1 : a2 * b2 ≠ 0 := Int.mul_ne_zero h1 h2
  have n2 : Bd 8000 (a2 * b2) := bd_mono (bd_mul h4 h6) (by decide)
  exact pxb_one (pxs_ret (px_call h_L_ratio (Nat.le_of_ble_eq_true rfl) rfl (pxa_cons (px_add (px_mul (px_ixT (px_var (n := 0) rfl (by first | exact Or.inl rfl | exact Or.inr (Or.inl rfl) | exact Or.inr (Or.inr rfl)) rfl) px_int (by first | assumption | rfl) (fun _ _ => rfl)) (px_ixT (px_var (n := 1) rfl (by first | exact Or.inl rfl | exact Or.inr (Or.inl rfl) | exact Or.inr (Or.inr rfl)) rfl) px_int (by first | assumption | rfl) (fun _ _ => rfl)) (mulW (by repeat first | assumption | exact (by decide : Bd 64 _) | apply bd_mul | apply bd_add | apply bd_sub | apply bd_neg) (by repeat first | assumption | exact (by decide : Bd 64 _) | apply bd_mul | apply bd_add | apply bd_sub | apply bd_neg) (by decide))) (px_mul (px_ixT (px_var (n := 1) rfl (by first | exact Or.inl rfl | exact Or.inr (Or.inl rfl) | exact Or.inr (Or.inr rfl)) rfl) px_int (by first | assumption | rfl) (fun _ _ => rfl)) (px_ixT (px_var (n := 0) rfl (by first | exact Or.inl rfl | exact Or.inr (Or.inl rfl) | exact Or.inr (Or.inr rfl)) rfl) px_int (by first | assumption | rfl) (fun _ _ => rfl)) (mulW (by repeat first | assumption | exact (by decide : Bd 64 _) | apply bd_mul | apply bd_add | apply bd_sub | apply bd_neg) (by repeat first | assumption | exact (by decide : Bd 64 _) | apply bd_mul | apply bd_add | apply bd_sub | apply bd_neg) (by decide)))) (pxa_cons (px_mul (px_ixT (px_var (n := 0) rfl (by first | exact Or.inl rfl | exact Or.inr (Or.inl rfl) | exact Or.inr (Or.inr rfl)) rfl) px_int (by first | assumption | rfl) (fun _ _ => rfl)) (px_ixT (px_var (n := 1) rfl (by first | exact Or.inl rfl | exact Or.inr (Or.inl rfl) | exact Or.inr (Or.inr rfl)) rfl) px_int (by first | assumption | rfl) (fun _ _ => rfl)) (mulW (by repeat first | assumption | exact (by decide : Bd 64 _) | apply bd_mul | apply bd_add | apply bd_sub | apply bd_neg) (by repeat first | assumption | exact (by decide : Bd 64 _) | apply bd_mul | apply bd_add | apply bd_sub | apply bd_neg) (by decide))) pxa_nil (fun _ => rfl)) (fun _ => rfl)) (r_red (by assumption) (by assumption)) rfl (fun _ => rfl) (fun _ => rfl)) (by first | rfl | done))
theorem fn_L_less (B : Blt mg) (D : DefAt K mg "_law_less" s_L_less ["_law_one", "_law_other"]) : Fn P w K mg base "_law_less" R_below 1 := by
  -- def _law_less
  refine fn_at D sc_L_less (by rintro _ _ ⟨a, b, _, _, rfl, rfl⟩; rfl) ?_
  rintro _ _ ⟨⟨a1, a2⟩, ⟨b1, b2⟩, ⟨h3, h4⟩, ⟨h5, h6⟩, rfl, rfl⟩
  exact pxb_one (pxs_ret (px_cmp (px_lt (px_mul (px_ixT (px_var (n := 0) rfl (by first | exact Or.inl rfl | exact Or.inr (Or.inl rfl) | exact Or.inr (Or.inr rfl)) rfl) px_int (by first | assumption | rfl) (fun _ _ => rfl)) (px_ixT (px_var (n := 1) rfl (by first | exact Or.inl rfl | exact Or.inr (Or.inl rfl) | exact Or.inr (Or.inr rfl)) rfl) px_int (by first | assumption | rfl) (fun _ _ => rfl)) (mulW (by repeat first | assumption | exact (by decide : Bd 64 _) | apply bd_mul | apply bd_add | apply bd_sub | apply bd_neg) (by repeat first | assumption | exact (by decide : Bd 64 _) | apply bd_mul | apply bd_add | apply bd_sub | apply bd_neg) (by decide))) (px_mul (px_ixT (px_var (n := 1) rfl (by first | exact Or.inl rfl | exact Or.inr (Or.inl rfl) | exact Or.inr (Or.inr rfl)) rfl) px_int (by first | assumption | rfl) (fun _ _ => rfl)) (px_ixT (px_var (n := 0) rfl (by first | exact Or.inl rfl | exact Or.inr (Or.inl rfl) | exact Or.inr (Or.inr rfl)) rfl) px_int (by first | assumption | rfl) (fun _ _ => rfl)) (mulW (by repeat first | assumption | exact (by decide : Bd 64 _) | apply bd_mul | apply bd_add | apply bd_sub | apply bd_neg) (by repeat first | assumption | exact (by decide : Bd 64 _) | apply bd_mul | apply bd_add | apply bd_sub | apply bd_neg) (by decide)))) (nomark _)) (by first | rfl | done))
theorem fn_L_sign (B : Blt mg) (D : DefAt K mg "_law_sign" s_L_sign ["_law_number"]) : Fn P w K mg base "_law_sign" (fun ss s => ∃ n, ss = [iS n] ∧ s = iS (lsignV n)) 1 := by
  -- def _law_sign
  refine fn_at D sc_L_sign (by rintro _ _ ⟨a, rfl, rfl⟩; rfl) ?_
  rintro _ _ ⟨n, rfl, rfl⟩
  exact pxb_one (pxs_ret (px_ifI (pxt_cmp (px_gt (px_var (n := 0) rfl (by first | exact Or.inl rfl | exact Or.inr (Or.inl rfl) | exact Or.inr (Or.inr rfl)) rfl) px_int) (nomark _)) (fun _ => px_int) (fun _ => (px_ifI (pxt_cmp (px_lt (px_var (n := 0) rfl (by first | exact Or.inl rfl | exact Or.inr (Or.inl rfl) | exact Or.inr (Or.inr rfl)) rfl) px_int) (nomark _)) (fun _ => (px_neg px_int)) (fun _ => px_int)))) (by first | rfl | done))
theorem fn_L_doubled (B : Blt mg) (D : DefAt K mg "_law_doubled" s_L_doubled ["_law_a", "_law_b", "_law_c"]) : Fn P w K mg base "_law_doubled" (R_p3w ldoubledV) 1 := by
  -- def _law_doubled
  refine fn_at D sc_L_doubled (by rintro _ _ ⟨a, b, c, _, _, _, _, rfl, rfl⟩; rfl) ?_
  rintro _ _ ⟨⟨ax, ay, aw⟩, ⟨bx, by_, bw⟩, ⟨cx, cy, cw⟩, n1, ⟨h1, h2, h3⟩, ⟨h4, h5, h6⟩, ⟨h7, h8, h9⟩, rfl, rfl⟩
  refine pxb_seq (pxs_par (n1 := 3) (n2 := 4) sc_L_doubled.nd rfl rfl (by decide) rfl rfl (pxa_cons (px_sub (px_mul (px_ixT (px_var (n := 1) rfl (by first | exact Or.inl rfl | exact Or.inr (Or.inl rfl) | exact Or.inr (Or.inr rfl)) rfl) px_int (by first | assumption | rfl) (fun _ _ => rfl)) (px_ixT (px_var (n := 0) rfl (by first | exact Or.inl rfl | exact Or.inr (Or.inl rfl) | exact Or.inr (Or.inr rfl)) rfl) px_int (by first | assumption | rfl) (fun _ _ => rfl)) (mulW (by repeat first | assumption | exact (by decide : Bd 64 _) | apply bd_mul | apply bd_add | apply bd_sub | apply bd_neg) (by repeat first | assumption | exact (by decide : Bd 64 _) | apply bd_mul | apply bd_add | apply bd_sub | apply bd_neg) (by decide))) (px_mul (px_ixT (px_var (n := 0) rfl (by first | exact Or.inl rfl | exact Or.inr (Or.inl rfl) | exact Or.inr (Or.inr rfl)) rfl) px_int (by first | assumption | rfl) (fun _ _ => rfl)) (px_ixT (px_var (n := 1) rfl (by first | exact Or.inl rfl | exact Or.inr (Or.inl rfl) | exact Or.inr (Or.inr rfl)) rfl) px_int (by first | assumption | rfl) (fun _ _ => rfl)) (mulW (by repeat first | assumption | exact (by decide : Bd 64 _) | apply bd_mul | apply bd_add | apply bd_sub | apply bd_neg) (by repeat first | assumption | exact (by decide : Bd 64 _) | apply bd_mul | apply bd_add | apply bd_sub | apply bd_neg) (by decide)))) (pxa_cons (px_sub (px_mul (px_ixT (px_var (n := 1) rfl (by first | exact Or.inl rfl | exact Or.inr (Or.inl rfl) | exact Or.inr (Or.inr rfl)) rfl) px_int (by first | assumption | rfl) (fun _ _ => rfl)) (px_ixT (px_var (n := 0) rfl (by first | exact Or.inl rfl | exact Or.inr (Or.inl rfl) | exact Or.inr (Or.inr rfl)) rfl) px_int (by first | assumption | rfl) (fun _ _ => rfl)) (mulW (by repeat first | assumption | exact (by decide : Bd 64 _) | apply bd_mul | apply bd_add | apply bd_sub | apply bd_neg) (by repeat first | assumption | exact (by decide : Bd 64 _) | apply bd_mul | apply bd_add | apply bd_sub | apply bd_neg) (by decide))) (px_mul (px_ixT (px_var (n := 0) rfl (by first | exact Or.inl rfl | exact Or.inr (Or.inl rfl) | exact Or.inr (Or.inr rfl)) rfl) px_int (by first | assumption | rfl) (fun _ _ => rfl)) (px_ixT (px_var (n := 1) rfl (by first | exact Or.inl rfl | exact Or.inr (Or.inl rfl) | exact Or.inr (Or.inr rfl)) rfl) px_int (by first | assumption | rfl) (fun _ _ => rfl)) (mulW (by repeat first | assumption | exact (by decide : Bd 64 _) | apply bd_mul | apply bd_add | apply bd_sub | apply bd_neg) (by repeat first | assumption | exact (by decide : Bd 64 _) | apply bd_mul | apply bd_add | apply bd_sub | apply bd_neg) (by decide)))) pxa_nil (fun _ => rfl)) (fun _ => rfl)) rfl rfl rfl (fun _ => rfl)) ?_
  refine pxb_seq (pxs_par (n1 := 5) (n2 := 6) sc_L_doubled.nd rfl rfl (by decide) rfl rfl (pxa_cons (px_sub (px_mul (px_ixT (px_var (n := 2) rfl (by first | exact Or.inl rfl | exact Or.inr (Or.inl rfl) | exact Or.inr (Or.inr rfl)) rfl) px_int (by first | assumption | rfl) (fun _ _ => rfl)) (px_ixT (px_var (n := 0) rfl (by first | exact Or.inl rfl | exact Or.inr (Or.inl rfl) | exact Or.inr (Or.inr rfl)) rfl) px_int (by first | assumption | rfl) (fun _ _ => rfl)) (mulW (by repeat first | assumption | exact (by decide : Bd 64 _) | apply bd_mul | apply bd_add | apply bd_sub | apply bd_neg) (by repeat first | assumption | exact (by decide : Bd 64 _) | apply bd_mul | apply bd_add | apply bd_sub | apply bd_neg) (by decide))) (px_mul (px_ixT (px_var (n := 0) rfl (by first | exact Or.inl rfl | exact Or.inr (Or.inl rfl) | exact Or.inr (Or.inr rfl)) rfl) px_int (by first | assumption | rfl) (fun _ _ => rfl)) (px_ixT (px_var (n := 2) rfl (by first | exact Or.inl rfl | exact Or.inr (Or.inl rfl) | exact Or.inr (Or.inr rfl)) rfl) px_int (by first | assumption | rfl) (fun _ _ => rfl)) (mulW (by repeat first | assumption | exact (by decide : Bd 64 _) | apply bd_mul | apply bd_add | apply bd_sub | apply bd_neg) (by repeat first | assumption | exact (by decide : Bd 64 _) | apply bd_mul | apply bd_add | apply bd_sub | apply bd_neg) (by decide)))) (pxa_cons (px_sub (px_mul (px_ixT (px_var (n := 2) rfl (by first | exact Or.inl rfl | exact Or.inr (Or.inl rfl) | exact Or.inr (Or.inr rfl)) rfl) px_int (by first | assumption | rfl) (fun _ _ => rfl)) (px_ixT (px_var (n := 0) rfl (by first | exact Or.inl rfl | exact Or.inr (Or.inl rfl) | exact Or.inr (Or.inr rfl)) rfl) px_int (by first | assumption | rfl) (fun _ _ => rfl)) (mulW (by repeat first | assumption | exact (by decide : Bd 64 _) | apply bd_mul | apply bd_add | apply bd_sub | apply bd_neg) (by repeat first | assumption | exact (by decide : Bd 64 _) | apply bd_mul | apply bd_add | apply bd_sub | apply bd_neg) (by decide))) (px_mul (px_ixT (px_var (n := 0) rfl (by first | exact Or.inl rfl | exact Or.inr (Or.inl rfl) | exact Or.inr (Or.inr rfl)) rfl) px_int (by first | assumption | rfl) (fun _ _ => rfl)) (px_ixT (px_var (n := 2) rfl (by first | exact Or.inl rfl | exact Or.inr (Or.inl rfl) | exact Or.inr (Or.inr rfl)) rfl) px_int (by first | assumption | rfl) (fun _ _ => rfl)) (mulW (by repeat first | assumption | exact (by decide : Bd 64 _) | apply bd_mul | apply bd_add | apply bd_sub | apply bd_neg) (by repeat first | assumption | exact (by decide : Bd 64 _) | apply bd_mul | apply bd_add | apply bd_sub | apply bd_neg) (by decide)))) pxa_nil (fun _ => rfl)) (fun _ => rfl)) rfl rfl rfl (fun _ => rfl)) ?_
  exact pxb_one (pxs_ret (px_fdiv (px_sub (px_mul (px_var (n := 3) rfl (by first | exact Or.inl rfl | exact Or.inr (Or.inl rfl) | exact Or.inr (Or.inr rfl)) rfl) (px_var (n := 6) rfl (by first | exact Or.inl rfl | exact Or.inr (Or.inl rfl) | exact Or.inr (Or.inr rfl)) rfl) (mulW (by repeat first | assumption | exact (by decide : Bd 64 _) | apply bd_mul | apply bd_add | apply bd_sub | apply bd_neg) (by repeat first | assumption | exact (by decide : Bd 64 _) | apply bd_mul | apply bd_add | apply bd_sub | apply bd_neg) (by decide))) (px_mul (px_var (n := 5) rfl (by first | exact Or.inl rfl | exact Or.inr (Or.inl rfl) | exact Or.inr (Or.inr rfl)) rfl) (px_var (n := 4) rfl (by first | exact Or.inl rfl | exact Or.inr (Or.inl rfl) | exact Or.inr (Or.inr rfl)) rfl) (mulW (by repeat first | assumption | exact (by decide : Bd 64 _) | apply bd_mul | apply bd_add | apply bd_sub | apply bd_neg) (by repeat first | assumption | exact (by decide : Bd 64 _) | apply bd_mul | apply bd_add | apply bd_sub | apply bd_neg) (by decide)))) (px_ixT (px_var (n := 0) rfl (by first | exact Or.inl rfl | exact Or.inr (Or.inl rfl) | exact Or.inr (Or.inr rfl)) rfl) px_int (by first | assumption | rfl) (fun _ _ => rfl)) (divX (by repeat first | assumption | exact (by decide : Bd 64 _) | apply bd_mul | apply bd_add | apply bd_sub | apply bd_neg) (by first | assumption | omega | decide) (by decide))) (by first | rfl | done))
theorem fn_L_turn (B : Blt mg) (D : DefAt K mg "_law_turn" s_L_turn ["_law_a", "_law_b", "_law_c"]) (h_L_sign : Fn P w K mg base "_law_sign" (fun ss s => ∃ n, ss = [iS n] ∧ s = iS (lsignV n)) 1) (h_L_doubled : Fn P w K mg base "_law_doubled" (R_p3w ldoubledV) 1) : Fn P w K mg base "_law_turn" (R_p3w lturnV) 2 := by
  -- def _law_turn
  refine fn_at D sc_L_turn (by rintro _ _ ⟨a, b, c, _, _, _, _, rfl, rfl⟩; rfl) ?_
  rintro _ _ ⟨a, b, c, n1, h1, h2, h3, rfl, rfl⟩
  exact pxb_one (pxs_ret (px_call h_L_sign (Nat.le_of_ble_eq_true rfl) rfl (pxa_cons (px_call h_L_doubled (Nat.le_of_ble_eq_true rfl) rfl (pxa_cons (px_var (n := 0) rfl (by first | exact Or.inl rfl | exact Or.inr (Or.inl rfl) | exact Or.inr (Or.inr rfl)) rfl) (pxa_cons (px_var (n := 1) rfl (by first | exact Or.inl rfl | exact Or.inr (Or.inl rfl) | exact Or.inr (Or.inr rfl)) rfl) (pxa_cons (px_var (n := 2) rfl (by first | exact Or.inl rfl | exact Or.inr (Or.inl rfl) | exact Or.inr (Or.inr rfl)) rfl) pxa_nil (fun _ => rfl)) (fun _ => rfl)) (fun _ => rfl)) (r_p3w (by assumption) (by assumption) (by assumption) (by assumption)) rfl (fun _ => rfl) (fun _ => rfl)) pxa_nil (fun _ => rfl)) ⟨_, rfl, rfl⟩ rfl (fun _ => rfl) (fun _ => rfl)) (by first | rfl | done))
theorem fn_L_in_diameter (B : Blt mg) (D : DefAt K mg "_law_in_diameter" s_L_in_diameter ["_law_a", "_law_b", "_law_p"]) (h_L_sign : Fn P w K mg base "_law_sign" (fun ss s => ∃ n, ss = [iS n] ∧ s = iS (lsignV n)) 1) : Fn P w K mg base "_law_in_diameter" (R_p3 lDiamV) 2 := by
  -- def _law_in_diameter
  refine fn_at D sc_L_in_diameter (by rintro _ _ ⟨a, b, c, _, _, _, rfl, rfl⟩; rfl) ?_
  rintro _ _ ⟨⟨ax, ay, aw⟩, ⟨bx, by_, bw⟩, ⟨cx, cy, cw⟩, ⟨h1, h2, h3⟩, ⟨h4, h5, h6⟩, ⟨h7, h8, h9⟩, rfl, rfl⟩
  refine pxb_seq (pxs_set (n := 3) sc_L_in_diameter.nd rfl (by first | exact Or.inl rfl | exact Or.inr rfl) (.inl rfl) (px_mul (px_sub (px_mul (px_ixT (px_var (n := 0) rfl (by first | exact Or.inl rfl | exact Or.inr (Or.inl rfl) | exact Or.inr (Or.inr rfl)) rfl) px_int (by first | assumption | rfl) (fun _ _ => rfl)) (px_ixT (px_var (n := 2) rfl (by first | exact Or.inl rfl | exact Or.inr (Or.inl rfl) | exact Or.inr (Or.inr rfl)) rfl) px_int (by first | assumption | rfl) (fun _ _ => rfl)) (mulW (by repeat first | assumption | exact (by decide : Bd 64 _) | apply bd_mul | apply bd_add | apply bd_sub | apply bd_neg) (by repeat first | assumption | exact (by decide : Bd 64 _) | apply bd_mul | apply bd_add | apply bd_sub | apply bd_neg) (by decide))) (px_mul (px_ixT (px_var (n := 2) rfl (by first | exact Or.inl rfl | exact Or.inr (Or.inl rfl) | exact Or.inr (Or.inr rfl)) rfl) px_int (by first | assumption | rfl) (fun _ _ => rfl)) (px_ixT (px_var (n := 0) rfl (by first | exact Or.inl rfl | exact Or.inr (Or.inl rfl) | exact Or.inr (Or.inr rfl)) rfl) px_int (by first | assumption | rfl) (fun _ _ => rfl)) (mulW (by repeat first | assumption | exact (by decide : Bd 64 _) | apply bd_mul | apply bd_add | apply bd_sub | apply bd_neg) (by repeat first | assumption | exact (by decide : Bd 64 _) | apply bd_mul | apply bd_add | apply bd_sub | apply bd_neg) (by decide)))) (px_sub (px_mul (px_ixT (px_var (n := 1) rfl (by first | exact Or.inl rfl | exact Or.inr (Or.inl rfl) | exact Or.inr (Or.inr rfl)) rfl) px_int (by first | assumption | rfl) (fun _ _ => rfl)) (px_ixT (px_var (n := 2) rfl (by first | exact Or.inl rfl | exact Or.inr (Or.inl rfl) | exact Or.inr (Or.inr rfl)) rfl) px_int (by first | assumption | rfl) (fun _ _ => rfl)) (mulW (by repeat first | assumption | exact (by decide : Bd 64 _) | apply bd_mul | apply bd_add | apply bd_sub | apply bd_neg) (by repeat first | assumption | exact (by decide : Bd 64 _) | apply bd_mul | apply bd_add | apply bd_sub | apply bd_neg) (by decide))) (px_mul (px_ixT (px_var (n := 2) rfl (by first | exact Or.inl rfl | exact Or.inr (Or.inl rfl) | exact Or.inr (Or.inr rfl)) rfl) px_int (by first | assumption | rfl) (fun _ _ => rfl)) (px_ixT (px_var (n := 1) rfl (by first | exact Or.inl rfl | exact Or.inr (Or.inl rfl) | exact Or.inr (Or.inr rfl)) rfl) px_int (by first | assumption | rfl) (fun _ _ => rfl)) (mulW (by repeat first | assumption | exact (by decide : Bd 64 _) | apply bd_mul | apply bd_add | apply bd_sub | apply bd_neg) (by repeat first | assumption | exact (by decide : Bd 64 _) | apply bd_mul | apply bd_add | apply bd_sub | apply bd_neg) (by decide)))) (mulW (by repeat first | assumption | exact (by decide : Bd 64 _) | apply bd_mul | apply bd_add | apply bd_sub | apply bd_neg) (by repeat first | assumption | exact (by decide : Bd 64 _) | apply bd_mul | apply bd_add | apply bd_sub | apply bd_neg) (by decide))) rfl (fun _ => rfl)) ?_
  refine pxb_seq (pxs_set (n := 4) sc_L_in_diameter.nd rfl (by first | exact Or.inl rfl | exact Or.inr rfl) (.inl rfl) (px_mul (px_sub (px_mul (px_ixT (px_var (n := 0) rfl (by first | exact Or.inl rfl | exact Or.inr (Or.inl rfl) | exact Or.inr (Or.inr rfl)) rfl) px_int (by first | assumption | rfl) (fun _ _ => rfl)) (px_ixT (px_var (n := 2) rfl (by first | exact Or.inl rfl | exact Or.inr (Or.inl rfl) | exact Or.inr (Or.inr rfl)) rfl) px_int (by first | assumption | rfl) (fun _ _ => rfl)) (mulW (by repeat first | assumption | exact (by decide : Bd 64 _) | apply bd_mul | apply bd_add | apply bd_sub | apply bd_neg) (by repeat first | assumption | exact (by decide : Bd 64 _) | apply bd_mul | apply bd_add | apply bd_sub | apply bd_neg) (by decide))) (px_mul (px_ixT (px_var (n := 2) rfl (by first | exact Or.inl rfl | exact Or.inr (Or.inl rfl) | exact Or.inr (Or.inr rfl)) rfl) px_int (by first | assumption | rfl) (fun _ _ => rfl)) (px_ixT (px_var (n := 0) rfl (by first | exact Or.inl rfl | exact Or.inr (Or.inl rfl) | exact Or.inr (Or.inr rfl)) rfl) px_int (by first | assumption | rfl) (fun _ _ => rfl)) (mulW (by repeat first | assumption | exact (by decide : Bd 64 _) | apply bd_mul | apply bd_add | apply bd_sub | apply bd_neg) (by repeat first | assumption | exact (by decide : Bd 64 _) | apply bd_mul | apply bd_add | apply bd_sub | apply bd_neg) (by decide)))) (px_sub (px_mul (px_ixT (px_var (n := 1) rfl (by first | exact Or.inl rfl | exact Or.inr (Or.inl rfl) | exact Or.inr (Or.inr rfl)) rfl) px_int (by first | assumption | rfl) (fun _ _ => rfl)) (px_ixT (px_var (n := 2) rfl (by first | exact Or.inl rfl | exact Or.inr (Or.inl rfl) | exact Or.inr (Or.inr rfl)) rfl) px_int (by first | assumption | rfl) (fun _ _ => rfl)) (mulW (by repeat first | assumption | exact (by decide : Bd 64 _) | apply bd_mul | apply bd_add | apply bd_sub | apply bd_neg) (by repeat first | assumption | exact (by decide : Bd 64 _) | apply bd_mul | apply bd_add | apply bd_sub | apply bd_neg) (by decide))) (px_mul (px_ixT (px_var (n := 2) rfl (by first | exact Or.inl rfl | exact Or.inr (Or.inl rfl) | exact Or.inr (Or.inr rfl)) rfl) px_int (by first | assumption | rfl) (fun _ _ => rfl)) (px_ixT (px_var (n := 1) rfl (by first | exact Or.inl rfl | exact Or.inr (Or.inl rfl) | exact Or.inr (Or.inr rfl)) rfl) px_int (by first | assumption | rfl) (fun _ _ => rfl)) (mulW (by repeat first | assumption | exact (by decide : Bd 64 _) | apply bd_mul | apply bd_add | apply bd_sub | apply bd_neg) (by repeat first | assumption | exact (by decide : Bd 64 _) | apply bd_mul | apply bd_add | apply bd_sub | apply bd_neg) (by decide)))) (mulW (by repeat first | assumption | exact (by decide : Bd 64 _) | apply bd_mul | apply bd_add | apply bd_sub | apply bd_neg) (by repeat first | assumption | exact (by decide : Bd 64 _) | apply bd_mul | apply bd_add | apply bd_sub | apply bd_neg) (by decide))) rfl (fun _ => rfl)) ?_
  exact pxb_one (pxs_ret (px_sub px_int (px_call h_L_sign (Nat.le_of_ble_eq_true rfl) rfl (pxa_cons (px_add (px_var (n := 3) rfl (by first | exact Or.inl rfl | exact Or.inr (Or.inl rfl) | exact Or.inr (Or.inr rfl)) rfl) (px_var (n := 4) rfl (by first | exact Or.inl rfl | exact Or.inr (Or.inl rfl) | exact Or.inr (Or.inr rfl)) rfl)) pxa_nil (fun _ => rfl)) ⟨_, rfl, rfl⟩ rfl (fun _ => rfl) (fun _ => rfl))) (by first | rfl | done))
theorem fn_L_det (B : Blt mg) (D : DefAt K mg "_law_det" s_L_det ["_law_a", "_law_b", "_law_c"]) : Fn P w K mg base "_law_det" (R_p3 minorV) 1 := by
  -- def _law_det
  refine fn_at D sc_L_det (by rintro _ _ ⟨a, b, c, _, _, _, rfl, rfl⟩; rfl) ?_
  rintro _ _ ⟨⟨ax, ay, aw⟩, ⟨bx, by_, bw⟩, ⟨cx, cy, cw⟩, ⟨h1, h2, h3⟩, ⟨h4, h5, h6⟩, ⟨h7, h8, h9⟩, rfl, rfl⟩
  refine pxb_seq (pxs_set (n := 3) sc_L_det.nd rfl (by first | exact Or.inl rfl | exact Or.inr rfl) (.inl rfl) (px_mul (px_ixT (px_var (n := 0) rfl (by first | exact Or.inl rfl | exact Or.inr (Or.inl rfl) | exact Or.inr (Or.inr rfl)) rfl) px_int (by first | assumption | rfl) (fun _ _ => rfl)) (px_sub (px_mul (px_ixT (px_var (n := 1) rfl (by first | exact Or.inl rfl | exact Or.inr (Or.inl rfl) | exact Or.inr (Or.inr rfl)) rfl) px_int (by first | assumption | rfl) (fun _ _ => rfl)) (px_ixT (px_var (n := 2) rfl (by first | exact Or.inl rfl | exact Or.inr (Or.inl rfl) | exact Or.inr (Or.inr rfl)) rfl) px_int (by first | assumption | rfl) (fun _ _ => rfl)) (mulW (by repeat first | assumption | exact (by decide : Bd 64 _) | apply bd_mul | apply bd_add | apply bd_sub | apply bd_neg) (by repeat first | assumption | exact (by decide : Bd 64 _) | apply bd_mul | apply bd_add | apply bd_sub | apply bd_neg) (by decide))) (px_mul (px_ixT (px_var (n := 1) rfl (by first | exact Or.inl rfl | exact Or.inr (Or.inl rfl) | exact Or.inr (Or.inr rfl)) rfl) px_int (by first | assumption | rfl) (fun _ _ => rfl)) (px_ixT (px_var (n := 2) rfl (by first | exact Or.inl rfl | exact Or.inr (Or.inl rfl) | exact Or.inr (Or.inr rfl)) rfl) px_int (by first | assumption | rfl) (fun _ _ => rfl)) (mulW (by repeat first | assumption | exact (by decide : Bd 64 _) | apply bd_mul | apply bd_add | apply bd_sub | apply bd_neg) (by repeat first | assumption | exact (by decide : Bd 64 _) | apply bd_mul | apply bd_add | apply bd_sub | apply bd_neg) (by decide)))) (mulW (by repeat first | assumption | exact (by decide : Bd 64 _) | apply bd_mul | apply bd_add | apply bd_sub | apply bd_neg) (by repeat first | assumption | exact (by decide : Bd 64 _) | apply bd_mul | apply bd_add | apply bd_sub | apply bd_neg) (by decide))) rfl (fun _ => rfl)) ?_
  exact pxb_one (pxs_ret (px_add (px_sub (px_var (n := 3) rfl (by first | exact Or.inl rfl | exact Or.inr (Or.inl rfl) | exact Or.inr (Or.inr rfl)) rfl) (px_mul (px_ixT (px_var (n := 0) rfl (by first | exact Or.inl rfl | exact Or.inr (Or.inl rfl) | exact Or.inr (Or.inr rfl)) rfl) px_int (by first | assumption | rfl) (fun _ _ => rfl)) (px_sub (px_mul (px_ixT (px_var (n := 1) rfl (by first | exact Or.inl rfl | exact Or.inr (Or.inl rfl) | exact Or.inr (Or.inr rfl)) rfl) px_int (by first | assumption | rfl) (fun _ _ => rfl)) (px_ixT (px_var (n := 2) rfl (by first | exact Or.inl rfl | exact Or.inr (Or.inl rfl) | exact Or.inr (Or.inr rfl)) rfl) px_int (by first | assumption | rfl) (fun _ _ => rfl)) (mulW (by repeat first | assumption | exact (by decide : Bd 64 _) | apply bd_mul | apply bd_add | apply bd_sub | apply bd_neg) (by repeat first | assumption | exact (by decide : Bd 64 _) | apply bd_mul | apply bd_add | apply bd_sub | apply bd_neg) (by decide))) (px_mul (px_ixT (px_var (n := 1) rfl (by first | exact Or.inl rfl | exact Or.inr (Or.inl rfl) | exact Or.inr (Or.inr rfl)) rfl) px_int (by first | assumption | rfl) (fun _ _ => rfl)) (px_ixT (px_var (n := 2) rfl (by first | exact Or.inl rfl | exact Or.inr (Or.inl rfl) | exact Or.inr (Or.inr rfl)) rfl) px_int (by first | assumption | rfl) (fun _ _ => rfl)) (mulW (by repeat first | assumption | exact (by decide : Bd 64 _) | apply bd_mul | apply bd_add | apply bd_sub | apply bd_neg) (by repeat first | assumption | exact (by decide : Bd 64 _) | apply bd_mul | apply bd_add | apply bd_sub | apply bd_neg) (by decide)))) (mulW (by repeat first | assumption | exact (by decide : Bd 64 _) | apply bd_mul | apply bd_add | apply bd_sub | apply bd_neg) (by repeat first | assumption | exact (by decide : Bd 64 _) | apply bd_mul | apply bd_add | apply bd_sub | apply bd_neg) (by decide)))) (px_mul (px_ixT (px_var (n := 0) rfl (by first | exact Or.inl rfl | exact Or.inr (Or.inl rfl) | exact Or.inr (Or.inr rfl)) rfl) px_int (by first | assumption | rfl) (fun _ _ => rfl)) (px_sub (px_mul (px_ixT (px_var (n := 1) rfl (by first | exact Or.inl rfl | exact Or.inr (Or.inl rfl) | exact Or.inr (Or.inr rfl)) rfl) px_int (by first | assumption | rfl) (fun _ _ => rfl)) (px_ixT (px_var (n := 2) rfl (by first | exact Or.inl rfl | exact Or.inr (Or.inl rfl) | exact Or.inr (Or.inr rfl)) rfl) px_int (by first | assumption | rfl) (fun _ _ => rfl)) (mulW (by repeat first | assumption | exact (by decide : Bd 64 _) | apply bd_mul | apply bd_add | apply bd_sub | apply bd_neg) (by repeat first | assumption | exact (by decide : Bd 64 _) | apply bd_mul | apply bd_add | apply bd_sub | apply bd_neg) (by decide))) (px_mul (px_ixT (px_var (n := 1) rfl (by first | exact Or.inl rfl | exact Or.inr (Or.inl rfl) | exact Or.inr (Or.inr rfl)) rfl) px_int (by first | assumption | rfl) (fun _ _ => rfl)) (px_ixT (px_var (n := 2) rfl (by first | exact Or.inl rfl | exact Or.inr (Or.inl rfl) | exact Or.inr (Or.inr rfl)) rfl) px_int (by first | assumption | rfl) (fun _ _ => rfl)) (mulW (by repeat first | assumption | exact (by decide : Bd 64 _) | apply bd_mul | apply bd_add | apply bd_sub | apply bd_neg) (by repeat first | assumption | exact (by decide : Bd 64 _) | apply bd_mul | apply bd_add | apply bd_sub | apply bd_neg) (by decide)))) (mulW (by repeat first | assumption | exact (by decide : Bd 64 _) | apply bd_mul | apply bd_add | apply bd_sub | apply bd_neg) (by repeat first | assumption | exact (by decide : Bd 64 _) | apply bd_mul | apply bd_add | apply bd_sub | apply bd_neg) (by decide)))) (by first | rfl | done))
theorem fn_L_far2 (B : Blt mg) (D : DefAt K mg "_law_far2" s_L_far2 ["_law_a", "_law_b"]) (h_L_ratio : Fn P w K mg base "_law_ratio" R_red 2) : Fn P w K mg base "_law_far2" (fun ss s => ∃ a b, BP 1000 a ∧ BP 1000 b ∧ a.2.2 ≠ 0 ∧ b.2.2 ≠ 0 ∧ ss = [pS a, pS b] ∧ s = rS (lfar2V a b)) 3 := by
  -- def _law_far2
  refine fn_at D sc_L_far2 (by rintro _ _ ⟨a, b, _, _, _, _, rfl, rfl⟩; rfl) ?_
  rintro _ _ ⟨⟨ax, ay, aw⟩, ⟨bx, by_, bw⟩, ⟨h1, h2, h3⟩, ⟨h4, h5, h6⟩, n1, n2, rfl, rfl⟩
  have n3 : aw * aw * bw * bw ≠ 0 := Int.mul_ne_zero (Int.mul_ne_zero (Int.mul_ne_zero n1 n1) n2) n2
  have n4 : Bd 8000 (aw * aw * bw * bw) := bd_mono (bd_mul (bd_mul (bd_mul h3 h3) h6) h6) (by decide)
  refine pxb_seq (pxs_par (n1 := 2) (n2 := 3) sc_L_far2.nd rfl rfl (by decide) rfl rfl (pxa_cons (px_sub (px_mul (px_ixT (px_var (n := 0) rfl (by first | exact Or.inl rfl | exact Or.inr (Or.inl rfl) | exact Or.inr (Or.inr rfl)) rfl) px_int (by first | assumption | rfl) (fun _ _ => rfl)) (px_ixT (px_var (n := 1) rfl (by first | exact Or.inl rfl | exact Or.inr (Or.inl rfl) | exact Or.inr (Or.inr rfl)) rfl) px_int (by first | assumption | rfl) (fun _ _ => rfl)) (mulW (by repeat first | assumption | exact (by decide : Bd 64 _) | apply bd_mul | apply bd_add | apply bd_sub | apply bd_neg) (by repeat first | assumption | exact (by decide : Bd 64 _) | apply bd_mul | apply bd_add | apply bd_sub | apply bd_neg) (by decide))) (px_mul (px_ixT (px_var (n := 1) rfl (by first | exact Or.inl rfl | exact Or.inr (Or.inl rfl) | exact Or.inr (Or.inr rfl)) rfl) px_int (by first | assumption | rfl) (fun _ _ => rfl)) (px_ixT (px_var (n := 0) rfl (by first | exact Or.inl rfl | exact Or.inr (Or.inl rfl) | exact Or.inr (Or.inr rfl)) rfl) px_int (by first | assumption | rfl) (fun _ _ => rfl)) (mulW (by repeat first | assumption | exact (by decide : Bd 64 _) | apply bd_mul | apply bd_add | apply bd_sub | apply bd_neg) (by repeat first | assumption | exact (by decide : Bd 64 _) | apply bd_mul | apply bd_add | apply bd_sub | apply bd_neg) (by decide)))) (pxa_cons (px_sub (px_mul (px_ixT (px_var (n := 0) rfl (by first | exact Or.inl rfl | exact Or.inr (Or.inl rfl) | exact Or.inr (Or.inr rfl)) rfl) px_int (by first | assumption | rfl) (fun _ _ => rfl)) (px_ixT (px_var (n := 1) rfl (by first | exact Or.inl rfl | exact Or.inr (Or.inl rfl) | exact Or.inr (Or.inr rfl)) rfl) px_int (by first | assumption | rfl) (fun _ _ => rfl)) (mulW (by repeat first | assumption | exact (by decide : Bd 64 _) | apply bd_mul | apply bd_add | apply bd_sub | apply bd_neg) (by repeat first | assumption | exact (by decide : Bd 64 _) | apply bd_mul | apply bd_add | apply bd_sub | apply bd_neg) (by decide))) (px_mul (px_ixT (px_var (n := 1) rfl (by first | exact Or.inl rfl | exact Or.inr (Or.inl rfl) | exact Or.inr (Or.inr rfl)) rfl) px_int (by first | assumption | rfl) (fun _ _ => rfl)) (px_ixT (px_var (n := 0) rfl (by first | exact Or.inl rfl | exact Or.inr (Or.inl rfl) | exact Or.inr (Or.inr rfl)) rfl) px_int (by first | assumption | rfl) (fun _ _ => rfl)) (mulW (by repeat first | assumption | exact (by decide : Bd 64 _) | apply bd_mul | apply bd_add | apply bd_sub | apply bd_neg) (by repeat first | assumption | exact (by decide : Bd 64 _) | apply bd_mul | apply bd_add | apply bd_sub | apply bd_neg) (by decide)))) pxa_nil (fun _ => rfl)) (fun _ => rfl)) rfl rfl rfl (fun _ => rfl)) ?_
  exact pxb_one (pxs_ret (px_call h_L_ratio (Nat.le_of_ble_eq_true rfl) rfl (pxa_cons (px_add (px_mul (px_var (n := 2) rfl (by first | exact Or.inl rfl | exact Or.inr (Or.inl rfl) | exact Or.inr (Or.inr rfl)) rfl) (px_var (n := 2) rfl (by first | exact Or.inl rfl | exact Or.inr (Or.inl rfl) | exact Or.inr (Or.inr rfl)) rfl) (mulW (by repeat first | assumption | exact (by decide : Bd 64 _) | apply bd_mul | apply bd_add | apply bd_sub | apply bd_neg) (by repeat first | assumption | exact (by decide : Bd 64 _) | apply bd_mul | apply bd_add | apply bd_sub | apply bd_neg) (by decide))) (px_mul (px_var (n := 3) rfl (by first | exact Or.inl rfl | exact Or.inr (Or.inl rfl) | exact Or.inr (Or.inr rfl)) rfl) (px_var (n := 3) rfl (by first | exact Or.inl rfl | exact Or.inr (Or.inl rfl) | exact Or.inr (Or.inr rfl)) rfl) (mulW (by repeat first | assumption | exact (by decide : Bd 64 _) | apply bd_mul | apply bd_add | apply bd_sub | apply bd_neg) (by repeat first | assumption | exact (by decide : Bd 64 _) | apply bd_mul | apply bd_add | apply bd_sub | apply bd_neg) (by decide)))) (pxa_cons (px_mul (px_mul (px_mul (px_ixT (px_var (n := 0) rfl (by first | exact Or.inl rfl | exact Or.inr (Or.inl rfl) | exact Or.inr (Or.inr rfl)) rfl) px_int (by first | assumption | rfl) (fun _ _ => rfl)) (px_ixT (px_var (n := 0) rfl (by first | exact Or.inl rfl | exact Or.inr (Or.inl rfl) | exact Or.inr (Or.inr rfl)) rfl) px_int (by first | assumption | rfl) (fun _ _ => rfl)) (mulW (by repeat first | assumption | exact (by decide : Bd 64 _) | apply bd_mul | apply bd_add | apply bd_sub | apply bd_neg) (by repeat first | assumption | exact (by decide : Bd 64 _) | apply bd_mul | apply bd_add | apply bd_sub | apply bd_neg) (by decide))) (px_ixT (px_var (n := 1) rfl (by first | exact Or.inl rfl | exact Or.inr (Or.inl rfl) | exact Or.inr (Or.inr rfl)) rfl) px_int (by first | assumption | rfl) (fun _ _ => rfl)) (mulW (by repeat first | assumption | exact (by decide : Bd 64 _) | apply bd_mul | apply bd_add | apply bd_sub | apply bd_neg) (by repeat first | assumption | exact (by decide : Bd 64 _) | apply bd_mul | apply bd_add | apply bd_sub | apply bd_neg) (by decide))) (px_ixT (px_var (n := 1) rfl (by first | exact Or.inl rfl | exact Or.inr (Or.inl rfl) | exact Or.inr (Or.inr rfl)) rfl) px_int (by first | assumption | rfl) (fun _ _ => rfl)) (mulW (by repeat first | assumption | exact (by decide : Bd 64 _) | apply bd_mul | apply bd_add | apply bd_sub | apply bd_neg) (by repeat first | assumption | exact (by decide : Bd 64 _) | apply bd_mul | apply bd_add | apply bd_sub | apply bd_neg) (by decide))) pxa_nil (fun _ => rfl)) (fun _ => rfl)) (r_red (by assumption) (by assumption)) rfl (fun _ => rfl) (fun _ => rfl)) (by first | rfl | done))
theorem fn_L_area2 (B : Blt mg) (D : DefAt K mg "_law_area2" s_L_area2 ["_law_a", "_law_b", "_law_c"]) (h_L_ratio : Fn P w K mg base "_law_ratio" R_red 2) (h_L_doubled : Fn P w K mg base "_law_doubled" (R_p3w ldoubledV) 1) : Fn P w K mg base "_law_area2" (fun ss s => ∃ a b c, BP 1000 a ∧ BP 1000 b ∧ BP 1000 c ∧ a.2.2 ≠ 0 ∧ b.2.2 ≠ 0 ∧ c.2.2 ≠ 0 ∧ ss = [pS a, pS b, pS c] ∧ s = rS (larea2V a b c)) 3 := by
  -- def _law_area2
  refine fn_at D sc_L_area2 (by rintro _ _ ⟨a, b, c, _, _, _, _, _, _, rfl, rfl⟩; rfl) ?_
  rintro _ _ ⟨a, b, c, h1, h2, h3, n1, n2, n3, rfl, rfl⟩
  have n4 : a.2.2 * b.2.2 * c.2.2 ≠ 0 := Int.mul_ne_zero (Int.mul_ne_zero n1 n2) n3
  have h6 := h1.2.2
  have h7 := h2.2.2
  have h8 := h3.2.2
  have n5 : Bd 8000 (a.2.2 * b.2.2 * c.2.2) := bd_mono (bd_mul (bd_mul h6 h7) h8) (by decide)
  exact pxb_one (pxs_ret (px_call h_L_ratio (Nat.le_of_ble_eq_true rfl) rfl (pxa_cons (px_call h_L_doubled (Nat.le_of_ble_eq_true rfl) rfl (pxa_cons (px_var (n := 0) rfl (by first | exact Or.inl rfl | exact Or.inr (Or.inl rfl) | exact Or.inr (Or.inr rfl)) rfl) (pxa_cons (px_var (n := 1) rfl (by first | exact Or.inl rfl | exact Or.inr (Or.inl rfl) | exact Or.inr (Or.inr rfl)) rfl) (pxa_cons (px_var (n := 2) rfl (by first | exact Or.inl rfl | exact Or.inr (Or.inl rfl) | exact Or.inr (Or.inr rfl)) rfl) pxa_nil (fun _ => rfl)) (fun _ => rfl)) (fun _ => rfl)) (r_p3w (by assumption) (by assumption) (by assumption) (by assumption)) rfl (fun _ => rfl) (fun _ => rfl)) (pxa_cons (px_mul (px_mul (px_ixT (px_var (n := 0) rfl (by first | exact Or.inl rfl | exact Or.inr (Or.inl rfl) | exact Or.inr (Or.inr rfl)) rfl) px_int (by first | assumption | rfl) (fun _ _ => rfl)) (px_ixT (px_var (n := 1) rfl (by first | exact Or.inl rfl | exact Or.inr (Or.inl rfl) | exact Or.inr (Or.inr rfl)) rfl) px_int (by first | assumption | rfl) (fun _ _ => rfl)) (mulW (by repeat first | assumption | exact (by decide : Bd 64 _) | apply bd_mul | apply bd_add | apply bd_sub | apply bd_neg) (by repeat first | assumption | exact (by decide : Bd 64 _) | apply bd_mul | apply bd_add | apply bd_sub | apply bd_neg) (by decide))) (px_ixT (px_var (n := 2) rfl (by first | exact Or.inl rfl | exact Or.inr (Or.inl rfl) | exact Or.inr (Or.inr rfl)) rfl) px_int (by first | assumption | rfl) (fun _ _ => rfl)) (mulW (by repeat first | assumption | exact (by decide : Bd 64 _) | apply bd_mul | apply bd_add | apply bd_sub | apply bd_neg) (by repeat first | assumption | exact (by decide : Bd 64 _) | apply bd_mul | apply bd_add | apply bd_sub | apply bd_neg) (by decide))) pxa_nil (fun _ => rfl)) (fun _ => rfl)) (r_red (by assumption) (by assumption)) rfl (fun _ => rfl) (fun _ => rfl)) (by first | rfl | done))
end
end M
namespace M
open L2 PyProof.Rows PySem.Spec PySem
theorem r_weight {ps : List P3} (h : ∀ p ∈ ps, GP p) (l : ps.length ≤ 100) : R_weight [.p (.list (ps.map ptD))] (iS (weightV ps)) := ⟨ps, h, l, rfl, rfl⟩
theorem r_scaled {ps : List P3} (h : ∀ p ∈ ps, GP p) (l : ps.length ≤ 100) : R_scaled [.p (.list (ps.map ptD))] (.p (.tuple [.list (ps.map (xyD (weightV ps))), .int (weightV ps)])) := ⟨ps, h, l, rfl, rfl⟩
theorem r_scaled4 {a b c d : P3} (h1 : GP a) (h2 : GP b) (h3 : GP c) (h4 : GP d) : R_scaled [.p (.list [ptD a, ptD b, ptD c, ptD d])] (.p (.tuple [.list [xyD (weightV [a, b, c, d]) a, xyD (weightV [a, b, c, d]) b, xyD (weightV [a, b, c, d]) c, xyD (weightV [a, b, c, d]) d], .int (weightV [a, b, c, d])])) :=
  r_scaled (ps := [a, b, c, d]) (by intro p hp; simp only [List.mem_cons, List.not_mem_nil, or_false] at hp; rcases hp with e | e | e | e <;> (rw [e]; assumption)) (Nat.le_of_ble_eq_true rfl)
theorem r_scaled3 {a b c : P3} (h1 : GP a) (h2 : GP b) (h3 : GP c) : R_scaled [.p (.list [ptD a, ptD b, ptD c])] (.p (.tuple [.list [xyD (weightV [a, b, c]) a, xyD (weightV [a, b, c]) b, xyD (weightV [a, b, c]) c], .int (weightV [a, b, c])])) :=
  r_scaled (ps := [a, b, c]) (by intro p hp; simp only [List.mem_cons, List.not_mem_nil, or_false] at hp; rcases hp with e | e | e <;> (rw [e]; assumption)) (Nat.le_of_ble_eq_true rfl)
section
variable {P : Program} {w : World} {K : PySem.W.Frag} {mg : Str → Option Value} {base : Heap}
theorem fn_common_weight (B : Blt mg) (D : DefAt K mg "common_weight" s_common_weight ["points"]) (h_gcd : Fn P w K mg base "gcd" R_gcd 1) : Fn P w K mg base "common_weight" R_weight 2 := by
  -- def common_weight
  refine fn_at D sc_common_weight (by rintro _ _ ⟨ps, _, _, rfl, rfl⟩; rfl) ?_
  rintro _ _ ⟨ps, hp, hl, rfl, rfl⟩
  (refine pxb_seq (pxs_set (n := 1) sc_common_weight.nd rfl (by first | exact Or.inl rfl | exact Or.inr rfl) (.inl rfl) px_int rfl (fun _ => rfl)) ?_); (try conv => arg 3; simp only [slots, wipeD, List.map, List.length, List.append, List.replicate, List.set_cons_zero, List.set_cons_succ, List.cons_append, List.nil_append, Nat.add_sub_cancel])
  refine pxb_cons (nx1 := fun δ' => ∃ o, δ' = [some (.p (.list (ps.map ptD))), some (iS (weightV ps)), o]) (pxs_for (fun i δ' => ∃ o, δ' = [some (.p (.list (ps.map ptD))), some (iS (weightV (ps.take i))), o]) (src_list (px_var (n := 0) rfl (by first | exact Or.inl rfl | exact Or.inr (Or.inl rfl) | exact Or.inr (Or.inr rfl)) rfl)) ⟨_, rfl⟩ ?_ ?_ (fun _ _ => rfl)) ?_
  · rintro i d _ hd ⟨o, rfl⟩
    obtain ⟨p, hi, rfl⟩ := get_map hd
    have hg := hp p (List.mem_of_getElem? hi)
    have h13 := weight_13 (ps.take i) fun q hq => hp q (List.mem_of_mem_take hq)
    refine ⟨_, _, (pxg_name (n := 2) sc_common_weight.nd rfl (by first | exact Or.inl rfl | exact Or.inr rfl) (.inl rfl)), ?_⟩
    
    have bf : Bd 2 (weightV (ps.take i)) := by rcases h13 with e | e <;> (rw [e]; decide)
    have bw := hg.bw
    have bg := (gcd_le_right (n := weightV (ps.take i)) hg.w0 bw)
    obtain ⟨bg1, bg2⟩ := bg
    have bq : Bd 2 ((weightV (ps.take i)).fdiv (gcdV (weightV (ps.take i)) p.2.2)) := by
      rcases h13 with e | e <;> rcases hg.w with g | g <;> (rw [e, g]; decide)
    refine pxb_seq (pxs_set (n := 1) sc_common_weight.nd rfl (by first | exact Or.inl rfl | exact Or.inr rfl) (.inl rfl) (px_mul (px_fdiv (px_var (n := 1) rfl (by first | exact Or.inl rfl | exact Or.inr (Or.inl rfl) | exact Or.inr (Or.inr rfl)) rfl) (px_call h_gcd (Nat.le_of_ble_eq_true rfl) rfl (pxa_cons (px_var (n := 1) rfl (by first | exact Or.inl rfl | exact Or.inr (Or.inl rfl) | exact Or.inr (Or.inr rfl)) rfl) (pxa_cons (px_ixT (px_var (n := 2) rfl (by first | exact Or.inl rfl | exact Or.inr (Or.inl rfl) | exact Or.inr (Or.inr rfl)) rfl) px_int (by first | assumption | rfl) (fun _ _ => rfl)) pxa_nil (fun _ => rfl)) (fun _ => rfl)) r_gcd rfl (fun _ => rfl) (fun _ => rfl)) (divX (by repeat first | assumption | exact (by decide : Bd 64 _) | apply bd_mul | apply bd_add | apply bd_sub | apply bd_neg) (by first | assumption | omega | decide) (by decide))) (px_ixT (px_var (n := 2) rfl (by first | exact Or.inl rfl | exact Or.inr (Or.inl rfl) | exact Or.inr (Or.inr rfl)) rfl) px_int (by first | assumption | rfl) (fun _ _ => rfl)) (mulW (by repeat first | assumption | exact (by decide : Bd 64 _) | apply bd_mul | apply bd_add | apply bd_sub | apply bd_neg) (by repeat first | assumption | exact (by decide : Bd 64 _) | apply bd_mul | apply bd_add | apply bd_sub | apply bd_neg) (by decide))) rfl (fun _ => rfl)) (pxb_nil ⟨some (pS p), ?_⟩)
    rw [take_snoc hi, weight_snoc]
    rfl
  · rintro _ ⟨o, rfl⟩
    rw [List.length_map, List.take_length]
    exact ⟨o, rfl⟩
  · rintro _ ⟨o, rfl⟩
    exact pxb_one (pxs_ret (px_var (n := 1) rfl (by first | exact Or.inl rfl | exact Or.inr (Or.inl rfl) | exact Or.inr (Or.inr rfl)) rfl) (by first | rfl | done))
theorem fn_scaled (B : Blt mg) (D : DefAt K mg "scaled" s_scaled ["points"]) (h_common_weight : Fn P w K mg base "common_weight" R_weight 2) : Fn P w K mg base "scaled" R_scaled 3 := by
  -- def scaled
  refine fn_at D sc_scaled (by rintro _ _ ⟨ps, _, _, rfl, rfl⟩; rfl) ?_
  rintro _ _ ⟨ps, hp, hl, rfl, rfl⟩
  (refine pxb_seq (pxs_set (n := 1) sc_scaled.nd rfl (by first | exact Or.inl rfl | exact Or.inr rfl) (.inl rfl) (px_call h_common_weight (Nat.le_of_ble_eq_true rfl) rfl (pxa_cons (px_var (n := 0) rfl (by first | exact Or.inl rfl | exact Or.inr (Or.inl rfl) | exact Or.inr (Or.inr rfl)) rfl) pxa_nil (fun _ => rfl)) (r_weight (by assumption) (by assumption)) rfl (fun _ => rfl) (fun _ => rfl)) rfl (fun _ => rfl)) ?_); (try conv => arg 3; simp only [slots, wipeD, List.map, List.length, List.append, List.replicate, List.set_cons_zero, List.set_cons_succ, List.cons_append, List.nil_append, Nat.add_sub_cancel])
  refine pxb_one (pxs_ret (px_tupD (pxd_cons (px_lc (enc := ptD) (ts := ps) (own := [("p", 2)]) (fun _ => true) (xyD (weightV ps)) sc_scaled.nd (src_list (px_var (n := 0) rfl (by first | exact Or.inl rfl | exact Or.inr (Or.inl rfl) | exact Or.inr (Or.inr rfl)) rfl)) rfl (fun _ _ => rfl) (fun p hm => ?_) (by omega)) (pxd_cons (px_var (n := 1) rfl (by first | exact Or.inl rfl | exact Or.inr (Or.inl rfl) | exact Or.inr (Or.inr rfl)) rfl) pxd_nil (fun _ => rfl)) (fun _ => rfl))) ?_)
  · have hg := hp p hm
    have h13 := weight_13 ps hp
    have bf : Bd 2 (weightV ps) := by rcases h13 with e | e <;> (rw [e]; decide)
    have bw := hg.bw
    have nw := hg.w0
    have bx := hg.x
    have by_ := hg.y
    have bq : Bd 2 ((weightV ps).fdiv p.2.2) := by
      rcases h13 with e | e <;> rcases hg.w with g | g <;> (rw [e, g]; decide)
    exact ⟨_, _, ⟨(pxg_name (n := 2) sc_scaled.nd rfl (by first | exact Or.inl rfl | exact Or.inr rfl) (by first | exact .inl rfl | exact .inr rfl)), (by decide), pxi_nil, fun hc => (px_tupI (pxi1 (px_mul (px_ixT (px_var (n := 2) rfl (by first | exact Or.inl rfl | exact Or.inr (Or.inl rfl) | exact Or.inr (Or.inr rfl)) rfl) px_int (by first | assumption | rfl) (fun _ _ => rfl)) (px_fdiv (px_var (n := 1) rfl (by first | exact Or.inl rfl | exact Or.inr (Or.inl rfl) | exact Or.inr (Or.inr rfl)) rfl) (px_ixT (px_var (n := 2) rfl (by first | exact Or.inl rfl | exact Or.inr (Or.inl rfl) | exact Or.inr (Or.inr rfl)) rfl) px_int (by first | assumption | rfl) (fun _ _ => rfl)) (divX (by repeat first | assumption | exact (by decide : Bd 64 _) | apply bd_mul | apply bd_add | apply bd_sub | apply bd_neg) (by first | assumption | omega | decide) (by decide))) (mulW (by repeat first | assumption | exact (by decide : Bd 64 _) | apply bd_mul | apply bd_add | apply bd_sub | apply bd_neg) (by repeat first | assumption | exact (by decide : Bd 64 _) | apply bd_mul | apply bd_add | apply bd_sub | apply bd_neg) (by decide))) (pxi1 (px_mul (px_ixT (px_var (n := 2) rfl (by first | exact Or.inl rfl | exact Or.inr (Or.inl rfl) | exact Or.inr (Or.inr rfl)) rfl) px_int (by first | assumption | rfl) (fun _ _ => rfl)) (px_fdiv (px_var (n := 1) rfl (by first | exact Or.inl rfl | exact Or.inr (Or.inl rfl) | exact Or.inr (Or.inr rfl)) rfl) (px_ixT (px_var (n := 2) rfl (by first | exact Or.inl rfl | exact Or.inr (Or.inl rfl) | exact Or.inr (Or.inr rfl)) rfl) px_int (by first | assumption | rfl) (fun _ _ => rfl)) (divX (by repeat first | assumption | exact (by decide : Bd 64 _) | apply bd_mul | apply bd_add | apply bd_sub | apply bd_neg) (by first | assumption | omega | decide) (by decide))) (mulW (by repeat first | assumption | exact (by decide : Bd 64 _) | apply bd_mul | apply bd_add | apply bd_sub | apply bd_neg) (by repeat first | assumption | exact (by decide : Bd 64 _) | apply bd_mul | apply bd_add | apply bd_sub | apply bd_neg) (by decide))) pxi0 (fun _ => rfl)) (fun _ => rfl)))⟩⟩
  · rw [lcOut_true]
theorem fn_side_of (B : Blt mg) (D : DefAt K mg "side_of" s_side_of ["a", "b", "c", "d"]) (h_scaled : Fn P w K mg base "scaled" R_scaled 3) (h_sign : Fn P w K mg base "sign" R_sign 1) (h_minor : Fn P w K mg base "minor" (R_p3 minorV) 1) (h_turn_of : Fn P w K mg base "turn_of" (R_p3 turnV) 2) : Fn P w K mg base "side_of" (R_side sideV) 4 := by
  -- def side_of
  refine fn_at D sc_side_of (by rintro _ _ ⟨a, b, c, d, _, _, _, _, rfl, rfl⟩; rfl) ?_
  rintro _ _ ⟨a, b, c, d, ha, hb, hc, hd, rfl, rfl⟩
  have h13 : weightV [a, b, c, d] = 1 ∨ weightV [a, b, c, d] = 3 := weight_13 _ (by intro p hp; simp only [List.mem_cons, List.not_mem_nil, or_false] at hp; rcases hp with e | e | e | e <;> (rw [e]; assumption))
  have pa := ha.bp
  have pb := hb.bp
  have pc := hc.bp
  (refine pxb_seq (pxs_asg (px_call h_scaled (Nat.le_of_ble_eq_true rfl) rfl (pxa_cons (px_lstD (pxd_cons (px_var (n := 0) rfl (by first | exact Or.inl rfl | exact Or.inr (Or.inl rfl) | exact Or.inr (Or.inr rfl)) rfl) (pxd_cons (px_var (n := 1) rfl (by first | exact Or.inl rfl | exact Or.inr (Or.inl rfl) | exact Or.inr (Or.inr rfl)) rfl) (pxd_cons (px_var (n := 2) rfl (by first | exact Or.inl rfl | exact Or.inr (Or.inl rfl) | exact Or.inr (Or.inr rfl)) rfl) (pxd_cons (px_var (n := 3) rfl (by first | exact Or.inl rfl | exact Or.inr (Or.inl rfl) | exact Or.inr (Or.inr rfl)) rfl) pxd_nil (fun _ => rfl)) (fun _ => rfl)) (fun _ => rfl)) (fun _ => rfl))) pxa_nil (fun _ => rfl)) (by first | exact r_scaled4 (by assumption) (by assumption) (by assumption) (by assumption) | exact r_scaled3 (by assumption) (by assumption) (by assumption)) rfl (fun _ => rfl) (fun _ => rfl)) (pxg_tup (pxgs_cons (pxg_name (n := 4) sc_side_of.nd rfl (by first | exact Or.inl rfl | exact Or.inr rfl) (.inl rfl)) (pxgs_cons (pxg_name (n := 5) sc_side_of.nd rfl (by first | exact Or.inl rfl | exact Or.inr rfl) (.inl rfl)) pxgs_nil (fun _ => rfl)) (fun _ => rfl)) (fun _ => rfl) (fun _ => rfl)) (fun _ => rfl) rfl (fun _ => rfl)) ?_); (try conv => arg 3; simp only [slots, wipeD, List.map, List.length, List.append, List.replicate, List.set_cons_zero, List.set_cons_succ, List.cons_append, List.nil_append, Nat.add_sub_cancel])
  generalize hW : weightV [a, b, c, d] = W at *
  have ra := row_bp h13 hd ha
  have rb := row_bp h13 hd hb
  have rc := row_bp h13 hd hc
  have hall : ∀ p ∈ [a, b, c], BP 1000 (rowV W d p) := by intro p hp; simp only [List.mem_cons, List.not_mem_nil, or_false] at hp; rcases hp with e | e | e <;> (rw [e]; assumption)
  refine pxb_seq (pxs_setLcE (n := 6) (enc := xyD W) (ts := [a, b, c]) (cond := fun _ => true) (y := fun p => tupI [(scaleV W p).1 - (scaleV W d).1, (scaleV W p).2 - (scaleV W d).2]) (own := [("x", 10), ("y", 11)]) sc_side_of.nd rfl rfl rfl (src_list (px_uptoE (m := 3) (px_var (n := 4) rfl (by first | exact Or.inl rfl | exact Or.inr (Or.inl rfl) | exact Or.inr (Or.inr rfl)) rfl) (by rfl))) rfl (fun _ _ => rfl) (fun p hm => ?_) (Nat.le_of_ble_eq_true rfl) (by decide) (by decide) (lcOut_true _ _)) ?_
  · exact ⟨_, _, ⟨(pxg_tup (pxgs_cons (pxg_name (n := 10) sc_side_of.nd rfl (by first | exact Or.inl rfl | exact Or.inr rfl) (by first | exact .inl rfl | exact .inr rfl)) (pxgs_cons (pxg_name (n := 11) sc_side_of.nd rfl (by first | exact Or.inl rfl | exact Or.inr rfl) (by first | exact .inl rfl | exact .inr rfl)) pxgs_nil (fun _ => rfl)) (fun _ => rfl)) (fun _ => rfl) (fun _ => rfl)), (by decide), pxi_nil, fun hc => (px_tupI (pxi1 (px_sub (px_var (n := 10) rfl (by first | exact Or.inl rfl | exact Or.inr (Or.inl rfl) | exact Or.inr (Or.inr rfl)) rfl) (px_ixT (px_ixL (px_var (n := 4) rfl (by first | exact Or.inl rfl | exact Or.inr (Or.inl rfl) | exact Or.inr (Or.inr rfl)) rfl) px_int (by first | assumption | rfl) (fun _ _ => rfl)) px_int (by first | assumption | rfl) (fun _ _ => rfl))) (pxi1 (px_sub (px_var (n := 11) rfl (by first | exact Or.inl rfl | exact Or.inr (Or.inl rfl) | exact Or.inr (Or.inr rfl)) rfl) (px_ixT (px_ixL (px_var (n := 4) rfl (by first | exact Or.inl rfl | exact Or.inr (Or.inl rfl) | exact Or.inr (Or.inr rfl)) rfl) px_int (by first | assumption | rfl) (fun _ _ => rfl)) px_int (by first | assumption | rfl) (fun _ _ => rfl))) pxi0 (fun _ => rfl)) (fun _ => rfl)))⟩⟩
  
  refine pxb_seq (pxs_asg (px_lcE (enc := fun p => tupI [(scaleV W p).1 - (scaleV W d).1, (scaleV W p).2 - (scaleV W d).2]) (ts := [a, b, c]) (cond := fun _ => true) (y := fun p => ptD (rowV W d p)) (own := [("x", 10), ("y", 11)]) sc_side_of.nd (src_list (px_var (n := 6) rfl (by first | exact Or.inl rfl | exact Or.inr (Or.inl rfl) | exact Or.inr (Or.inr rfl)) rfl)) rfl (fun _ _ => rfl) (fun p hm => ?_) (Nat.le_of_ble_eq_true rfl) (lcOut_true _ _)) (d := .list [ptD (rowV W d a), ptD (rowV W d b), ptD (rowV W d c)]) (pxg_unl (pxgs_cons (pxg_name (n := 7) sc_side_of.nd rfl (by first | exact Or.inl rfl | exact Or.inr rfl) (.inl rfl)) (pxgs_cons (pxg_name (n := 8) sc_side_of.nd rfl (by first | exact Or.inl rfl | exact Or.inr rfl) (.inl rfl)) (pxgs_cons (pxg_name (n := 9) sc_side_of.nd rfl (by first | exact Or.inl rfl | exact Or.inr rfl) (.inl rfl)) pxgs_nil (fun _ => rfl)) (fun _ => rfl)) (fun _ => rfl)) (fun _ => rfl) (fun _ => rfl)) (fun _ => rfl) rfl (fun _ => rfl)) ?_
  · have h := hall p hm
    have h1 : Bd 1000 ((scaleV W p).1 - (scaleV W d).1) := h.1
    have h2 : Bd 1000 ((scaleV W p).2 - (scaleV W d).2) := h.2.1
    exact ⟨_, _, ⟨(pxg_tup (pxgs_cons (pxg_name (n := 10) sc_side_of.nd rfl (by first | exact Or.inl rfl | exact Or.inr rfl) (by first | exact .inl rfl | exact .inr rfl)) (pxgs_cons (pxg_name (n := 11) sc_side_of.nd rfl (by first | exact Or.inl rfl | exact Or.inr rfl) (by first | exact .inl rfl | exact .inr rfl)) pxgs_nil (fun _ => rfl)) (fun _ => rfl)) (fun _ => rfl) (fun _ => rfl)), (by decide), pxi_nil, fun hc => (px_tupI (pxi1 (px_var (n := 10) rfl (by first | exact Or.inl rfl | exact Or.inr (Or.inl rfl) | exact Or.inr (Or.inr rfl)) rfl) (pxi1 (px_var (n := 11) rfl (by first | exact Or.inl rfl | exact Or.inr (Or.inl rfl) | exact Or.inr (Or.inr rfl)) rfl) (pxi1 (px_add (px_mul (px_var (n := 10) rfl (by first | exact Or.inl rfl | exact Or.inr (Or.inl rfl) | exact Or.inr (Or.inr rfl)) rfl) (px_var (n := 10) rfl (by first | exact Or.inl rfl | exact Or.inr (Or.inl rfl) | exact Or.inr (Or.inr rfl)) rfl) (mulW (by repeat first | assumption | exact (by decide : Bd 64 _) | apply bd_mul | apply bd_add | apply bd_sub | apply bd_neg) (by repeat first | assumption | exact (by decide : Bd 64 _) | apply bd_mul | apply bd_add | apply bd_sub | apply bd_neg) (by decide))) (px_mul (px_var (n := 11) rfl (by first | exact Or.inl rfl | exact Or.inr (Or.inl rfl) | exact Or.inr (Or.inr rfl)) rfl) (px_var (n := 11) rfl (by first | exact Or.inl rfl | exact Or.inr (Or.inl rfl) | exact Or.inr (Or.inr rfl)) rfl) (mulW (by repeat first | assumption | exact (by decide : Bd 64 _) | apply bd_mul | apply bd_add | apply bd_sub | apply bd_neg) (by repeat first | assumption | exact (by decide : Bd 64 _) | apply bd_mul | apply bd_add | apply bd_sub | apply bd_neg) (by decide)))) pxi0 (fun _ => rfl)) (fun _ => rfl)) (fun _ => rfl)))⟩⟩
  have hsg : Bd 3 (signV (minorV (rowV W d a) (rowV W d b) (rowV W d c))) := by unfold signV bV; split <;> split <;> decide
  have hst : Bd 3 (turnV a b c) := by unfold turnV signV bV; split <;> split <;> decide
  subst hW
  exact pxb_one (pxs_ret (px_mul (px_call h_sign (Nat.le_of_ble_eq_true rfl) rfl (pxa_cons (px_call h_minor (Nat.le_of_ble_eq_true rfl) rfl (pxa_cons (px_var (n := 7) rfl (by first | exact Or.inl rfl | exact Or.inr (Or.inl rfl) | exact Or.inr (Or.inr rfl)) rfl) (pxa_cons (px_var (n := 8) rfl (by first | exact Or.inl rfl | exact Or.inr (Or.inl rfl) | exact Or.inr (Or.inr rfl)) rfl) (pxa_cons (px_var (n := 9) rfl (by first | exact Or.inl rfl | exact Or.inr (Or.inl rfl) | exact Or.inr (Or.inr rfl)) rfl) pxa_nil (fun _ => rfl)) (fun _ => rfl)) (fun _ => rfl)) (r_p3 (by assumption) (by assumption) (by assumption)) rfl (fun _ => rfl) (fun _ => rfl)) pxa_nil (fun _ => rfl)) r_sign rfl (fun _ => rfl) (fun _ => rfl)) (px_call h_turn_of (Nat.le_of_ble_eq_true rfl) rfl (pxa_cons (px_var (n := 0) rfl (by first | exact Or.inl rfl | exact Or.inr (Or.inl rfl) | exact Or.inr (Or.inr rfl)) rfl) (pxa_cons (px_var (n := 1) rfl (by first | exact Or.inl rfl | exact Or.inr (Or.inl rfl) | exact Or.inr (Or.inr rfl)) rfl) (pxa_cons (px_var (n := 2) rfl (by first | exact Or.inl rfl | exact Or.inr (Or.inl rfl) | exact Or.inr (Or.inr rfl)) rfl) pxa_nil (fun _ => rfl)) (fun _ => rfl)) (fun _ => rfl)) (r_p3 (by assumption) (by assumption) (by assumption)) rfl (fun _ => rfl) (fun _ => rfl)) (mulW (by repeat first | assumption | exact (by decide : Bd 64 _) | apply bd_mul | apply bd_add | apply bd_sub | apply bd_neg) (by repeat first | assumption | exact (by decide : Bd 64 _) | apply bd_mul | apply bd_add | apply bd_sub | apply bd_neg) (by decide))) (by first | rfl | done))
theorem fn_center_of (B : Blt mg) (D : DefAt K mg "center_of" s_center_of ["a", "b", "c"]) (h_scaled : Fn P w K mg base "scaled" R_scaled 3) (h_lowest : Fn P w K mg base "lowest" R_lowest 2) : Fn P w K mg base "center_of" (fun ss s => ∃ a b c, GP a ∧ GP b ∧ GP c ∧ doubledV a b c ≠ 0 ∧ ss = [pS a, pS b, pS c] ∧ s = pS (centerV a b c)) 4 := by
  -- def center_of
  refine fn_at D sc_center_of (by rintro _ _ ⟨a, b, c, _, _, _, _, rfl, rfl⟩; rfl) ?_
  rintro _ _ ⟨a, b, c, ha, hb, hc, hn, rfl, rfl⟩
  have h13 : weightV [a, b, c] = 1 ∨ weightV [a, b, c] = 3 := weight_13 _ (by intro p hp; simp only [List.mem_cons, List.not_mem_nil, or_false] at hp; rcases hp with e | e | e <;> (rw [e]; assumption))
  have hnz := center_nz ha hb hc hn
  (refine pxb_seq (pxs_asg (px_call h_scaled (Nat.le_of_ble_eq_true rfl) rfl (pxa_cons (px_lstD (pxd_cons (px_var (n := 0) rfl (by first | exact Or.inl rfl | exact Or.inr (Or.inl rfl) | exact Or.inr (Or.inr rfl)) rfl) (pxd_cons (px_var (n := 1) rfl (by first | exact Or.inl rfl | exact Or.inr (Or.inl rfl) | exact Or.inr (Or.inr rfl)) rfl) (pxd_cons (px_var (n := 2) rfl (by first | exact Or.inl rfl | exact Or.inr (Or.inl rfl) | exact Or.inr (Or.inr rfl)) rfl) pxd_nil (fun _ => rfl)) (fun _ => rfl)) (fun _ => rfl))) pxa_nil (fun _ => rfl)) (by first | exact r_scaled4 (by assumption) (by assumption) (by assumption) (by assumption) | exact r_scaled3 (by assumption) (by assumption) (by assumption)) rfl (fun _ => rfl) (fun _ => rfl)) (pxg_tup (pxgs_cons (pxg_name (n := 3) sc_center_of.nd rfl (by first | exact Or.inl rfl | exact Or.inr rfl) (.inl rfl)) (pxgs_cons (pxg_name (n := 4) sc_center_of.nd rfl (by first | exact Or.inl rfl | exact Or.inr rfl) (.inl rfl)) pxgs_nil (fun _ => rfl)) (fun _ => rfl)) (fun _ => rfl) (fun _ => rfl)) (fun _ => rfl) rfl (fun _ => rfl)) ?_); (try conv => arg 3; simp only [slots, wipeD, List.map, List.length, List.append, List.replicate, List.set_cons_zero, List.set_cons_succ, List.cons_append, List.nil_append, Nat.add_sub_cancel])
  dsimp only [centerV]
  generalize hW : weightV [a, b, c] = W at *
  obtain ⟨a1, a2⟩ := scale_bd h13 ha
  obtain ⟨b1, b2⟩ := scale_bd h13 hb
  obtain ⟨c1, c2⟩ := scale_bd h13 hc
  have bW : Bd 2 W := by rcases h13 with e | e <;> (rw [e]; decide)
  refine pxb_seq (pxs_asg (px_lcE (enc := xyD W) (ts := [a, b]) (cond := fun _ => true) (y := fun p => tupI [(scaleV W p).1 - (scaleV W c).1, (scaleV W p).2 - (scaleV W c).2]) (own := [("one", 14), ("other", 15)]) sc_center_of.nd (src_list (px_uptoE (m := 2) (px_var (n := 3) rfl (by first | exact Or.inl rfl | exact Or.inr (Or.inl rfl) | exact Or.inr (Or.inr rfl)) rfl) (by rfl))) rfl (fun _ _ => rfl) (fun p hm => ?_) (Nat.le_of_ble_eq_true rfl) (lcOut_true _ _)) (d := .list [tupI [(scaleV W a).1 - (scaleV W c).1, (scaleV W a).2 - (scaleV W c).2], tupI [(scaleV W b).1 - (scaleV W c).1, (scaleV W b).2 - (scaleV W c).2]]) (pxg_unl (pxgs_cons (pxg_tup (pxgs_cons (pxg_name (n := 5) sc_center_of.nd rfl (by first | exact Or.inl rfl | exact Or.inr rfl) (.inl rfl)) (pxgs_cons (pxg_name (n := 6) sc_center_of.nd rfl (by first | exact Or.inl rfl | exact Or.inr rfl) (.inl rfl)) pxgs_nil (fun _ => rfl)) (fun _ => rfl)) (fun _ => rfl) (fun _ => rfl)) (pxgs_cons (pxg_tup (pxgs_cons (pxg_name (n := 7) sc_center_of.nd rfl (by first | exact Or.inl rfl | exact Or.inr rfl) (.inl rfl)) (pxgs_cons (pxg_name (n := 8) sc_center_of.nd rfl (by first | exact Or.inl rfl | exact Or.inr rfl) (.inl rfl)) pxgs_nil (fun _ => rfl)) (fun _ => rfl)) (fun _ => rfl) (fun _ => rfl)) pxgs_nil (fun _ => rfl)) (fun _ => rfl)) (fun _ => rfl) (fun _ => rfl)) (fun _ => rfl) rfl (fun _ => rfl)) ?_
  · exact ⟨_, _, ⟨(pxg_tup (pxgs_cons (pxg_name (n := 14) sc_center_of.nd rfl (by first | exact Or.inl rfl | exact Or.inr rfl) (by first | exact .inl rfl | exact .inr rfl)) (pxgs_cons (pxg_name (n := 15) sc_center_of.nd rfl (by first | exact Or.inl rfl | exact Or.inr rfl) (by first | exact .inl rfl | exact .inr rfl)) pxgs_nil (fun _ => rfl)) (fun _ => rfl)) (fun _ => rfl) (fun _ => rfl)), (by decide), pxi_nil, fun hc => (px_tupI (pxi1 (px_sub (px_var (n := 14) rfl (by first | exact Or.inl rfl | exact Or.inr (Or.inl rfl) | exact Or.inr (Or.inr rfl)) rfl) (px_ixT (px_ixL (px_var (n := 3) rfl (by first | exact Or.inl rfl | exact Or.inr (Or.inl rfl) | exact Or.inr (Or.inr rfl)) rfl) px_int (by first | assumption | rfl) (fun _ _ => rfl)) px_int (by first | assumption | rfl) (fun _ _ => rfl))) (pxi1 (px_sub (px_var (n := 15) rfl (by first | exact Or.inl rfl | exact Or.inr (Or.inl rfl) | exact Or.inr (Or.inr rfl)) rfl) (px_ixT (px_ixL (px_var (n := 3) rfl (by first | exact Or.inl rfl | exact Or.inr (Or.inl rfl) | exact Or.inr (Or.inr rfl)) rfl) px_int (by first | assumption | rfl) (fun _ _ => rfl)) px_int (by first | assumption | rfl) (fun _ _ => rfl))) pxi0 (fun _ => rfl)) (fun _ => rfl)))⟩⟩
  have bx : Bd 30 _ := bd_mono (bd_sub a1 c1) (by decide)
  have by_ : Bd 30 _ := bd_mono (bd_sub a2 c2) (by decide)
  have b2_ : Bd 2 (2 : Int) := by decide
  have bp : Bd 30 _ := bd_mono (bd_sub b1 c1) (by decide)
  have bq : Bd 30 _ := bd_mono (bd_sub b2 c2) (by decide)
  generalize hx : (scaleV W a).1 - (scaleV W c).1 = x at *
  generalize hy : (scaleV W a).2 - (scaleV W c).2 = y at *
  generalize hp : (scaleV W b).1 - (scaleV W c).1 = p at *
  generalize hq : (scaleV W b).2 - (scaleV W c).2 = q at *
  (refine pxb_seq (pxs_par3 (n1 := 9) (n2 := 10) (n3 := 11) sc_center_of.nd rfl rfl rfl (by decide) (by decide) (by decide) rfl rfl rfl (pxa_cons (px_add (px_mul (px_var (n := 5) rfl (by first | exact Or.inl rfl | exact Or.inr (Or.inl rfl) | exact Or.inr (Or.inr rfl)) rfl) (px_var (n := 5) rfl (by first | exact Or.inl rfl | exact Or.inr (Or.inl rfl) | exact Or.inr (Or.inr rfl)) rfl) (mulW (by repeat first | assumption | exact (by decide : Bd 64 _) | apply bd_mul | apply bd_add | apply bd_sub | apply bd_neg) (by repeat first | assumption | exact (by decide : Bd 64 _) | apply bd_mul | apply bd_add | apply bd_sub | apply bd_neg) (by decide))) (px_mul (px_var (n := 6) rfl (by first | exact Or.inl rfl | exact Or.inr (Or.inl rfl) | exact Or.inr (Or.inr rfl)) rfl) (px_var (n := 6) rfl (by first | exact Or.inl rfl | exact Or.inr (Or.inl rfl) | exact Or.inr (Or.inr rfl)) rfl) (mulW (by repeat first | assumption | exact (by decide : Bd 64 _) | apply bd_mul | apply bd_add | apply bd_sub | apply bd_neg) (by repeat first | assumption | exact (by decide : Bd 64 _) | apply bd_mul | apply bd_add | apply bd_sub | apply bd_neg) (by decide)))) (pxa_cons (px_add (px_mul (px_var (n := 7) rfl (by first | exact Or.inl rfl | exact Or.inr (Or.inl rfl) | exact Or.inr (Or.inr rfl)) rfl) (px_var (n := 7) rfl (by first | exact Or.inl rfl | exact Or.inr (Or.inl rfl) | exact Or.inr (Or.inr rfl)) rfl) (mulW (by repeat first | assumption | exact (by decide : Bd 64 _) | apply bd_mul | apply bd_add | apply bd_sub | apply bd_neg) (by repeat first | assumption | exact (by decide : Bd 64 _) | apply bd_mul | apply bd_add | apply bd_sub | apply bd_neg) (by decide))) (px_mul (px_var (n := 8) rfl (by first | exact Or.inl rfl | exact Or.inr (Or.inl rfl) | exact Or.inr (Or.inr rfl)) rfl) (px_var (n := 8) rfl (by first | exact Or.inl rfl | exact Or.inr (Or.inl rfl) | exact Or.inr (Or.inr rfl)) rfl) (mulW (by repeat first | assumption | exact (by decide : Bd 64 _) | apply bd_mul | apply bd_add | apply bd_sub | apply bd_neg) (by repeat first | assumption | exact (by decide : Bd 64 _) | apply bd_mul | apply bd_add | apply bd_sub | apply bd_neg) (by decide)))) (pxa_cons (px_mul px_int (px_sub (px_mul (px_var (n := 5) rfl (by first | exact Or.inl rfl | exact Or.inr (Or.inl rfl) | exact Or.inr (Or.inr rfl)) rfl) (px_var (n := 8) rfl (by first | exact Or.inl rfl | exact Or.inr (Or.inl rfl) | exact Or.inr (Or.inr rfl)) rfl) (mulW (by repeat first | assumption | exact (by decide : Bd 64 _) | apply bd_mul | apply bd_add | apply bd_sub | apply bd_neg) (by repeat first | assumption | exact (by decide : Bd 64 _) | apply bd_mul | apply bd_add | apply bd_sub | apply bd_neg) (by decide))) (px_mul (px_var (n := 7) rfl (by first | exact Or.inl rfl | exact Or.inr (Or.inl rfl) | exact Or.inr (Or.inr rfl)) rfl) (px_var (n := 6) rfl (by first | exact Or.inl rfl | exact Or.inr (Or.inl rfl) | exact Or.inr (Or.inr rfl)) rfl) (mulW (by repeat first | assumption | exact (by decide : Bd 64 _) | apply bd_mul | apply bd_add | apply bd_sub | apply bd_neg) (by repeat first | assumption | exact (by decide : Bd 64 _) | apply bd_mul | apply bd_add | apply bd_sub | apply bd_neg) (by decide)))) (mulW (by repeat first | assumption | exact (by decide : Bd 64 _) | apply bd_mul | apply bd_add | apply bd_sub | apply bd_neg) (by repeat first | assumption | exact (by decide : Bd 64 _) | apply bd_mul | apply bd_add | apply bd_sub | apply bd_neg) (by decide))) pxa_nil (fun _ => rfl)) (fun _ => rfl)) (fun _ => rfl)) rfl rfl rfl rfl (fun _ => rfl)) ?_); (try conv => arg 3; simp only [slots, wipeD, List.map, List.length, List.append, List.replicate, List.set_cons_zero, List.set_cons_succ, List.cons_append, List.nil_append, Nat.add_sub_cancel])
  have hnb : 2 * (x * q - p * y) ≠ 0 := Int.mul_ne_zero (by decide) hnz
  have bf : Bd 100 (x * x + y * y) := bd_mono (bd_add (bd_mul bx bx) (bd_mul by_ by_)) (by decide)
  have bs : Bd 100 (p * p + q * q) := bd_mono (bd_add (bd_mul bp bp) (bd_mul bq bq)) (by decide)
  have bb : Bd 100 (2 * (x * q - p * y)) := bd_mono (bd_mul (show Bd 2 (2 : Int) by decide) (bd_sub (bd_mul bx bq) (bd_mul bp by_))) (by decide)
  generalize x * x + y * y = fi at *
  generalize p * p + q * q = se at *
  generalize 2 * (x * q - p * y) = bo at *
  (refine pxb_seq (pxs_par (n1 := 12) (n2 := 13) sc_center_of.nd rfl rfl (by decide) rfl rfl (pxa_cons (px_sub (px_mul (px_var (n := 9) rfl (by first | exact Or.inl rfl | exact Or.inr (Or.inl rfl) | exact Or.inr (Or.inr rfl)) rfl) (px_var (n := 8) rfl (by first | exact Or.inl rfl | exact Or.inr (Or.inl rfl) | exact Or.inr (Or.inr rfl)) rfl) (mulW (by repeat first | assumption | exact (by decide : Bd 64 _) | apply bd_mul | apply bd_add | apply bd_sub | apply bd_neg) (by repeat first | assumption | exact (by decide : Bd 64 _) | apply bd_mul | apply bd_add | apply bd_sub | apply bd_neg) (by decide))) (px_mul (px_var (n := 10) rfl (by first | exact Or.inl rfl | exact Or.inr (Or.inl rfl) | exact Or.inr (Or.inr rfl)) rfl) (px_var (n := 6) rfl (by first | exact Or.inl rfl | exact Or.inr (Or.inl rfl) | exact Or.inr (Or.inr rfl)) rfl) (mulW (by repeat first | assumption | exact (by decide : Bd 64 _) | apply bd_mul | apply bd_add | apply bd_sub | apply bd_neg) (by repeat first | assumption | exact (by decide : Bd 64 _) | apply bd_mul | apply bd_add | apply bd_sub | apply bd_neg) (by decide)))) (pxa_cons (px_sub (px_mul (px_var (n := 10) rfl (by first | exact Or.inl rfl | exact Or.inr (Or.inl rfl) | exact Or.inr (Or.inr rfl)) rfl) (px_var (n := 5) rfl (by first | exact Or.inl rfl | exact Or.inr (Or.inl rfl) | exact Or.inr (Or.inr rfl)) rfl) (mulW (by repeat first | assumption | exact (by decide : Bd 64 _) | apply bd_mul | apply bd_add | apply bd_sub | apply bd_neg) (by repeat first | assumption | exact (by decide : Bd 64 _) | apply bd_mul | apply bd_add | apply bd_sub | apply bd_neg) (by decide))) (px_mul (px_var (n := 9) rfl (by first | exact Or.inl rfl | exact Or.inr (Or.inl rfl) | exact Or.inr (Or.inr rfl)) rfl) (px_var (n := 7) rfl (by first | exact Or.inl rfl | exact Or.inr (Or.inl rfl) | exact Or.inr (Or.inr rfl)) rfl) (mulW (by repeat first | assumption | exact (by decide : Bd 64 _) | apply bd_mul | apply bd_add | apply bd_sub | apply bd_neg) (by repeat first | assumption | exact (by decide : Bd 64 _) | apply bd_mul | apply bd_add | apply bd_sub | apply bd_neg) (by decide)))) pxa_nil (fun _ => rfl)) (fun _ => rfl)) rfl rfl rfl (fun _ => rfl)) ?_); (try conv => arg 3; simp only [slots, wipeD, List.map, List.length, List.append, List.replicate, List.set_cons_zero, List.set_cons_succ, List.cons_append, List.nil_append, Nat.add_sub_cancel])
  have nW : W ≠ 0 := by rcases h13 with e | e <;> (rw [e]; decide)
  have nb : bo * W ≠ 0 := Int.mul_ne_zero hnb nW
  have bw : Bd 8000 (bo * W) := bd_mono (bd_mul bb bW) (by decide)
  exact pxb_one (pxs_ret (px_call h_lowest (Nat.le_of_ble_eq_true rfl) rfl (pxa_cons (px_add (px_mul (px_ixT (px_ixL (px_var (n := 3) rfl (by first | exact Or.inl rfl | exact Or.inr (Or.inl rfl) | exact Or.inr (Or.inr rfl)) rfl) px_int (by first | assumption | rfl) (fun _ _ => rfl)) px_int (by first | assumption | rfl) (fun _ _ => rfl)) (px_var (n := 11) rfl (by first | exact Or.inl rfl | exact Or.inr (Or.inl rfl) | exact Or.inr (Or.inr rfl)) rfl) (mulW (by repeat first | assumption | exact (by decide : Bd 64 _) | apply bd_mul | apply bd_add | apply bd_sub | apply bd_neg) (by repeat first | assumption | exact (by decide : Bd 64 _) | apply bd_mul | apply bd_add | apply bd_sub | apply bd_neg) (by decide))) (px_var (n := 12) rfl (by first | exact Or.inl rfl | exact Or.inr (Or.inl rfl) | exact Or.inr (Or.inr rfl)) rfl)) (pxa_cons (px_add (px_mul (px_ixT (px_ixL (px_var (n := 3) rfl (by first | exact Or.inl rfl | exact Or.inr (Or.inl rfl) | exact Or.inr (Or.inr rfl)) rfl) px_int (by first | assumption | rfl) (fun _ _ => rfl)) px_int (by first | assumption | rfl) (fun _ _ => rfl)) (px_var (n := 11) rfl (by first | exact Or.inl rfl | exact Or.inr (Or.inl rfl) | exact Or.inr (Or.inr rfl)) rfl) (mulW (by repeat first | assumption | exact (by decide : Bd 64 _) | apply bd_mul | apply bd_add | apply bd_sub | apply bd_neg) (by repeat first | assumption | exact (by decide : Bd 64 _) | apply bd_mul | apply bd_add | apply bd_sub | apply bd_neg) (by decide))) (px_var (n := 13) rfl (by first | exact Or.inl rfl | exact Or.inr (Or.inl rfl) | exact Or.inr (Or.inr rfl)) rfl)) (pxa_cons (px_mul (px_var (n := 11) rfl (by first | exact Or.inl rfl | exact Or.inr (Or.inl rfl) | exact Or.inr (Or.inr rfl)) rfl) (px_var (n := 4) rfl (by first | exact Or.inl rfl | exact Or.inr (Or.inl rfl) | exact Or.inr (Or.inr rfl)) rfl) (mulW (by repeat first | assumption | exact (by decide : Bd 64 _) | apply bd_mul | apply bd_add | apply bd_sub | apply bd_neg) (by repeat first | assumption | exact (by decide : Bd 64 _) | apply bd_mul | apply bd_add | apply bd_sub | apply bd_neg) (by decide))) pxa_nil (fun _ => rfl)) (fun _ => rfl)) (fun _ => rfl)) (r_lowest (by assumption) (by assumption)) rfl (fun _ => rfl) (fun _ => rfl)) (by first | rfl | done))
end
end M
namespace M
open L2 PyProof.Rows PySem.Spec PySem
def R_pairs (ss : List Sl) (s : Sl) : Prop := ∃ n : Nat, n ≤ 40 ∧ ss = [iS n] ∧ s = .p (.list ((pairsV n).map prD))
theorem r_pairs {n : Nat} (h : n ≤ 40) : R_pairs [iS n] (.p (.list ((pairsV n).map prD))) := ⟨n, h, rfl, rfl⟩
def R_triples (ss : List Sl) (s : Sl) : Prop := ∃ n : Nat, n ≤ 40 ∧ ss = [iS n] ∧ s = .p (.list ((triplesV n).map trD))
theorem r_triples {n : Nat} (h : n ≤ 40) : R_triples [iS n] (.p (.list ((triplesV n).map trD))) := ⟨n, h, rfl, rfl⟩
theorem flat_map {α β γ : Type} (f : α → List β) (g : β → γ) (l : List α) : (l.map fun x => (f x).map g).flatten = (l.map f).flatten.map g := by
  rw [List.map_flatten, List.map_map]
  rfl
section
variable {P : Program} {w : World} {K : PySem.W.Frag} {mg : Str → Option Value} {base : Heap}
theorem fn_pairs_in (B : Blt mg) (D : DefAt K mg "pairs_in" s_pairs_in ["many"]) : Fn P w K mg base "pairs_in" R_pairs 1 := by
  -- def pairs_in
  refine fn_at D sc_pairs_in (by rintro _ _ ⟨n, _, rfl, rfl⟩; rfl) ?_
  rintro _ _ ⟨n, hn, rfl, rfl⟩
  refine pxb_one (pxs_ret (s := .p (.list ((pairsV n).map prD))) (px_lc2E (enc := PyData.int) (ts := rgV 0 n) (own := [("i", 1), ("j", 2)]) (vs1 := [2]) (ys := fun i => ((rgV (i + 1) (n - (i + 1)).toNat).map fun j => (i, j)).map prD) sc_pairs_in.nd (src_range1V B.range rfl (px_var (n := 0) rfl (by first | exact Or.inl rfl | exact Or.inr (Or.inl rfl) | exact Or.inr (Or.inr rfl)) rfl) (by omega) (fun _ => rfl)) rfl (by decide) (fun _ _ => rfl) (fun _ _ => rfl) (ownFree_of rfl) (fun i hi => ?_) ?_ ?_) rfl)
  · rw [mem_rgV] at hi
    show ∃ δt ns ds1, Turn0 _ _ _ _ _ _ _ _ _ δt ns ds1 (((rgV (i + 1) (n - (i + 1)).toNat).map fun j => (i, j)).map prD)
    rw [List.map_map]
    exact turn0 (pxg_name (n := 1) sc_pairs_in.nd rfl (by first | exact Or.inl rfl | exact Or.inr rfl) (by first | exact .inl rfl | exact .inr rfl)) (by decide) rfl (src_range2V B.range rfl (px_add (px_var (n := 1) rfl (by first | exact Or.inl rfl | exact Or.inr (Or.inl rfl) | exact Or.inr (Or.inr rfl)) rfl) px_int) (px_var (n := 0) rfl (by first | exact Or.inl rfl | exact Or.inr (Or.inl rfl) | exact Or.inr (Or.inr rfl)) rfl) (by omega) (by omega) (fun _ => rfl) (fun _ => rfl)) fun j hj => ⟨_, _, (pxg_name (n := 2) sc_pairs_in.nd rfl (by first | exact Or.inl rfl | exact Or.inr rfl) (by first | exact .inl rfl | exact .inr rfl)), by decide, (px_tupI (pxi1 (px_var (n := 1) rfl (by first | exact Or.inl rfl | exact Or.inr (Or.inl rfl) | exact Or.inr (Or.inr rfl)) rfl) (pxi1 (px_var (n := 2) rfl (by first | exact Or.inl rfl | exact Or.inr (Or.inl rfl) | exact Or.inr (Or.inr rfl)) rfl) pxi0 (fun _ => rfl)) (fun _ => rfl)))⟩
  · refine Nat.le_trans (sum_le _ _ 40 ?_) (by rw [rgV_length]; omega)
    intro i hi
    rw [mem_rgV] at hi
    rw [List.length_map, List.length_map, rgV_length]
    omega
  · rw [flat_map]; rfl
theorem fn_triples_in (B : Blt mg) (D : DefAt K mg "triples_in" s_triples_in ["many"]) (h_pairs_in : Fn P w K mg base "pairs_in" R_pairs 1) : Fn P w K mg base "triples_in" R_triples 2 := by
  -- def triples_in
  refine fn_at D sc_triples_in (by rintro _ _ ⟨n, _, rfl, rfl⟩; rfl) ?_
  rintro _ _ ⟨n, hn, rfl, rfl⟩
  refine pxb_one (pxs_ret (s := .p (.list ((triplesV n).map trD))) (px_lc2E (enc := prD) (ts := pairsV n) (own := [("i", 1), ("j", 2), ("k", 3)]) (vs1 := [3]) (ys := fun p => ((rgV (p.2 + 1) (n - (p.2 + 1)).toNat).map fun k => (p.1, p.2, k)).map trD) sc_triples_in.nd (src_list (px_call h_pairs_in (Nat.le_of_ble_eq_true rfl) rfl (pxa_cons (px_var (n := 0) rfl (by first | exact Or.inl rfl | exact Or.inr (Or.inl rfl) | exact Or.inr (Or.inr rfl)) rfl) pxa_nil (fun _ => rfl)) (r_pairs (by omega)) rfl (fun _ => rfl) (fun _ => rfl))) rfl (by decide) (fun _ _ => rfl) (fun _ _ => rfl) (ownFree_of rfl) (fun p hi => ?_) ?_ ?_) rfl)
  · rw [mem_pairsV] at hi
    show ∃ δt ns ds1, Turn0 _ _ _ _ _ _ _ _ _ δt ns ds1 (((rgV (p.2 + 1) (n - (p.2 + 1)).toNat).map fun j => (p.1, p.2, j)).map trD)
    rw [List.map_map]
    exact turn0 (pxg_tup (pxgs_cons (pxg_name (n := 1) sc_triples_in.nd rfl (by first | exact Or.inl rfl | exact Or.inr rfl) (by first | exact .inl rfl | exact .inr rfl)) (pxgs_cons (pxg_name (n := 2) sc_triples_in.nd rfl (by first | exact Or.inl rfl | exact Or.inr rfl) (by first | exact .inl rfl | exact .inr rfl)) pxgs_nil (fun _ => rfl)) (fun _ => rfl)) (fun _ => rfl) (fun _ => rfl)) (by decide) rfl (src_range2V B.range rfl (px_add (px_var (n := 2) rfl (by first | exact Or.inl rfl | exact Or.inr (Or.inl rfl) | exact Or.inr (Or.inr rfl)) rfl) px_int) (px_var (n := 0) rfl (by first | exact Or.inl rfl | exact Or.inr (Or.inl rfl) | exact Or.inr (Or.inr rfl)) rfl) (by omega) (by omega) (fun _ => rfl) (fun _ => rfl)) fun j hj => ⟨_, _, (pxg_name (n := 3) sc_triples_in.nd rfl (by first | exact Or.inl rfl | exact Or.inr rfl) (by first | exact .inl rfl | exact .inr rfl)), by decide, (px_tupI (pxi1 (px_var (n := 1) rfl (by first | exact Or.inl rfl | exact Or.inr (Or.inl rfl) | exact Or.inr (Or.inr rfl)) rfl) (pxi1 (px_var (n := 2) rfl (by first | exact Or.inl rfl | exact Or.inr (Or.inl rfl) | exact Or.inr (Or.inr rfl)) rfl) (pxi1 (px_var (n := 3) rfl (by first | exact Or.inl rfl | exact Or.inr (Or.inl rfl) | exact Or.inr (Or.inr rfl)) rfl) pxi0 (fun _ => rfl)) (fun _ => rfl)) (fun _ => rfl)))⟩
  · have := pairsV_length n hn
    refine Nat.le_trans (sum_le _ _ 40 ?_) (by omega)
    intro i hi
    rw [mem_pairsV] at hi
    rw [List.length_map, List.length_map, rgV_length]
    omega
  · rw [flat_map]; rfl
end
end M
namespace M
open L2 PyProof.Rows PySem.Spec PySem
theorem flat_flat {α β γ : Type} (l : List α) (f : α → List β) (g : β → List γ) : ((l.map f).flatten.map g).flatten = (l.map fun a => ((f a).map g).flatten).flatten := by
  induction l with
  | nil => rfl
  | cons a l ih =>
    rw [List.map_cons, List.flatten_cons, List.map_append, List.flatten_append, ih, List.map_cons, List.flatten_cons]
theorem flat_snoc {α β : Type} (l : List α) (a : α) (f : α → List β) : ((l ++ [a]).map f).flatten = (l.map f).flatten ++ f a := by
  rw [List.map_append, List.flatten_append, List.map_singleton, List.flatten_singleton]
theorem flat_take_le {α β : Type} (l : List α) (f : α → List β) (k : Nat) : ((l.take k).map f).flatten.length ≤ (l.map f).flatten.length := by
  have : (l.map f).flatten = ((l.take k).map f).flatten ++ ((l.drop k).map f).flatten := by
    rw [← List.flatten_append, ← List.map_append, List.take_append_drop]
  rw [this, List.length_append]
  omega
/-- the module's constants -/
structure Cst (K : PySem.W.Frag) (mg : Str → Option Value) : Prop where
  large : ∃ t, mg "LARGEST" = some (.int 1000000000000 t)
  mostp : ∃ t, mg "MOST_POINTS" = some (.int 40 t)
  mostd : ∃ t, mg "MOST_DISKS" = some (.int 12 t)
  quarter : ∃ u, mg "QUARTER" = some (.ref u) ∧ ∀ H, SqT K H u ([1, 4].map V.int)
def R_is_in (ss : List Sl) (s : Sl) : Prop := ∃ v l m, l ≤ v ∧ v ≤ m ∧ ss = [iS v, iS l, iS m] ∧ s = bS true
theorem r_is_in {v l m : Int} (h1 : l ≤ v) (h2 : v ≤ m) : R_is_in [iS v, iS l, iS m] (bS true) := ⟨v, l, m, h1, h2, rfl, rfl⟩
structure PtOk (p : P3) : Prop where
  x1 : -1000000000000 ≤ p.1
  x2 : p.1 ≤ 1000000000000
  y1 : -1000000000000 ≤ p.2.1
  y2 : p.2.1 ≤ 1000000000000
  w1 : 1 ≤ p.2.2
  w2 : p.2.2 ≤ 1000000000000
  g : gcdV (gcdV p.1 p.2.1) p.2.2 = 1
def R_is_point (ss : List Sl) (s : Sl) : Prop := ∃ p, PtOk p ∧ ss = [pS p] ∧ s = bS true
theorem r_is_point {p : P3} (h : PtOk p) : R_is_point [pS p] (bS true) := ⟨p, h, rfl, rfl⟩
structure RtOk (r : Rt) : Prop where
  d : 0 < r.2
  g : gcdV r.1 r.2 = 1
  n : 0 ≤ r.1
def R_is_ratio (ss : List Sl) (s : Sl) : Prop := ∃ r, RtOk r ∧ ss = [rS r] ∧ s = bS true
theorem r_is_ratio {r : Rt} (h : RtOk r) : R_is_ratio [rS r] (bS true) := ⟨r, h, rfl, rfl⟩
def R_need_radius (ss : List Sl) (s : Sl) : Prop := ∃ r, RtOk r ∧ ss = [rS r] ∧ s = .p .none
theorem r_need_radius {r : Rt} (h : RtOk r) : R_need_radius [rS r] (.p .none) := ⟨r, h, rfl, rfl⟩
structure PtsOk (ps : List P3) : Prop where
  ok : ∀ p ∈ ps, PtOk p
  l1 : 1 ≤ ps.length
  l2 : ps.length ≤ 40
  nd : ps.Nodup
abbrev psS (ps : List P3) : Sl := .p (.tuple (ps.map ptD))
def R_need_points (ss : List Sl) (s : Sl) : Prop := ∃ ps, PtsOk ps ∧ ss = [psS ps] ∧ s = .p .none
theorem r_need_points {ps : List P3} (h : PtsOk ps) : R_need_points [psS ps] (.p .none) := ⟨ps, h, rfl, rfl⟩
theorem ptAt_get {ps : List P3} {i : Int} (h0 : 0 ≤ i) (h1 : i < ps.length) : ps[i.toNat]? = some (ptAt ps i) := by
  unfold ptAt
  rw [List.getD_eq_getElem?_getD, List.getElem?_eq_getElem (by omega : i.toNat < ps.length), Option.getD_some]
theorem at_pts {ps : List P3} {i : Int} (h0 : 0 ≤ i) (h1 : i < ps.length) : atI (ps.map ptD) i = some (ptD (ptAt ps i)) := by
  unfold atI ixN
  have h2 := ptAt_get h0 h1
  rw [if_pos h0, List.length_map, if_pos (by omega)]
  simp only [Option.bind_some]
  rw [List.getElem?_map, h2]
  rfl
/-- points in list form as ints -/
theorem ptL_inj {p q : P3} (h : ptL p = ptL q) : p = q := by
  obtain ⟨a, b, c⟩ := p
  obtain ⟨d, e, f⟩ := q
  unfold ptL at h
  simp only [List.cons.injEq, and_true] at h
  obtain ⟨rfl, rfl, rfl⟩ := h
  rfl
theorem map_ptL (ps : List P3) : ps.map ptD = (ps.map ptL).map tupI := by rw [List.map_map]; rfl
section
variable {P : Program} {w : World} {K : PySem.W.Frag} {mg : Str → Option Value} {base : Heap}
theorem fn_L_pairs (B : Blt mg) (D : DefAt K mg "_law_pairs" s_L_pairs ["_law_many"]) : Fn P w K mg base "_law_pairs" R_pairs 1 := by
  -- def _law_pairs
  refine fn_at D sc_L_pairs (by rintro _ _ ⟨n, _, rfl, rfl⟩; rfl) ?_
  rintro _ _ ⟨n, hn, rfl, rfl⟩
  (refine pxb_seq (pxs_set (n := 1) sc_L_pairs.nd rfl (by first | exact Or.inl rfl | exact Or.inr rfl) (.inl rfl) (px_lstI pxi0) rfl (fun _ => rfl)) ?_); (try conv => arg 3; simp only [slots, wipeD, List.map, List.length, List.append, List.replicate, List.set_cons_zero, List.set_cons_succ, List.cons_append, List.nil_append, Nat.add_sub_cancel])
  
  refine pxb_cons (nx1 := fun δ' => ∃ o, δ' = [some (iS n), some (.p (.list ((pairsV n).map prD))), o, none]) (pxs_forT (enc := PyData.int) (ts := rgV 0 n) (fun k δ' => ∃ o, δ' = [some (iS n), some (.p (.list (((((rgV 0 n).take k).map fun i => (rgV (i + 1) ((n : Int) - (i + 1)).toNat).map fun j => (i, j)).flatten).map prD))), o, none]) (src_range1V B.range rfl (px_var (n := 0) rfl (by first | exact Or.inl rfl | exact Or.inr (Or.inl rfl) | exact Or.inr (Or.inr rfl)) rfl) (by omega) (fun _ => rfl)) ⟨_, rfl⟩ ?_ ?_ (fun _ _ => rfl)) ?_
  · rintro k i _ hi ⟨o, rfl⟩
    have hm := mem_rgV.mp (List.mem_of_getElem? hi)
    have hl := flat_take_le (rgV 0 n) (fun i => (rgV (i + 1) ((n : Int) - (i + 1)).toNat).map fun j => (i, j)) k
    have hl2 : _ ≤ 1600 := pairsV_length n hn
    unfold pairsV at hl2
    refine ⟨_, _, (pxg_name (n := 2) sc_L_pairs.nd rfl (by first | exact Or.inl rfl | exact Or.inr rfl) (.inl rfl)), ?_⟩
    refine pxb_seq (pxs_set (n := 1) sc_L_pairs.nd rfl (by first | exact Or.inl rfl | exact Or.inr rfl) (.inl rfl) (px_cat (px_var (n := 1) rfl (by first | exact Or.inl rfl | exact Or.inr (Or.inl rfl) | exact Or.inr (Or.inr rfl)) rfl) (px_lcE (out := ((rgV (i + 1) ((n : Int) - (i + 1)).toNat).map fun j => (i, j)).map prD) (enc := PyData.int) (ts := rgV (i + 1) ((n : Int) - (i + 1)).toNat) (cond := fun _ => true) (y := fun j => prD (i, j)) (own := [("_law_j", 3)]) sc_L_pairs.nd (src_range2V B.range rfl (px_add (px_var (n := 2) rfl (by first | exact Or.inl rfl | exact Or.inr (Or.inl rfl) | exact Or.inr (Or.inr rfl)) rfl) px_int) (px_var (n := 0) rfl (by first | exact Or.inl rfl | exact Or.inr (Or.inl rfl) | exact Or.inr (Or.inr rfl)) rfl) (by omega) (by omega) (fun _ => rfl) (fun _ => rfl)) rfl (fun _ _ => rfl) (fun j hj => ?_) ?_ ?_) ?_) rfl (fun _ => rfl)) (pxb_nil ⟨some (iS i), ?_⟩)
    · exact ⟨_, _, ⟨(pxg_name (n := 3) sc_L_pairs.nd rfl (by first | exact Or.inl rfl | exact Or.inr rfl) (by first | exact .inl rfl | exact .inr rfl)), (by decide), pxi_nil, fun hc => (px_tupI (pxi1 (px_var (n := 2) rfl (by first | exact Or.inl rfl | exact Or.inr (Or.inl rfl) | exact Or.inr (Or.inr rfl)) rfl) (pxi1 (px_var (n := 3) rfl (by first | exact Or.inl rfl | exact Or.inr (Or.inl rfl) | exact Or.inr (Or.inr rfl)) rfl) pxi0 (fun _ => rfl)) (fun _ => rfl)))⟩⟩
    · rw [rgV_length]; omega
    · rw [lcOut_true, List.map_map]; rfl
    · simp only [List.length_map, rgV_length] at hl ⊢
      omega
    · rw [take_snoc hi, flat_snoc, List.map_append]
      rfl
  · rintro _ ⟨o, rfl⟩
    rw [rgV_length, List.take_of_length_le (by rw [rgV_length]; omega)]
    exact ⟨o, rfl⟩
  · rintro _ ⟨o, rfl⟩
    exact pxb_one (pxs_ret (px_var (n := 1) rfl (by first | exact Or.inl rfl | exact Or.inr (Or.inl rfl) | exact Or.inr (Or.inr rfl)) rfl) (by first | rfl | done))
def tripF (n : Nat) (i j : Int) : List P3 := (rgV (j + 1) ((n : Int) - (j + 1)).toNat).map fun k => (i, j, k)
def tripG (n : Nat) (i : Int) : List P3 := ((rgV (i + 1) ((n : Int) - (i + 1)).toNat).map fun j => tripF n i j).flatten
theorem triplesV_eq (n : Nat) : triplesV n = ((rgV 0 n).map (tripG n)).flatten := by
  unfold triplesV pairsV
  rw [flat_flat]
  congr 1
  apply List.map_congr_left
  intro i _
  unfold tripG tripF
  rw [List.map_map]
  rfl
theorem fn_L_triples (B : Blt mg) (D : DefAt K mg "_law_triples" s_L_triples ["_law_many"]) : Fn P w K mg base "_law_triples" R_triples 1 := by
  -- def _law_triples
  refine fn_at D sc_L_triples (by rintro _ _ ⟨n, _, rfl, rfl⟩; rfl) ?_
  rintro _ _ ⟨n, hn, rfl, rfl⟩
  have hl3 := triplesV_length n hn
  rw [triplesV_eq] at hl3
  rw [triplesV_eq]
  (refine pxb_seq (pxs_set (n := 1) sc_L_triples.nd rfl (by first | exact Or.inl rfl | exact Or.inr rfl) (.inl rfl) (px_lstI pxi0) rfl (fun _ => rfl)) ?_); (try conv => arg 3; simp only [slots, wipeD, List.map, List.length, List.append, List.replicate, List.set_cons_zero, List.set_cons_succ, List.cons_append, List.nil_append, Nat.add_sub_cancel])
  
  refine pxb_cons (nx1 := fun δ' => ∃ o1 o2, δ' = [some (iS n), some (.p (.list (((rgV 0 n).map (tripG n)).flatten.map trD))), o1, o2, none]) (pxs_forT (enc := PyData.int) (ts := rgV 0 n) (fun k δ' => ∃ o1 o2, δ' = [some (iS n), some (.p (.list ((((rgV 0 n).take k).map (tripG n)).flatten.map trD))), o1, o2, none]) (src_range1V B.range rfl (px_var (n := 0) rfl (by first | exact Or.inl rfl | exact Or.inr (Or.inl rfl) | exact Or.inr (Or.inr rfl)) rfl) (by omega) (fun _ => rfl)) ⟨_, _, rfl⟩ ?_ ?_ (fun _ _ => rfl)) ?_
  · rintro k i _ hi ⟨o1, o2, rfl⟩
    have hm := mem_rgV.mp (List.mem_of_getElem? hi)
    have hl := flat_take_le (rgV 0 n) (tripG n) k
    have hl2 := flat_take_le (rgV 0 n) (tripG n) (k + 1)
    rw [take_snoc hi, flat_snoc, List.length_append] at hl2
    refine ⟨_, _, (pxg_name (n := 2) sc_L_triples.nd rfl (by first | exact Or.inl rfl | exact Or.inr rfl) (.inl rfl)), ?_⟩
    refine pxb_one (pxs_forT (enc := PyData.int) (ts := rgV (i + 1) ((n : Int) - (i + 1)).toNat) (fun m δ' => ∃ o2, δ' = [some (iS n), some (.p (.list (((((rgV 0 n).take k).map (tripG n)).flatten ++ (((rgV (i + 1) ((n : Int) - (i + 1)).toNat).take m).map (tripF n i)).flatten).map trD))), some (iS i), o2, none]) (src_range2V B.range rfl (px_add (px_var (n := 2) rfl (by first | exact Or.inl rfl | exact Or.inr (Or.inl rfl) | exact Or.inr (Or.inr rfl)) rfl) px_int) (px_var (n := 0) rfl (by first | exact Or.inl rfl | exact Or.inr (Or.inl rfl) | exact Or.inr (Or.inr rfl)) rfl) (by omega) (by omega) (fun _ => rfl) (fun _ => rfl)) ⟨o2, by rw [List.take_zero, List.map_nil, List.flatten_nil, List.append_nil]; rfl⟩ ?_ ?_ (fun _ _ => rfl))
    · rintro m j _ hj ⟨o2, rfl⟩
      have hm2 := mem_rgV.mp (List.mem_of_getElem? hj)
      have hk := flat_take_le (rgV (i + 1) ((n : Int) - (i + 1)).toNat) (tripF n i) m
      have hk2 : ((rgV (i + 1) ((n : Int) - (i + 1)).toNat).map (tripF n i)).flatten.length = (tripG n i).length := rfl
      refine ⟨_, _, (pxg_name (n := 3) sc_L_triples.nd rfl (by first | exact Or.inl rfl | exact Or.inr rfl) (.inl rfl)), ?_⟩
      refine pxb_seq (pxs_set (n := 1) sc_L_triples.nd rfl (by first | exact Or.inl rfl | exact Or.inr rfl) (.inl rfl) (px_cat (px_var (n := 1) rfl (by first | exact Or.inl rfl | exact Or.inr (Or.inl rfl) | exact Or.inr (Or.inr rfl)) rfl) (px_lcE (out := (tripF n i j).map trD) (enc := PyData.int) (ts := rgV (j + 1) ((n : Int) - (j + 1)).toNat) (cond := fun _ => true) (y := fun k => trD (i, j, k)) (own := [("_law_c", 4)]) sc_L_triples.nd (src_range2V B.range rfl (px_add (px_var (n := 3) rfl (by first | exact Or.inl rfl | exact Or.inr (Or.inl rfl) | exact Or.inr (Or.inr rfl)) rfl) px_int) (px_var (n := 0) rfl (by first | exact Or.inl rfl | exact Or.inr (Or.inl rfl) | exact Or.inr (Or.inr rfl)) rfl) (by omega) (by omega) (fun _ => rfl) (fun _ => rfl)) rfl (fun _ _ => rfl) (fun j hj => ?_) ?_ ?_) ?_) rfl (fun _ => rfl)) (pxb_nil ⟨some (iS j), ?_⟩)
      · exact ⟨_, _, ⟨(pxg_name (n := 4) sc_L_triples.nd rfl (by first | exact Or.inl rfl | exact Or.inr rfl) (by first | exact .inl rfl | exact .inr rfl)), (by decide), pxi_nil, fun hc => (px_tupI (pxi1 (px_var (n := 2) rfl (by first | exact Or.inl rfl | exact Or.inr (Or.inl rfl) | exact Or.inr (Or.inr rfl)) rfl) (pxi1 (px_var (n := 3) rfl (by first | exact Or.inl rfl | exact Or.inr (Or.inl rfl) | exact Or.inr (Or.inr rfl)) rfl) (pxi1 (px_var (n := 4) rfl (by first | exact Or.inl rfl | exact Or.inr (Or.inl rfl) | exact Or.inr (Or.inr rfl)) rfl) pxi0 (fun _ => rfl)) (fun _ => rfl)) (fun _ => rfl)))⟩⟩
      · rw [rgV_length]; omega
      · rw [lcOut_true]; unfold tripF; rw [List.map_map]; rfl
      · have : (tripF n i j).length ≤ 100 := by unfold tripF; rw [List.length_map, rgV_length]; omega
        simp only [List.length_map, List.length_append] at hl ⊢
        omega
      · rw [take_snoc hj, flat_snoc, ← List.append_assoc, List.map_append (l₂ := tripF n i j)]
        rfl
    · rintro _ ⟨o2, rfl⟩
      rw [List.take_of_length_le (l := rgV (i + 1) ((n : Int) - (i + 1)).toNat) (Nat.le_refl _)]
      refine ⟨some (iS i), o2, ?_⟩
      rw [take_snoc hi, flat_snoc]
      rfl
  · rintro _ ⟨o1, o2, rfl⟩
    rw [rgV_length, List.take_of_length_le (by rw [rgV_length]; omega)]
    exact ⟨o1, o2, rfl⟩
  · rintro _ ⟨o1, o2, rfl⟩
    exact pxb_one (pxs_ret (px_var (n := 1) rfl (by first | exact Or.inl rfl | exact Or.inr (Or.inl rfl) | exact Or.inr (Or.inr rfl)) rfl) (by first | rfl | done))
theorem fn_is_in (B : Blt mg) (D : DefAt K mg "is_in" s_is_in ["value", "least", "most"]) : Fn P w K mg base "is_in" R_is_in 1 := by
  -- def is_in
  refine fn_at D sc_is_in (by rintro _ _ ⟨v, l, m, _, _, rfl, rfl⟩; rfl) ?_
  rintro _ _ ⟨v, l, m, h1, h2, rfl, rfl⟩
  refine pxb_one (pxs_ret (px_and (px_isi B.isi rfl (px_var (n := 0) rfl (by first | exact Or.inl rfl | exact Or.inr (Or.inl rfl) | exact Or.inr (Or.inr rfl)) rfl) (px_cls B.int rfl (by decide +kernel)) (show kitB "int" "int" = some true by decide +kernel) (fun _ => rfl) (fun _ => rfl) (fun _ => rfl)) (fun _ => (px_and (px_not (px_isi B.isi rfl (px_var (n := 0) rfl (by first | exact Or.inl rfl | exact Or.inr (Or.inl rfl) | exact Or.inr (Or.inr rfl)) rfl) (px_cls B.bool rfl (by decide +kernel)) (show kitB "int" "bool" = some false by decide +kernel) (fun _ => rfl) (fun _ => rfl) (fun _ => rfl))) (fun _ => (px_one (px_leLe (px_var (n := 1) rfl (by first | exact Or.inl rfl | exact Or.inr (Or.inl rfl) | exact Or.inr (Or.inr rfl)) rfl) (px_var (n := 0) rfl (by first | exact Or.inl rfl | exact Or.inr (Or.inl rfl) | exact Or.inr (Or.inr rfl)) rfl) (px_var (n := 2) rfl (by first | exact Or.inl rfl | exact Or.inr (Or.inl rfl) | exact Or.inr (Or.inr rfl)) rfl) rfl)))))) ?_)
  rw [decide_eq_true h1, decide_eq_true h2]
  rfl
theorem fn_is_ratio (B : Blt mg) (D : DefAt K mg "is_ratio" s_is_ratio ["value"]) (h_gcd : Fn P w K mg base "gcd" R_gcd 1) : Fn P w K mg base "is_ratio" R_is_ratio 2 := by
  -- def is_ratio
  refine fn_at D sc_is_ratio (by rintro _ _ ⟨r, _, rfl, rfl⟩; rfl) ?_
  rintro _ _ ⟨⟨a, b⟩, ⟨h1, h2, h3⟩, rfl, rfl⟩
  refine pxb_cons (nx1 := fun δ' => δ' = [some (rS (a, b)), none]) (pxs_if (PXW.pt (pxw_or (pxt_not (pxt_val (px_isi B.isi rfl (px_var (n := 0) rfl (by first | exact Or.inl rfl | exact Or.inr (Or.inl rfl) | exact Or.inr (Or.inr rfl)) rfl) (px_cls B.tuple rfl (by decide +kernel)) (show kitB "tuple" "tuple" = some true by decide +kernel) (fun _ => rfl) (fun _ => rfl) (fun _ => rfl)) (fun _ _ => rfl))) (fun _ => (pxw_or1 (pxt_cmp (px_neI (px_lenT B.len rfl (px_var (n := 0) rfl (by first | exact Or.inl rfl | exact Or.inr (Or.inl rfl) | exact Or.inr (Or.inr rfl)) rfl) (fun _ => rfl)) px_int) (nomark _)))))) (fun h => by simp at h) fun h => pxb_nil rfl) ?_
  rintro _ rfl
  refine pxb_cons (nx1 := fun δ' => ∃ o, δ' = [some (rS (a, b)), o]) (pxs_forT (enc := PyData.int) (ts := [a, b]) (fun k δ' => ∃ o, δ' = [some (rS (a, b)), o]) (src_tup (px_var (n := 0) rfl (by first | exact Or.inl rfl | exact Or.inr (Or.inl rfl) | exact Or.inr (Or.inr rfl)) rfl)) ⟨_, rfl⟩ ?_ (fun δ' h => h) (fun _ _ => rfl)) ?_
  · rintro k i _ hi ⟨o, rfl⟩
    refine ⟨_, _, (pxg_name (n := 1) sc_is_ratio.nd rfl (by first | exact Or.inl rfl | exact Or.inr rfl) (.inl rfl)), ?_⟩
    exact pxb_one (pxs_if (PXW.pt (pxw_or (pxt_not (pxt_val (px_isi B.isi rfl (px_var (n := 1) rfl (by first | exact Or.inl rfl | exact Or.inr (Or.inl rfl) | exact Or.inr (Or.inr rfl)) rfl) (px_cls B.int rfl (by decide +kernel)) (show kitB "int" "int" = some true by decide +kernel) (fun _ => rfl) (fun _ => rfl) (fun _ => rfl)) (fun _ _ => rfl))) (fun _ => (pxw_or1 (pxt_val (px_isi B.isi rfl (px_var (n := 1) rfl (by first | exact Or.inl rfl | exact Or.inr (Or.inl rfl) | exact Or.inr (Or.inr rfl)) rfl) (px_cls B.bool rfl (by decide +kernel)) (show kitB "int" "bool" = some false by decide +kernel) (fun _ => rfl) (fun _ => rfl) (fun _ => rfl)) (fun _ _ => rfl)))))) (fun h => by simp at h) fun h => pxb_nil ⟨_, rfl⟩)
  · rintro _ ⟨o, rfl⟩
    refine pxb_one (pxs_ret (px_and (px_cmp (px_gt (px_ixT (px_var (n := 0) rfl (by first | exact Or.inl rfl | exact Or.inr (Or.inl rfl) | exact Or.inr (Or.inr rfl)) rfl) px_int (by first | assumption | rfl) (fun _ _ => rfl)) px_int) (nomark _)) (fun _ => (px_one (px_cmp (px_eqI (px_call h_gcd (Nat.le_of_ble_eq_true rfl) rfl (pxa_cons (px_ixT (px_var (n := 0) rfl (by first | exact Or.inl rfl | exact Or.inr (Or.inl rfl) | exact Or.inr (Or.inr rfl)) rfl) px_int (by first | assumption | rfl) (fun _ _ => rfl)) (pxa_cons (px_ixT (px_var (n := 0) rfl (by first | exact Or.inl rfl | exact Or.inr (Or.inl rfl) | exact Or.inr (Or.inr rfl)) rfl) px_int (by first | assumption | rfl) (fun _ _ => rfl)) pxa_nil (fun _ => rfl)) (fun _ => rfl)) r_gcd rfl (fun _ => rfl) (fun _ => rfl)) px_int) (nomark _))))) ?_)
    dsimp only at h1 h2
    rw [h2, decide_eq_true h1]
    rfl
theorem fn_need_radius (B : Blt mg) (D : DefAt K mg "need_radius" s_need_radius ["r"]) (h_is_ratio : Fn P w K mg base "is_ratio" R_is_ratio 2) : Fn P w K mg base "need_radius" R_need_radius 3 := by
  -- def need_radius
  refine fn_at D sc_need_radius (by rintro _ _ ⟨r, _, rfl, rfl⟩; rfl) ?_
  rintro _ _ ⟨r, h, rfl, rfl⟩
  have h3 := h.n
  refine pxb_one (pxs_if (PXW.pt (pxw_or (pxt_not (pxt_val (px_call h_is_ratio (Nat.le_of_ble_eq_true rfl) rfl (pxa_cons (px_var (n := 0) rfl (by first | exact Or.inl rfl | exact Or.inr (Or.inl rfl) | exact Or.inr (Or.inr rfl)) rfl) pxa_nil (fun _ => rfl)) (r_is_ratio (by assumption)) rfl (fun _ => rfl) (fun _ => rfl)) (fun _ _ => rfl))) (fun _ => (pxw_or1 (pxt_cmp (px_lt (px_ixT (px_var (n := 0) rfl (by first | exact Or.inl rfl | exact Or.inr (Or.inl rfl) | exact Or.inr (Or.inr rfl)) rfl) px_int (by first | assumption | rfl) (fun _ _ => rfl)) px_int) (nomark _)))))) (fun h => ?_) fun h => pxb_nil rfl)
  rw [decide_eq_false (by omega)] at h
  cases h
theorem fn_is_point (B : Blt mg) (C : Cst K mg) (D : DefAt K mg "is_point" s_is_point ["value"]) (h_gcd : Fn P w K mg base "gcd" R_gcd 1) (h_is_in : Fn P w K mg base "is_in" R_is_in 1) : Fn P w K mg base "is_point" R_is_point 2 := by
  -- def is_point
  obtain ⟨tL, hL⟩ := C.large
  refine fn_at D sc_is_point (by rintro _ _ ⟨r, _, rfl, rfl⟩; rfl) ?_
  rintro _ _ ⟨⟨x, y, z⟩, ⟨h1, h2, h3, h4, h5, h6, h7⟩, rfl, rfl⟩
  dsimp only at *
  refine pxb_cons (nx1 := fun δ' => δ' = [some (pS (x, y, z))]) (pxs_if (PXW.pt (pxw_or (pxt_not (pxt_val (px_isi B.isi rfl (px_var (n := 0) rfl (by first | exact Or.inl rfl | exact Or.inr (Or.inl rfl) | exact Or.inr (Or.inr rfl)) rfl) (px_cls B.tuple rfl (by decide +kernel)) (show kitB "tuple" "tuple" = some true by decide +kernel) (fun _ => rfl) (fun _ => rfl) (fun _ => rfl)) (fun _ _ => rfl))) (fun _ => (pxw_or1 (pxt_cmp (px_neI (px_lenT B.len rfl (px_var (n := 0) rfl (by first | exact Or.inl rfl | exact Or.inr (Or.inl rfl) | exact Or.inr (Or.inr rfl)) rfl) (fun _ => rfl)) px_int) (nomark _)))))) (fun h => by simp at h) fun h => pxb_nil rfl) ?_
  rintro _ rfl
  refine pxb_cons (nx1 := fun δ' => δ' = [some (pS (x, y, z))]) (pxs_if (PXW.pt (pxw_or (pxt_not (pxt_val (px_call h_is_in (Nat.le_of_ble_eq_true rfl) rfl (pxa_cons (px_ixT (px_var (n := 0) rfl (by first | exact Or.inl rfl | exact Or.inr (Or.inl rfl) | exact Or.inr (Or.inr rfl)) rfl) px_int (by first | assumption | rfl) (fun _ _ => rfl)) (pxa_cons (px_neg (px_globI rfl hL)) (pxa_cons (px_globI rfl hL) pxa_nil (fun _ => rfl)) (fun _ => rfl)) (fun _ => rfl)) (r_is_in (by assumption) (by assumption)) rfl (fun _ => rfl) (fun _ => rfl)) (fun _ _ => rfl))) (fun _ => (pxw_or1 (pxt_not (pxt_val (px_call h_is_in (Nat.le_of_ble_eq_true rfl) rfl (pxa_cons (px_ixT (px_var (n := 0) rfl (by first | exact Or.inl rfl | exact Or.inr (Or.inl rfl) | exact Or.inr (Or.inr rfl)) rfl) px_int (by first | assumption | rfl) (fun _ _ => rfl)) (pxa_cons (px_neg (px_globI rfl hL)) (pxa_cons (px_globI rfl hL) pxa_nil (fun _ => rfl)) (fun _ => rfl)) (fun _ => rfl)) (r_is_in (by assumption) (by assumption)) rfl (fun _ => rfl) (fun _ => rfl)) (fun _ _ => rfl))))))) (fun h => by simp at h) fun h => pxb_nil rfl) ?_
  rintro _ rfl
  refine pxb_one (pxs_ret (px_and (px_call h_is_in (Nat.le_of_ble_eq_true rfl) rfl (pxa_cons (px_ixT (px_var (n := 0) rfl (by first | exact Or.inl rfl | exact Or.inr (Or.inl rfl) | exact Or.inr (Or.inr rfl)) rfl) px_int (by first | assumption | rfl) (fun _ _ => rfl)) (pxa_cons px_int (pxa_cons (px_globI rfl hL) pxa_nil (fun _ => rfl)) (fun _ => rfl)) (fun _ => rfl)) (r_is_in (by assumption) (by assumption)) rfl (fun _ => rfl) (fun _ => rfl)) (fun _ => (px_one (px_cmp (px_eqI (px_call h_gcd (Nat.le_of_ble_eq_true rfl) rfl (pxa_cons (px_call h_gcd (Nat.le_of_ble_eq_true rfl) rfl (pxa_cons (px_ixT (px_var (n := 0) rfl (by first | exact Or.inl rfl | exact Or.inr (Or.inl rfl) | exact Or.inr (Or.inr rfl)) rfl) px_int (by first | assumption | rfl) (fun _ _ => rfl)) (pxa_cons (px_ixT (px_var (n := 0) rfl (by first | exact Or.inl rfl | exact Or.inr (Or.inl rfl) | exact Or.inr (Or.inr rfl)) rfl) px_int (by first | assumption | rfl) (fun _ _ => rfl)) pxa_nil (fun _ => rfl)) (fun _ => rfl)) r_gcd rfl (fun _ => rfl) (fun _ => rfl)) (pxa_cons (px_ixT (px_var (n := 0) rfl (by first | exact Or.inl rfl | exact Or.inr (Or.inl rfl) | exact Or.inr (Or.inr rfl)) rfl) px_int (by first | assumption | rfl) (fun _ _ => rfl)) pxa_nil (fun _ => rfl)) (fun _ => rfl)) r_gcd rfl (fun _ => rfl) (fun _ => rfl)) px_int) (nomark _))))) ?_)
  rw [h7]
  rfl
theorem fn_need_points (B : Blt mg) (C : Cst K mg) (D : DefAt K mg "need_points" s_need_points ["value"]) (h_is_point : Fn P w K mg base "is_point" R_is_point 2) : Fn P w K mg base "need_points" R_need_points 3 := by
  -- def need_points
  obtain ⟨tP, hMP⟩ := C.mostp
  refine fn_at D sc_need_points (by rintro _ _ ⟨r, _, rfl, rfl⟩; rfl) ?_
  rintro _ _ ⟨ps, ⟨hok, l1, l2, nd⟩, rfl, rfl⟩
  refine pxb_cons (nx1 := fun δ' => δ' = [some (psS ps), none]) (pxs_if (PXW.pt (pxw_or (pxt_not (pxt_val (px_isi B.isi rfl (px_var (n := 0) rfl (by first | exact Or.inl rfl | exact Or.inr (Or.inl rfl) | exact Or.inr (Or.inr rfl)) rfl) (px_cls B.tuple rfl (by decide +kernel)) (show kitB "tuple" "tuple" = some true by decide +kernel) (fun _ => rfl) (fun _ => rfl) (fun _ => rfl)) (fun _ _ => rfl))) (fun _ => (pxw_or1 (pxt_not (pxt_leLe px_int (px_lenT B.len rfl (px_var (n := 0) rfl (by first | exact Or.inl rfl | exact Or.inr (Or.inl rfl) | exact Or.inr (Or.inr rfl)) rfl) (fun _ => rfl)) (px_globI rfl hMP) rfl)))))) (fun h => ?_) fun h => pxb_nil rfl) ?_
  · rw [List.length_map, decide_eq_true (show (1 : Int) ≤ (ps.length : Nat) by omega), decide_eq_true (show ((ps.length : Nat) : Int) ≤ 40 by omega)] at h
    cases h
  rintro _ rfl
  have hlen : (ps.map ptD).length = ps.length := List.length_map _
  refine pxb_one (pxs_forT (enc := PyData.int) (ts := rgV 0 (ps.map ptD).length) (fun k δ' => ∃ o, δ' = [some (psS ps), o]) (src_range1V B.range rfl (px_lenT B.len rfl (px_var (n := 0) rfl (by first | exact Or.inl rfl | exact Or.inr (Or.inl rfl) | exact Or.inr (Or.inr rfl)) rfl) (fun _ => rfl)) (by omega) (fun _ => rfl)) ⟨_, rfl⟩ ?_ (fun _ _ => rfl) (fun _ _ => rfl))
  rintro k i _ hi ⟨o, rfl⟩
  obtain ⟨hk, rfl⟩ := rgV_get hi
  rw [hlen] at hk
  rw [Int.zero_add]
  refine ⟨_, _, (pxg_name (n := 1) sc_need_points.nd rfl (by first | exact Or.inl rfl | exact Or.inr rfl) (.inl rfl)), ?_⟩
  have hat := at_pts (ps := ps) (i := (k : Nat)) (by omega) (by omega)
  have hmem : ptAt ps (k : Nat) ∈ ps := ptAt_mem (by omega) (by omega)
  have hp := hok _ hmem
  have hk2 : k < (ps.map ptD).length := by omega
  refine pxb_one (pxs_if (PXW.pt (pxw_or (pxt_not (pxt_val (px_call h_is_point (Nat.le_of_ble_eq_true rfl) rfl (pxa_cons (px_ixT (px_var (n := 0) rfl (by first | exact Or.inl rfl | exact Or.inr (Or.inl rfl) | exact Or.inr (Or.inr rfl)) rfl) (px_var (n := 1) rfl (by first | exact Or.inl rfl | exact Or.inr (Or.inl rfl) | exact Or.inr (Or.inr rfl)) rfl) (by first | assumption | rfl) (fun _ _ => rfl)) pxa_nil (fun _ => rfl)) (r_is_point (by assumption)) rfl (fun _ => rfl) (fun _ => rfl)) (fun _ _ => rfl))) (fun _ => (pxw_or1 (pxt_cmp (px_inDTE (n := ptL (ptAt ps (k : Nat))) (ts := (ps.take k).map ptL) (px_ixT (px_var (n := 0) rfl (by first | exact Or.inl rfl | exact Or.inr (Or.inl rfl) | exact Or.inr (Or.inr rfl)) rfl) (px_var (n := 1) rfl (by first | exact Or.inl rfl | exact Or.inr (Or.inl rfl) | exact Or.inr (Or.inr rfl)) rfl) (by first | assumption | rfl) (fun _ _ => rfl)) (px_uptoT (px_var (n := 0) rfl (by first | exact Or.inl rfl | exact Or.inr (Or.inl rfl) | exact Or.inr (Or.inr rfl)) rfl) (px_var (n := 1) rfl (by first | exact Or.inl rfl | exact Or.inr (Or.inl rfl) | exact Or.inr (Or.inr rfl)) rfl) (by assumption)) (by rw [← List.map_take, map_ptL])) rfl))))) (fun h => ?_) fun h => pxb_nil ⟨_, rfl⟩)
  have hno : ¬ ptL (ptAt ps (k : Nat)) ∈ (ps.take k).map ptL := by
    intro hm
    obtain ⟨q, hq, e⟩ := List.mem_map.mp hm
    have e := ptL_inj e
    subst e
    obtain ⟨m, hm', hq'⟩ := List.getElem_of_mem hq
    have hmk : m < k := by rw [List.length_take] at hm'; omega
    rw [List.getElem_take] at hq'
    have g1 := ptAt_get (ps := ps) (i := (k : Nat)) (by omega) (by omega)
    rw [Int.toNat_natCast] at g1
    have g2 : ps[m]? = some (ptAt ps (k : Nat)) := by rw [← hq', List.getElem?_eq_getElem]
    have := (List.getElem?_inj (by omega) nd).mp (g2.trans g1.symm)
    omega
  rw [decide_eq_false hno] at h
  simp at h
end
end M
namespace M
open L2 PyProof.Rows PySem.Spec PySem
def R_need_disks (ss : List Sl) (s : Sl) : Prop := ∃ ps, Gen ps ∧ ss = [psS ps] ∧ s = .p .none
theorem r_need_disks {ps : List P3} (h : Gen ps) : R_need_disks [psS ps] (.p .none) := ⟨ps, h, rfl, rfl⟩
def R_triples_of (ss : List Sl) (s : Sl) : Prop := ∃ ps, Gen ps ∧ ss = [psS ps] ∧ s = .p (.list ((trisG sideV ps).map trD))
theorem r_triples_of {ps : List P3} (h : Gen ps) : R_triples_of [psS ps] (.p (.list ((trisG sideV ps).map trD))) := ⟨ps, h, rfl, rfl⟩
def R_born (ss : List Sl) (s : Sl) : Prop := ∃ ps, Gen ps ∧ ss = [psS ps] ∧ s = .t (tbD (bornV ps))
theorem r_born {ps : List P3} (h : Gen ps) : R_born [psS ps] (.t (tbD (bornV ps))) := ⟨ps, h, rfl, rfl⟩
def R_center (ss : List Sl) (s : Sl) : Prop := ∃ a b c, GP a ∧ GP b ∧ GP c ∧ doubledV a b c ≠ 0 ∧ ss = [pS a, pS b, pS c] ∧ s = pS (centerV a b c)
theorem r_center {a b c : P3} (h1 : GP a) (h2 : GP b) (h3 : GP c) (h4 : doubledV a b c ≠ 0) : R_center [pS a, pS b, pS c] (pS (centerV a b c)) := ⟨a, b, c, h1, h2, h3, h4, rfl, rfl⟩
def R_least (ss : List Sl) (s : Sl) : Prop := ∃ vs : List Rt, vs ≠ [] ∧ (∀ v ∈ vs, BR 100000 v) ∧ ss = [.p (.list (vs.map rtD))] ∧ s = rS (leastV vs)
theorem r_least {vs : List Rt} (h : vs ≠ []) (b : ∀ v ∈ vs, BR 100000 v) : R_least [.p (.list (vs.map rtD))] (rS (leastV vs)) := ⟨vs, h, b, rfl, rfl⟩
theorem PtsOk.of {ps : List P3} (g : Gen ps) : PtsOk ps := by
  refine ⟨fun p hp => ?_, g.l1, by have := g.l2; omega, g.nd⟩
  have h := g.gp p hp
  have h1 := h.x
  have h2 := h.y
  have h3 := h.w
  unfold Bd at h1 h2
  have e : (2 : Nat) ^ 20 = 1048576 := by decide

  rw [e] at h1 h2
  exact ⟨by omega, by omega, by omega, by omega, by omega, by omega, g.prim p hp⟩
theorem notin2 {i j k : Int} (h : (!([i, j] : List Int).contains k) = true) : k ≠ i ∧ k ≠ j := by
  rw [Bool.not_eq_true', ← Bool.not_eq_true, List.contains_iff_mem, List.mem_cons, List.mem_singleton, not_or] at h
  exact h
theorem ls3 (n : Int) : Bd 3 (lsignV n) := by
  unfold lsignV
  cases decide (0 < n) <;> cases decide (n < 0) <;> decide
theorem cond_ne {α : Type} {b : Bool} {x y : α} : cond b x y = if b = true then x else y := by cases b <;> rfl
section
variable {P : Program} {w : World} {K : PySem.W.Frag} {mg : Str → Option Value} {base : Heap}
theorem fn_L_in_circle (B : Blt mg) (D : DefAt K mg "_law_in_circle" s_L_in_circle ["_law_a", "_law_b", "_law_c", "_law_d"]) (h_L_sign : Fn P w K mg base "_law_sign" (fun ss s => ∃ n, ss = [iS n] ∧ s = iS (lsignV n)) 1) (h_L_det : Fn P w K mg base "_law_det" (R_p3 minorV) 1) (h_L_turn : Fn P w K mg base "_law_turn" (R_p3w lturnV) 2) : Fn P w K mg base "_law_in_circle" (R_side lcircV) 3 := by
  -- def _law_in_circle
  refine fn_at D sc_L_in_circle (by rintro _ _ ⟨a, b, c, d, _, _, _, _, rfl, rfl⟩; rfl) ?_
  rintro _ _ ⟨a, b, c, d, ha, hb, hc, hd, rfl, rfl⟩
  have pa := ha.bp
  have pb := hb.bp
  have pc := hc.bp
  have na := ha.w0
  (refine pxb_seq (pxs_setN (n := 4) sc_L_in_circle.nd rfl (by first | exact Or.inl rfl | exact Or.inr rfl) (.inl rfl) (pxn_lst (ds := []) pxa_nil) (fun _ => rfl)) ?_); (try conv => arg 3; simp only [slots, wipeD, List.map, List.length, List.append, List.replicate, List.set_cons_zero, List.set_cons_succ, List.cons_append, List.nil_append, Nat.add_sub_cancel])
  refine pxb_cons (nx1 := fun δ' => ∃ o1 o2 o3 o4, δ' = [some (pS a), some (pS b), some (pS c), some (pS d), some (.o (([a, b, c].map (lrowV d)).map ptD)), o1, o2, o3, o4]) (pxs_forT (enc := ptD) (ts := [a, b, c]) (fun k δ' => k ≤ 3 ∧ ∃ o1 o2 o3 o4, δ' = [some (pS a), some (pS b), some (pS c), some (pS d), some (.o ((([a, b, c].take k).map (lrowV d)).map ptD)), o1, o2, o3, o4]) (src_list (px_lstD (pxd_cons (px_var (n := 0) rfl (by first | exact Or.inl rfl | exact Or.inr (Or.inl rfl) | exact Or.inr (Or.inr rfl)) rfl) (pxd_cons (px_var (n := 1) rfl (by first | exact Or.inl rfl | exact Or.inr (Or.inl rfl) | exact Or.inr (Or.inr rfl)) rfl) (pxd_cons (px_var (n := 2) rfl (by first | exact Or.inl rfl | exact Or.inr (Or.inl rfl) | exact Or.inr (Or.inr rfl)) rfl) pxd_nil (fun _ => rfl)) (fun _ => rfl)) (fun _ => rfl)))) ⟨by decide, _, _, _, _, rfl⟩ ?_ ?_ (fun _ _ => rfl)) ?_
  · rintro k p _ hp ⟨hk, o1, o2, o3, o4, rfl⟩
    have hk3 : k + 1 ≤ 3 := (List.getElem?_eq_some_iff.mp hp).1
    have hm := List.mem_of_getElem? hp
    have hg : GP p := by simp only [List.mem_cons, List.not_mem_nil, or_false] at hm; rcases hm with e | e | e <;> (rw [e]; assumption)
    have px := hg.x
    have py := hg.y
    have pw := hg.bw
    have dx := hd.x
    have dy := hd.y
    have dw := hd.bw
    have hlen : ((([a, b, c].take k).map (lrowV d)).map ptD).length < 100000 := by
      rw [List.length_map, List.length_map, List.length_take]; omega
    refine ⟨_, _, (pxg_name (n := 5) sc_L_in_circle.nd rfl (by first | exact Or.inl rfl | exact Or.inr rfl) (.inl rfl)), ?_⟩
    (refine pxb_seq (pxs_par3 (n1 := 6) (n2 := 7) (n3 := 8) sc_L_in_circle.nd rfl rfl rfl (by decide) (by decide) (by decide) rfl rfl rfl (pxa_cons (px_sub (px_mul (px_ixT (px_var (n := 5) rfl (by first | exact Or.inl rfl | exact Or.inr (Or.inl rfl) | exact Or.inr (Or.inr rfl)) rfl) px_int (by first | assumption | rfl) (fun _ _ => rfl)) (px_ixT (px_var (n := 3) rfl (by first | exact Or.inl rfl | exact Or.inr (Or.inl rfl) | exact Or.inr (Or.inr rfl)) rfl) px_int (by first | assumption | rfl) (fun _ _ => rfl)) (mulW (by repeat first | assumption | exact (by decide : Bd 64 _) | apply bd_mul | apply bd_add | apply bd_sub | apply bd_neg) (by repeat first | assumption | exact (by decide : Bd 64 _) | apply bd_mul | apply bd_add | apply bd_sub | apply bd_neg) (by decide))) (px_mul (px_ixT (px_var (n := 3) rfl (by first | exact Or.inl rfl | exact Or.inr (Or.inl rfl) | exact Or.inr (Or.inr rfl)) rfl) px_int (by first | assumption | rfl) (fun _ _ => rfl)) (px_ixT (px_var (n := 5) rfl (by first | exact Or.inl rfl | exact Or.inr (Or.inl rfl) | exact Or.inr (Or.inr rfl)) rfl) px_int (by first | assumption | rfl) (fun _ _ => rfl)) (mulW (by repeat first | assumption | exact (by decide : Bd 64 _) | apply bd_mul | apply bd_add | apply bd_sub | apply bd_neg) (by repeat first | assumption | exact (by decide : Bd 64 _) | apply bd_mul | apply bd_add | apply bd_sub | apply bd_neg) (by decide)))) (pxa_cons (px_sub (px_mul (px_ixT (px_var (n := 5) rfl (by first | exact Or.inl rfl | exact Or.inr (Or.inl rfl) | exact Or.inr (Or.inr rfl)) rfl) px_int (by first | assumption | rfl) (fun _ _ => rfl)) (px_ixT (px_var (n := 3) rfl (by first | exact Or.inl rfl | exact Or.inr (Or.inl rfl) | exact Or.inr (Or.inr rfl)) rfl) px_int (by first | assumption | rfl) (fun _ _ => rfl)) (mulW (by repeat first | assumption | exact (by decide : Bd 64 _) | apply bd_mul | apply bd_add | apply bd_sub | apply bd_neg) (by repeat first | assumption | exact (by decide : Bd 64 _) | apply bd_mul | apply bd_add | apply bd_sub | apply bd_neg) (by decide))) (px_mul (px_ixT (px_var (n := 3) rfl (by first | exact Or.inl rfl | exact Or.inr (Or.inl rfl) | exact Or.inr (Or.inr rfl)) rfl) px_int (by first | assumption | rfl) (fun _ _ => rfl)) (px_ixT (px_var (n := 5) rfl (by first | exact Or.inl rfl | exact Or.inr (Or.inl rfl) | exact Or.inr (Or.inr rfl)) rfl) px_int (by first | assumption | rfl) (fun _ _ => rfl)) (mulW (by repeat first | assumption | exact (by decide : Bd 64 _) | apply bd_mul | apply bd_add | apply bd_sub | apply bd_neg) (by repeat first | assumption | exact (by decide : Bd 64 _) | apply bd_mul | apply bd_add | apply bd_sub | apply bd_neg) (by decide)))) (pxa_cons (px_mul (px_ixT (px_var (n := 5) rfl (by first | exact Or.inl rfl | exact Or.inr (Or.inl rfl) | exact Or.inr (Or.inr rfl)) rfl) px_int (by first | assumption | rfl) (fun _ _ => rfl)) (px_ixT (px_var (n := 3) rfl (by first | exact Or.inl rfl | exact Or.inr (Or.inl rfl) | exact Or.inr (Or.inr rfl)) rfl) px_int (by first | assumption | rfl) (fun _ _ => rfl)) (mulW (by repeat first | assumption | exact (by decide : Bd 64 _) | apply bd_mul | apply bd_add | apply bd_sub | apply bd_neg) (by repeat first | assumption | exact (by decide : Bd 64 _) | apply bd_mul | apply bd_add | apply bd_sub | apply bd_neg) (by decide))) pxa_nil (fun _ => rfl)) (fun _ => rfl)) (fun _ => rfl)) rfl rfl rfl rfl (fun _ => rfl)) ?_); (try conv => arg 3; simp only [slots, wipeD, List.map, List.length, List.append, List.replicate, List.set_cons_zero, List.set_cons_succ, List.cons_append, List.nil_append, Nat.add_sub_cancel])
    refine pxb_one (PXS.weak (pxs_append (n := 4) rfl (by first | exact Or.inl rfl | exact Or.inr (Or.inl rfl) | exact Or.inr (Or.inr rfl)) rfl (px_tupI (pxi1 (px_mul (px_var (n := 6) rfl (by first | exact Or.inl rfl | exact Or.inr (Or.inl rfl) | exact Or.inr (Or.inr rfl)) rfl) (px_var (n := 8) rfl (by first | exact Or.inl rfl | exact Or.inr (Or.inl rfl) | exact Or.inr (Or.inr rfl)) rfl) (mulW (by repeat first | assumption | exact (by decide : Bd 64 _) | apply bd_mul | apply bd_add | apply bd_sub | apply bd_neg) (by repeat first | assumption | exact (by decide : Bd 64 _) | apply bd_mul | apply bd_add | apply bd_sub | apply bd_neg) (by decide))) (pxi1 (px_mul (px_var (n := 7) rfl (by first | exact Or.inl rfl | exact Or.inr (Or.inl rfl) | exact Or.inr (Or.inr rfl)) rfl) (px_var (n := 8) rfl (by first | exact Or.inl rfl | exact Or.inr (Or.inl rfl) | exact Or.inr (Or.inr rfl)) rfl) (mulW (by repeat first | assumption | exact (by decide : Bd 64 _) | apply bd_mul | apply bd_add | apply bd_sub | apply bd_neg) (by repeat first | assumption | exact (by decide : Bd 64 _) | apply bd_mul | apply bd_add | apply bd_sub | apply bd_neg) (by decide))) (pxi1 (px_add (px_mul (px_var (n := 6) rfl (by first | exact Or.inl rfl | exact Or.inr (Or.inl rfl) | exact Or.inr (Or.inr rfl)) rfl) (px_var (n := 6) rfl (by first | exact Or.inl rfl | exact Or.inr (Or.inl rfl) | exact Or.inr (Or.inr rfl)) rfl) (mulW (by repeat first | assumption | exact (by decide : Bd 64 _) | apply bd_mul | apply bd_add | apply bd_sub | apply bd_neg) (by repeat first | assumption | exact (by decide : Bd 64 _) | apply bd_mul | apply bd_add | apply bd_sub | apply bd_neg) (by decide))) (px_mul (px_var (n := 7) rfl (by first | exact Or.inl rfl | exact Or.inr (Or.inl rfl) | exact Or.inr (Or.inr rfl)) rfl) (px_var (n := 7) rfl (by first | exact Or.inl rfl | exact Or.inr (Or.inl rfl) | exact Or.inr (Or.inr rfl)) rfl) (mulW (by repeat first | assumption | exact (by decide : Bd 64 _) | apply bd_mul | apply bd_add | apply bd_sub | apply bd_neg) (by repeat first | assumption | exact (by decide : Bd 64 _) | apply bd_mul | apply bd_add | apply bd_sub | apply bd_neg) (by decide)))) pxi0 (fun _ => rfl)) (fun _ => rfl)) (fun _ => rfl))) (by first | assumption | omega) (fun _ => rfl) (fun _ => rfl) rfl (fun _ => rfl) (fun _ => rfl) (fun _ => rfl)) ?_)
    rintro _ rfl
    refine ⟨hk3, ?_⟩
    rw [take_snoc hp, List.map_append, List.map_append]
    exact ⟨_, _, _, _, rfl⟩
  · rintro _ ⟨_, o1, o2, o3, o4, rfl⟩
    exact ⟨o1, o2, o3, o4, rfl⟩
  · rintro _ ⟨o1, o2, o3, o4, rfl⟩
    have rb : ∀ p, GP p → BP 1000 (lrowV d p) := fun p hg => by
      have x : Bd 30 (p.1 * d.2.2 - d.1 * p.2.2) := bd_mono (bd_sub (bd_mul hg.x hd.bw) (bd_mul hd.x hg.bw)) (by decide)
      have y : Bd 30 (p.2.1 * d.2.2 - d.2.1 * p.2.2) := bd_mono (bd_sub (bd_mul hg.y hd.bw) (bd_mul hd.y hg.bw)) (by decide)
      have w : Bd 30 (p.2.2 * d.2.2) := bd_mono (bd_mul hg.bw hd.bw) (by decide)
      exact ⟨bd_mono (bd_mul x w) (by decide), bd_mono (bd_mul y w) (by decide), bd_mono (bd_add (bd_mul x x) (bd_mul y y)) (by decide)⟩
    have r1 := rb a ha
    have r2 := rb b hb
    have r3 := rb c hc
    refine pxb_freeze (n := 4) (ds := ([a, b, c].map (lrowV d)).map ptD) rfl ?_
    (try conv => arg 3; simp only [slots, wipeD, List.map, List.length, List.append, List.replicate, List.set_cons_zero, List.set_cons_succ, List.cons_append, List.nil_append, Nat.add_sub_cancel])
    
    have s1 : Bd 3 (lsignV (minorV (lrowV d a) (lrowV d b) (lrowV d c))) := by exact ls3 _
    have s2 : Bd 3 (lturnV a b c) := by exact ls3 _
    exact pxb_one (pxs_ret (px_mul (px_call h_L_sign (Nat.le_of_ble_eq_true rfl) rfl (pxa_cons (px_call h_L_det (Nat.le_of_ble_eq_true rfl) rfl (pxa_cons (px_ixL (px_var (n := 4) rfl (by first | exact Or.inl rfl | exact Or.inr (Or.inl rfl) | exact Or.inr (Or.inr rfl)) rfl) px_int (by first | assumption | rfl) (fun _ _ => rfl)) (pxa_cons (px_ixL (px_var (n := 4) rfl (by first | exact Or.inl rfl | exact Or.inr (Or.inl rfl) | exact Or.inr (Or.inr rfl)) rfl) px_int (by first | assumption | rfl) (fun _ _ => rfl)) (pxa_cons (px_ixL (px_var (n := 4) rfl (by first | exact Or.inl rfl | exact Or.inr (Or.inl rfl) | exact Or.inr (Or.inr rfl)) rfl) px_int (by first | assumption | rfl) (fun _ _ => rfl)) pxa_nil (fun _ => rfl)) (fun _ => rfl)) (fun _ => rfl)) (r_p3 (by assumption) (by assumption) (by assumption)) rfl (fun _ => rfl) (fun _ => rfl)) pxa_nil (fun _ => rfl)) ⟨_, rfl, rfl⟩ rfl (fun _ => rfl) (fun _ => rfl)) (px_call h_L_turn (Nat.le_of_ble_eq_true rfl) rfl (pxa_cons (px_var (n := 0) rfl (by first | exact Or.inl rfl | exact Or.inr (Or.inl rfl) | exact Or.inr (Or.inr rfl)) rfl) (pxa_cons (px_var (n := 1) rfl (by first | exact Or.inl rfl | exact Or.inr (Or.inl rfl) | exact Or.inr (Or.inr rfl)) rfl) (pxa_cons (px_var (n := 2) rfl (by first | exact Or.inl rfl | exact Or.inr (Or.inl rfl) | exact Or.inr (Or.inr rfl)) rfl) pxa_nil (fun _ => rfl)) (fun _ => rfl)) (fun _ => rfl)) (r_p3w (by assumption) (by assumption) (by assumption) (by assumption)) rfl (fun _ => rfl) (fun _ => rfl)) (mulW (by repeat first | assumption | exact (by decide : Bd 64 _) | apply bd_mul | apply bd_add | apply bd_sub | apply bd_neg) (by repeat first | assumption | exact (by decide : Bd 64 _) | apply bd_mul | apply bd_add | apply bd_sub | apply bd_neg) (by decide))) (by first | rfl | done))
theorem fn_least_of (B : Blt mg) (D : DefAt K mg "least_of" s_least_of ["values"]) (h_is_below : Fn P w K mg base "is_below" R_below 1) : Fn P w K mg base "least_of" R_least 2 := by
  -- def least_of
  refine fn_at D sc_least_of (by rintro _ _ ⟨vs, _, _, rfl, rfl⟩; rfl) ?_
  rintro _ _ ⟨vs, hne, hb, rfl, rfl⟩
  obtain ⟨v0, vr, rfl⟩ := List.exists_cons_of_ne_nil hne
  have h0 : atI ((v0 :: vr).map rtD) 0 = some (rtD v0) := by
    unfold atI ixN
    rw [if_pos (by omega), if_pos (by simp)]
    rfl
  (refine pxb_seq (pxs_set (n := 1) sc_least_of.nd rfl (by first | exact Or.inl rfl | exact Or.inr rfl) (.inl rfl) (px_ixL (px_var (n := 0) rfl (by first | exact Or.inl rfl | exact Or.inr (Or.inl rfl) | exact Or.inr (Or.inr rfl)) rfl) px_int (by first | assumption | rfl) (fun _ _ => rfl)) rfl (fun _ => rfl)) ?_); (try conv => arg 3; simp only [slots, wipeD, List.map, List.length, List.append, List.replicate, List.set_cons_zero, List.set_cons_succ, List.cons_append, List.nil_append, Nat.add_sub_cancel])
  refine pxb_cons (nx1 := fun δ' => ∃ o1, δ' = [some (.p (.list ((v0 :: vr).map rtD))), some (rS (leastV (v0 :: vr))), o1]) (pxs_forT (enc := rtD) (ts := v0 :: vr) (fun k δ' => ∃ b o1, BR 100000 b ∧ b = (((v0 :: vr).take k).foldl (fun best v => cond (belowV v best) v best) v0) ∧ δ' = [some (.p (.list ((v0 :: vr).map rtD))), some (rS b), o1]) (src_list (px_var (n := 0) rfl (by first | exact Or.inl rfl | exact Or.inr (Or.inl rfl) | exact Or.inr (Or.inr rfl)) rfl)) ⟨v0, _, hb v0 List.mem_cons_self, rfl, rfl⟩ ?_ ?_ (fun _ _ => rfl)) ?_
  · rintro k v _ hv ⟨b, o1, bb, eb, rfl⟩
    have hv2 := hb v (List.mem_of_getElem? hv)
    refine ⟨_, _, (pxg_name (n := 2) sc_least_of.nd rfl (by first | exact Or.inl rfl | exact Or.inr rfl) (.inl rfl)), ?_⟩
    
    refine pxb_one (PXS.weak (pxs_set (n := 1) sc_least_of.nd rfl (by first | exact Or.inl rfl | exact Or.inr rfl) (.inl rfl) (px_ifD (d1 := rtD v) (d2 := rtD b) (pxt_val (px_call h_is_below (Nat.le_of_ble_eq_true rfl) rfl (pxa_cons (px_var (n := 2) rfl (by first | exact Or.inl rfl | exact Or.inr (Or.inl rfl) | exact Or.inr (Or.inr rfl)) rfl) (pxa_cons (px_var (n := 1) rfl (by first | exact Or.inl rfl | exact Or.inr (Or.inl rfl) | exact Or.inr (Or.inr rfl)) rfl) pxa_nil (fun _ => rfl)) (fun _ => rfl)) (r_below (by assumption) (by assumption)) rfl (fun _ => rfl) (fun _ => rfl)) (fun _ _ => rfl)) (fun _ => (px_var (n := 2) rfl (by first | exact Or.inl rfl | exact Or.inr (Or.inl rfl) | exact Or.inr (Or.inr rfl)) rfl)) (fun _ => (px_var (n := 1) rfl (by first | exact Or.inl rfl | exact Or.inr (Or.inl rfl) | exact Or.inr (Or.inr rfl)) rfl))) rfl (fun _ => rfl)) ?_)
    rintro _ rfl
    refine ⟨cond (belowV v b) v b, some (rS v), by cases belowV v b <;> assumption, ?_, ?_⟩
    · rw [take_snoc hv, List.foldl_append, ← eb]
      rfl
    · cases belowV v b <;> rfl
  · rintro _ ⟨b, o1, bb, eb, rfl⟩
    rw [List.take_of_length_le (Nat.le_refl _)] at eb
    subst eb
    exact ⟨o1, rfl⟩
  · rintro _ ⟨o1, rfl⟩
    exact pxb_one (pxs_ret (px_var (n := 1) rfl (by first | exact Or.inl rfl | exact Or.inr (Or.inl rfl) | exact Or.inr (Or.inr rfl)) rfl) (by first | rfl | done))
theorem fn_need_disks (B : Blt mg) (C : Cst K mg) (D : DefAt K mg "need_disks" s_need_disks ["points"]) (h_need_points : Fn P w K mg base "need_points" R_need_points 3) (h_triples_in : Fn P w K mg base "triples_in" R_triples 2) (h_pairs_in : Fn P w K mg base "pairs_in" R_pairs 1) (h_turn_of : Fn P w K mg base "turn_of" (R_p3 turnV) 2) (h_in_diameter : Fn P w K mg base "in_diameter" (R_p3 inDiamV) 1) (h_side_of : Fn P w K mg base "side_of" (R_side sideV) 4) : Fn P w K mg base "need_disks" R_need_disks 5 := by
  -- def need_disks
  obtain ⟨tD, hMD⟩ := C.mostd
  refine fn_at D sc_need_disks (by rintro _ _ ⟨r, _, rfl, rfl⟩; rfl) ?_
  rintro _ _ ⟨ps, g, rfl, rfl⟩
  have l2 := g.l2
  have hok := PtsOk.of g
  have gg : ∀ i : Int, 0 ≤ i → i < ps.length → GP (ptAt ps i) := fun i h0 h1 => g.gp _ (ptAt_mem h0 h1)
  refine pxb_seq (pxs_expr (px_call h_need_points (Nat.le_of_ble_eq_true rfl) rfl (pxa_cons (px_var (n := 0) rfl (by first | exact Or.inl rfl | exact Or.inr (Or.inl rfl) | exact Or.inr (Or.inr rfl)) rfl) pxa_nil (fun _ => rfl)) (r_need_points (by assumption)) rfl (fun _ => rfl) (fun _ => rfl)) (fun _ => rfl)) ?_
  (refine pxb_seq (pxs_set (n := 1) sc_need_disks.nd rfl (by first | exact Or.inl rfl | exact Or.inr rfl) (.inl rfl) (px_lenT B.len rfl (px_var (n := 0) rfl (by first | exact Or.inl rfl | exact Or.inr (Or.inl rfl) | exact Or.inr (Or.inr rfl)) rfl) (fun _ => rfl)) rfl (fun _ => rfl)) ?_); (try conv => arg 3; simp only [slots, wipeD, List.map, List.length, List.append, List.replicate, List.set_cons_zero, List.set_cons_succ, List.cons_append, List.nil_append, Nat.add_sub_cancel])
  rw [List.length_map]
  refine pxb_cons (nx1 := fun δ' => δ' = [some (psS ps), some (iS ps.length), none, none, none, none]) (pxs_if (pxt_cmp (px_gt (px_var (n := 1) rfl (by first | exact Or.inl rfl | exact Or.inr (Or.inl rfl) | exact Or.inr (Or.inr rfl)) rfl) (px_globI rfl hMD)) (nomark _)) (fun h => ?_) fun h => pxb_nil rfl) ?_
  · rw [decide_eq_false (by omega)] at h
    cases h
  rintro _ rfl
  refine pxb_cons (nx1 := fun δ' => ∃ o1 o2 o3, δ' = [some (psS ps), some (iS ps.length), o1, o2, o3, none]) (pxs_forT (enc := trD) (ts := triplesV ps.length) (fun k δ' => ∃ o1 o2 o3, δ' = [some (psS ps), some (iS ps.length), o1, o2, o3, none]) (src_list (px_call h_triples_in (Nat.le_of_ble_eq_true rfl) rfl (pxa_cons (px_var (n := 1) rfl (by first | exact Or.inl rfl | exact Or.inr (Or.inl rfl) | exact Or.inr (Or.inr rfl)) rfl) pxa_nil (fun _ => rfl)) (r_triples (by omega)) rfl (fun _ => rfl) (fun _ => rfl))) ⟨_, _, _, rfl⟩ ?_ (fun _ h => h) (fun _ _ => rfl)) ?_
  · rintro m ⟨i, j, k⟩ _ ht ⟨o1, o2, o3, rfl⟩
    have hm := mem_triplesV.mp (List.mem_of_getElem? ht)
    dsimp only at hm
    have a1 := at_pts (ps := ps) (i := i) (by omega) (by omega)
    have a2 := at_pts (ps := ps) (i := j) (by omega) (by omega)
    have a3 := at_pts (ps := ps) (i := k) (by omega) (by omega)
    have b1 := (gg i (by omega) (by omega)).bp
    have b2 := (gg j (by omega) (by omega)).bp
    have b3 := (gg k (by omega) (by omega)).bp
    refine ⟨_, _, (pxg_tup (pxgs_cons (pxg_name (n := 2) sc_need_disks.nd rfl (by first | exact Or.inl rfl | exact Or.inr rfl) (.inl rfl)) (pxgs_cons (pxg_name (n := 3) sc_need_disks.nd rfl (by first | exact Or.inl rfl | exact Or.inr rfl) (.inl rfl)) (pxgs_cons (pxg_name (n := 4) sc_need_disks.nd rfl (by first | exact Or.inl rfl | exact Or.inr rfl) (.inl rfl)) pxgs_nil (fun _ => rfl)) (fun _ => rfl)) (fun _ => rfl)) (fun _ => rfl) (fun _ => rfl)), ?_⟩
    refine pxb_one (pxs_if (pxt_cmp (px_eqI (px_call h_turn_of (Nat.le_of_ble_eq_true rfl) rfl (pxa_cons (px_ixT (px_var (n := 0) rfl (by first | exact Or.inl rfl | exact Or.inr (Or.inl rfl) | exact Or.inr (Or.inr rfl)) rfl) (px_var (n := 2) rfl (by first | exact Or.inl rfl | exact Or.inr (Or.inl rfl) | exact Or.inr (Or.inr rfl)) rfl) (by first | assumption | rfl) (fun _ _ => rfl)) (pxa_cons (px_ixT (px_var (n := 0) rfl (by first | exact Or.inl rfl | exact Or.inr (Or.inl rfl) | exact Or.inr (Or.inr rfl)) rfl) (px_var (n := 3) rfl (by first | exact Or.inl rfl | exact Or.inr (Or.inl rfl) | exact Or.inr (Or.inr rfl)) rfl) (by first | assumption | rfl) (fun _ _ => rfl)) (pxa_cons (px_ixT (px_var (n := 0) rfl (by first | exact Or.inl rfl | exact Or.inr (Or.inl rfl) | exact Or.inr (Or.inr rfl)) rfl) (px_var (n := 4) rfl (by first | exact Or.inl rfl | exact Or.inr (Or.inl rfl) | exact Or.inr (Or.inr rfl)) rfl) (by first | assumption | rfl) (fun _ _ => rfl)) pxa_nil (fun _ => rfl)) (fun _ => rfl)) (fun _ => rfl)) (r_p3 (by assumption) (by assumption) (by assumption)) rfl (fun _ => rfl) (fun _ => rfl)) px_int) (nomark _)) (fun h => ?_) fun h => pxb_nil ⟨_, _, _, rfl⟩)
    rw [decide_eq_false (g.turn i j k (by omega) (by omega) (by omega) (by omega))] at h
    cases h
  rintro _ ⟨o1, o2, o3, rfl⟩
  refine pxb_cons (nx1 := fun δ' => ∃ o1 o2 o3, δ' = [some (psS ps), some (iS ps.length), o1, o2, o3, none]) (pxs_forT (enc := prD) (ts := pairsV ps.length) (fun k δ' => ∃ o1 o2 o3, δ' = [some (psS ps), some (iS ps.length), o1, o2, o3, none]) (src_list (px_call h_pairs_in (Nat.le_of_ble_eq_true rfl) rfl (pxa_cons (px_var (n := 1) rfl (by first | exact Or.inl rfl | exact Or.inr (Or.inl rfl) | exact Or.inr (Or.inr rfl)) rfl) pxa_nil (fun _ => rfl)) (r_pairs (by omega)) rfl (fun _ => rfl) (fun _ => rfl))) ⟨_, _, _, rfl⟩ ?_ (fun _ h => h) (fun _ _ => rfl)) ?_
  · rintro m ⟨i, j⟩ _ ht ⟨o1, o2, o3, rfl⟩
    have hm := mem_pairsV.mp (List.mem_of_getElem? ht)
    dsimp only at hm
    have a1 := at_pts (ps := ps) (i := i) (by omega) (by omega)
    have a2 := at_pts (ps := ps) (i := j) (by omega) (by omega)
    have b1 := (gg i (by omega) (by omega)).bp
    have b2 := (gg j (by omega) (by omega)).bp
    refine ⟨_, _, (pxg_tup (pxgs_cons (pxg_name (n := 2) sc_need_disks.nd rfl (by first | exact Or.inl rfl | exact Or.inr rfl) (.inl rfl)) (pxgs_cons (pxg_name (n := 3) sc_need_disks.nd rfl (by first | exact Or.inl rfl | exact Or.inr rfl) (.inl rfl)) pxgs_nil (fun _ => rfl)) (fun _ => rfl)) (fun _ => rfl) (fun _ => rfl)), ?_⟩
    refine pxb_one (pxs_forT (enc := PyData.int) (ts := rgV 0 ps.length) (fun m δ' => ∃ o3, δ' = [some (psS ps), some (iS ps.length), some (iS i), some (iS j), o3, none]) (src_range1V B.range rfl (px_var (n := 1) rfl (by first | exact Or.inl rfl | exact Or.inr (Or.inl rfl) | exact Or.inr (Or.inr rfl)) rfl) (by omega) (fun _ => rfl)) ⟨_, rfl⟩ ?_ (fun _ ⟨_, h⟩ => ⟨_, _, _, h⟩) (fun _ _ => rfl))
    rintro _ k _ hk ⟨o3, rfl⟩
    have hk := mem_rgV.mp (List.mem_of_getElem? hk)
    have a3 := at_pts (ps := ps) (i := k) (by omega) (by omega)
    have b3 := (gg k (by omega) (by omega)).bp
    refine ⟨_, _, (pxg_name (n := 4) sc_need_disks.nd rfl (by first | exact Or.inl rfl | exact Or.inr rfl) (.inl rfl)), ?_⟩
    refine pxb_one (pxs_if (PXW.pt (pxw_and (pxt_cmp (px_niT (px_var (n := 4) rfl (by first | exact Or.inl rfl | exact Or.inr (Or.inl rfl) | exact Or.inr (Or.inr rfl)) rfl) (px_tupI (pxi1 (px_var (n := 2) rfl (by first | exact Or.inl rfl | exact Or.inr (Or.inl rfl) | exact Or.inr (Or.inr rfl)) rfl) (pxi1 (px_var (n := 3) rfl (by first | exact Or.inl rfl | exact Or.inr (Or.inl rfl) | exact Or.inr (Or.inr rfl)) rfl) pxi0 (fun _ => rfl)) (fun _ => rfl)))) rfl) (fun _ => (pxw_and1 (pxt_cmp (px_eqI (px_call h_in_diameter (Nat.le_of_ble_eq_true rfl) rfl (pxa_cons (px_ixT (px_var (n := 0) rfl (by first | exact Or.inl rfl | exact Or.inr (Or.inl rfl) | exact Or.inr (Or.inr rfl)) rfl) (px_var (n := 2) rfl (by first | exact Or.inl rfl | exact Or.inr (Or.inl rfl) | exact Or.inr (Or.inr rfl)) rfl) (by first | assumption | rfl) (fun _ _ => rfl)) (pxa_cons (px_ixT (px_var (n := 0) rfl (by first | exact Or.inl rfl | exact Or.inr (Or.inl rfl) | exact Or.inr (Or.inr rfl)) rfl) (px_var (n := 3) rfl (by first | exact Or.inl rfl | exact Or.inr (Or.inl rfl) | exact Or.inr (Or.inr rfl)) rfl) (by first | assumption | rfl) (fun _ _ => rfl)) (pxa_cons (px_ixT (px_var (n := 0) rfl (by first | exact Or.inl rfl | exact Or.inr (Or.inl rfl) | exact Or.inr (Or.inr rfl)) rfl) (px_var (n := 4) rfl (by first | exact Or.inl rfl | exact Or.inr (Or.inl rfl) | exact Or.inr (Or.inr rfl)) rfl) (by first | assumption | rfl) (fun _ _ => rfl)) pxa_nil (fun _ => rfl)) (fun _ => rfl)) (fun _ => rfl)) (r_p3 (by assumption) (by assumption) (by assumption)) rfl (fun _ => rfl) (fun _ => rfl)) px_int) (nomark _)))))) (fun h => ?_) fun h => pxb_nil ⟨_, rfl⟩)
    rw [Bool.and_eq_true] at h
    obtain ⟨h1, h2⟩ := h
    have h3 : k ≠ i ∧ k ≠ j := notin2 h1
    exact absurd (of_decide_eq_true h2) (g.diam i j k (by omega) (by omega) (by omega) (by omega) (by omega) h3.1 h3.2)
  rintro _ ⟨o1, o2, o3, rfl⟩
  refine pxb_one (pxs_forT (enc := trD) (ts := triplesV ps.length) (fun k δ' => ∃ o1 o2 o3 o4, δ' = [some (psS ps), some (iS ps.length), o1, o2, o3, o4]) (src_list (px_call h_triples_in (Nat.le_of_ble_eq_true rfl) rfl (pxa_cons (px_var (n := 1) rfl (by first | exact Or.inl rfl | exact Or.inr (Or.inl rfl) | exact Or.inr (Or.inr rfl)) rfl) pxa_nil (fun _ => rfl)) (r_triples (by omega)) rfl (fun _ => rfl) (fun _ => rfl))) ⟨_, _, _, _, rfl⟩ ?_ (fun _ _ => rfl) (fun _ _ => rfl))
  rintro m ⟨i, j, k⟩ _ ht ⟨o1, o2, o3, o4, rfl⟩
  have hm := mem_triplesV.mp (List.mem_of_getElem? ht)
  dsimp only at hm
  have a1 := at_pts (ps := ps) (i := i) (by omega) (by omega)
  have a2 := at_pts (ps := ps) (i := j) (by omega) (by omega)
  have a3 := at_pts (ps := ps) (i := k) (by omega) (by omega)
  have b1 := gg i (by omega) (by omega)
  have b2 := gg j (by omega) (by omega)
  have b3 := gg k (by omega) (by omega)
  refine ⟨_, _, (pxg_tup (pxgs_cons (pxg_name (n := 2) sc_need_disks.nd rfl (by first | exact Or.inl rfl | exact Or.inr rfl) (.inl rfl)) (pxgs_cons (pxg_name (n := 3) sc_need_disks.nd rfl (by first | exact Or.inl rfl | exact Or.inr rfl) (.inl rfl)) (pxgs_cons (pxg_name (n := 4) sc_need_disks.nd rfl (by first | exact Or.inl rfl | exact Or.inr rfl) (.inl rfl)) pxgs_nil (fun _ => rfl)) (fun _ => rfl)) (fun _ => rfl)) (fun _ => rfl) (fun _ => rfl)), ?_⟩
  refine pxb_one (pxs_forT (enc := PyData.int) (ts := rgV (k + 1) ((ps.length : Int) - (k + 1)).toNat) (fun m δ' => ∃ o4, δ' = [some (psS ps), some (iS ps.length), some (iS i), some (iS j), some (iS k), o4]) (src_range2V B.range rfl (px_add (px_var (n := 4) rfl (by first | exact Or.inl rfl | exact Or.inr (Or.inl rfl) | exact Or.inr (Or.inr rfl)) rfl) px_int) (px_var (n := 1) rfl (by first | exact Or.inl rfl | exact Or.inr (Or.inl rfl) | exact Or.inr (Or.inr rfl)) rfl) (by omega) (by omega) (fun _ => rfl) (fun _ => rfl)) ⟨_, rfl⟩ ?_ (fun _ ⟨_, h⟩ => ⟨_, _, _, _, h⟩) (fun _ _ => rfl))
  rintro _ m _ hk ⟨o4, rfl⟩
  have hk := mem_rgV.mp (List.mem_of_getElem? hk)
  have a4 := at_pts (ps := ps) (i := m) (by omega) (by omega)
  have b4 := gg m (by omega) (by omega)
  refine ⟨_, _, (pxg_name (n := 5) sc_need_disks.nd rfl (by first | exact Or.inl rfl | exact Or.inr rfl) (.inl rfl)), ?_⟩
  refine pxb_one (pxs_if (pxt_cmp (px_eqI (px_call h_side_of (Nat.le_of_ble_eq_true rfl) rfl (pxa_cons (px_ixT (px_var (n := 0) rfl (by first | exact Or.inl rfl | exact Or.inr (Or.inl rfl) | exact Or.inr (Or.inr rfl)) rfl) (px_var (n := 2) rfl (by first | exact Or.inl rfl | exact Or.inr (Or.inl rfl) | exact Or.inr (Or.inr rfl)) rfl) (by first | assumption | rfl) (fun _ _ => rfl)) (pxa_cons (px_ixT (px_var (n := 0) rfl (by first | exact Or.inl rfl | exact Or.inr (Or.inl rfl) | exact Or.inr (Or.inr rfl)) rfl) (px_var (n := 3) rfl (by first | exact Or.inl rfl | exact Or.inr (Or.inl rfl) | exact Or.inr (Or.inr rfl)) rfl) (by first | assumption | rfl) (fun _ _ => rfl)) (pxa_cons (px_ixT (px_var (n := 0) rfl (by first | exact Or.inl rfl | exact Or.inr (Or.inl rfl) | exact Or.inr (Or.inr rfl)) rfl) (px_var (n := 4) rfl (by first | exact Or.inl rfl | exact Or.inr (Or.inl rfl) | exact Or.inr (Or.inr rfl)) rfl) (by first | assumption | rfl) (fun _ _ => rfl)) (pxa_cons (px_ixT (px_var (n := 0) rfl (by first | exact Or.inl rfl | exact Or.inr (Or.inl rfl) | exact Or.inr (Or.inr rfl)) rfl) (px_var (n := 5) rfl (by first | exact Or.inl rfl | exact Or.inr (Or.inl rfl) | exact Or.inr (Or.inr rfl)) rfl) (by first | assumption | rfl) (fun _ _ => rfl)) pxa_nil (fun _ => rfl)) (fun _ => rfl)) (fun _ => rfl)) (fun _ => rfl)) (r_side (by assumption) (by assumption) (by assumption) (by assumption)) rfl (fun _ => rfl) (fun _ => rfl)) px_int) (nomark _)) (fun h => ?_) fun h => pxb_nil ⟨_, rfl⟩)
  rw [decide_eq_false (g.side i j k m (by omega) (by omega) (by omega) (by omega) (by omega))] at h
  cases h
end
end M
namespace M
open L2 PyProof.Rows PySem.Spec PySem
theorem shaped_pts (ps : List P3) : SeqAt.shaped (.list (ps.map ptD)) = true := by rw [map_ptL]; exact shaped_tups _
theorem isEmpty_map {α β : Type} (f : α → β) (l : List α) : (l.map f).isEmpty = l.isEmpty := by cases l <;> rfl
theorem filter_snoc {α : Type} (l : List α) (a : α) (f : α → Bool) : (l ++ [a]).filter f = l.filter f ++ (if f a = true then [a] else []) := by
  rw [List.filter_append]
  congr 1
  by_cases h : f a = true
  · rw [if_pos h, List.filter_cons_of_pos h, List.filter_nil]
  · rw [if_neg h, List.filter_cons_of_neg h, List.filter_nil]
theorem lcOut_eq {α β : Type} (cond : α → Bool) (g : α → β) (e : β → PyData) (ts : List α) : lcOut cond (fun t => e (g t)) ts = ((ts.filter cond).map g).map e := by
  unfold lcOut
  rw [List.map_map]
  rfl
theorem doubled_ne {a b c : P3} (h : turnV a b c ≠ 0) : doubledV a b c ≠ 0 := by
  intro e
  apply h
  unfold turnV
  rw [e]
  decide
/-! ### sizes of ratios -/
theorem fdiv_bd {n : Nat} {x c : Int} (h : Bd n x) (d : c ∣ x) : Bd n (x.fdiv c) := by
  rw [Int.fdiv_eq_ediv_of_dvd d]
  exact bd_div h
theorem comV_dvd (n d : Int) : comV n d ∣ n ∧ comV n d ∣ d := by
  have h1 : (Int.gcd n d : Int) ∣ n := Int.gcd_dvd_left ..
  have h2 : (Int.gcd n d : Int) ∣ d := Int.gcd_dvd_right ..
  unfold comV gcdV
  split
  · exact ⟨Int.neg_dvd.mpr h1, Int.neg_dvd.mpr h2⟩
  · exact ⟨h1, h2⟩
theorem redV_bd {k m : Nat} {n d : Int} (h1 : Bd k n) (h2 : Bd m d) : BR (max k m) (redV n d) := by
  obtain ⟨d1, d2⟩ := comV_dvd n d
  exact ⟨bd_mono (fdiv_bd h1 d1) (Nat.le_max_left _ _), bd_mono (fdiv_bd h2 d2) (Nat.le_max_right _ _)⟩
theorem fdiv_ne {x c : Int} (d : c ∣ x) (h : x ≠ 0) : x.fdiv c ≠ 0 := by
  intro e
  rw [Int.fdiv_eq_ediv_of_dvd d] at e
  apply h
  rw [← Int.mul_ediv_cancel' d, e, Int.mul_zero]
theorem fdiv_pos' {x c : Int} (d : c ∣ x) (h : x ≠ 0) (hs : 0 < x ↔ 0 < c) : 0 < x.fdiv c := by
  rw [Int.fdiv_eq_ediv_of_dvd d]
  obtain ⟨k, rfl⟩ := d
  have hc : c ≠ 0 := by rintro rfl; simp at h
  have hk : k ≠ 0 := by rintro rfl; simp at h
  rw [Int.mul_ediv_cancel_left _ hc]
  rcases Int.lt_or_gt_of_ne hc with c0 | c0
  · rcases Int.lt_or_gt_of_ne hk with k0 | k0
    · have := Int.mul_pos_of_neg_of_neg c0 k0
      omega
    · exact k0
  · have h2 := hs.mpr c0
    rcases Int.lt_or_gt_of_ne hk with k0 | k0
    · have := Int.mul_neg_of_pos_of_neg c0 k0
      omega
    · exact k0
theorem comV_sign {n d : Int} (h : d ≠ 0) : 0 < d ↔ 0 < comV n d := by
  have h1 : gcdV n d ≠ 0 := (gcd_le_right (n := n) (k := d.natAbs + 1) h (by unfold Bd; exact Nat.lt_of_lt_of_le (Nat.lt_succ_self _) (Nat.le_of_lt Nat.lt_two_pow_self))).2
  have h2 : 0 ≤ gcdV n d := by unfold gcdV; omega
  unfold comV
  split <;> omega
theorem redV_pos {n d : Int} (h : d ≠ 0) : 0 < (redV n d).2 := fdiv_pos' (comV_dvd n d).2 h (comV_sign h)
theorem com3_dvd (x y w : Int) : com3 x y w ∣ x ∧ com3 x y w ∣ y ∧ com3 x y w ∣ w := by
  have h1 : (Int.gcd x y : Int) ∣ x := Int.gcd_dvd_left ..
  have h2 : (Int.gcd x y : Int) ∣ y := Int.gcd_dvd_right ..
  have h3 : (Int.gcd (gcdV x y) w : Int) ∣ gcdV x y := Int.gcd_dvd_left ..
  have h4 : (Int.gcd (gcdV x y) w : Int) ∣ w := Int.gcd_dvd_right ..
  have h5 := Int.dvd_trans h3 h1
  have h6 := Int.dvd_trans h3 h2
  unfold com3 gcdV at *
  split
  · exact ⟨Int.neg_dvd.mpr h5, Int.neg_dvd.mpr h6, Int.neg_dvd.mpr h4⟩
  · exact ⟨h5, h6, h4⟩
theorem lowest_bp {n : Nat} {x y w : Int} (h1 : Bd n x) (h2 : Bd n y) (h3 : Bd n w) : BP n (lowestV x y w) := by
  obtain ⟨d1, d2, d3⟩ := com3_dvd x y w
  exact ⟨fdiv_bd h1 d1, fdiv_bd h2 d2, fdiv_bd h3 d3⟩
theorem lowest_ne {x y w : Int} (h : w ≠ 0) : (lowestV x y w).2.2 ≠ 0 := fdiv_ne (com3_dvd x y w).2.2 h
theorem far2_bd {n : Nat} {a b : P3} (h1 : BP n a) (h2 : BP n b) : BR (4 * n + 4) (far2V a b) := by
  obtain ⟨ax, ay, aw⟩ := h1
  obtain ⟨bx, by_, bw⟩ := h2
  have x := bd_mono (m := 2 * n + 1) (bd_sub (bd_mul ax bw) (bd_mul bx aw)) (by omega)
  have y := bd_mono (m := 2 * n + 1) (bd_sub (bd_mul ay bw) (bd_mul by_ aw)) (by omega)
  have w := bd_mul aw bw
  exact (redV_bd (bd_add (bd_mul x x) (bd_mul y y)) (bd_mul w w)).mono (by omega)
theorem center_ok {a b c : P3} (ha : GP a) (hb : GP b) (hc : GP c) (hn : doubledV a b c ≠ 0) : BP 1000 (centerV a b c) ∧ (centerV a b c).2.2 ≠ 0 := by
  have h13 : weightV [a, b, c] = 1 ∨ weightV [a, b, c] = 3 := weight_13 _ (by intro p hp; simp only [List.mem_cons, List.not_mem_nil, or_false] at hp; rcases hp with e | e | e <;> (rw [e]; assumption))
  have hnz := center_nz ha hb hc hn
  dsimp only [centerV]
  generalize hW : weightV [a, b, c] = W at *
  obtain ⟨a1, a2⟩ := scale_bd h13 ha
  obtain ⟨b1, b2⟩ := scale_bd h13 hb
  obtain ⟨c1, c2⟩ := scale_bd h13 hc
  have bW : Bd 2 W := by rcases h13 with e | e <;> (rw [e]; decide)
  have bx : Bd 30 _ := bd_mono (bd_sub a1 c1) (by decide)
  have by_ : Bd 30 _ := bd_mono (bd_sub a2 c2) (by decide)
  have bp : Bd 30 _ := bd_mono (bd_sub b1 c1) (by decide)
  have bq : Bd 30 _ := bd_mono (bd_sub b2 c2) (by decide)
  generalize (scaleV W a).1 - (scaleV W c).1 = x at *
  generalize (scaleV W a).2 - (scaleV W c).2 = y at *
  generalize (scaleV W b).1 - (scaleV W c).1 = p at *
  generalize (scaleV W b).2 - (scaleV W c).2 = q at *
  have bf : Bd 100 (x * x + y * y) := bd_mono (bd_add (bd_mul bx bx) (bd_mul by_ by_)) (by decide)
  have bs : Bd 100 (p * p + q * q) := bd_mono (bd_add (bd_mul bp bp) (bd_mul bq bq)) (by decide)
  have bb : Bd 100 (2 * (x * q - p * y)) := bd_mono (bd_mul (show Bd 2 (2 : Int) by decide) (bd_sub (bd_mul bx bq) (bd_mul bp by_))) (by decide)
  have nW : W ≠ 0 := by rcases h13 with e | e <;> (rw [e]; decide)
  have nb : 2 * (x * q - p * y) * W ≠ 0 := Int.mul_ne_zero (Int.mul_ne_zero (by decide) hnz) nW
  refine ⟨lowest_bp (bd_mono (bd_add (bd_mul c1 bb) (bd_sub (bd_mul bf bq) (bd_mul bs by_))) (by decide)) (bd_mono (bd_add (bd_mul c2 bb) (bd_sub (bd_mul bs bx) (bd_mul bf bp))) (by decide)) (bd_mono (bd_mul bb bW) (by decide)), lowest_ne nb⟩
theorem Gen.gg {ps : List P3} (g : Gen ps) {i : Int} (h0 : 0 ≤ i) (h1 : i < ps.length) : GP (ptAt ps i) := g.gp _ (ptAt_mem h0 h1)
theorem birth3_bd {ps : List P3} (g : Gen ps) {t : P3} (ht : t ∈ triplesV ps.length) : BR 5000 (b3G birth3 ps t) := by
  have hm := mem_triplesV.mp ht
  have g1 := g.gg hm.1 (by omega)
  have g2 := g.gg (i := t.2.1) (by omega) (by omega)
  have g3 := g.gg (i := t.2.2) (by omega) (by omega)
  have hd := doubled_ne (g.turn t.1 t.2.1 t.2.2 hm.1 hm.2.1 hm.2.2.1 hm.2.2.2)
  exact (far2_bd (center_ok g1 g2 g3 hd).1 g1.bp).mono (by decide)
theorem trisG_sub {side : P3 → P3 → P3 → P3 → Int} {ps : List P3} {t : P3} (h : t ∈ trisG side ps) : t ∈ triplesV ps.length := (List.mem_filter.mp h).1
/-! ### a table's keys -/
theorem tbGet_append (a b : List (List Int × PyData)) (k : List Int) : tbGet (a ++ b) k = (tbGet a k).or (tbGet b k) := by
  unfold tbGet
  rw [List.find?_append]
  cases List.find? (fun p => decide (p.1 = k)) a <;> rfl
theorem tbGet_none {tb : List (List Int × PyData)} {k : List Int} (h : ∀ e ∈ tb, e.1 ≠ k) : tbGet tb k = none := by
  unfold tbGet
  rw [List.find?_eq_none.mpr fun e he => by simpa using h e he]
  rfl
theorem tbGet_map {α : Type} {l : List α} {f : α → List Int} {g : α → PyData} (inj : ∀ x ∈ l, ∀ y ∈ l, f x = f y → x = y) {x : α} (hx : x ∈ l) : tbGet (l.map fun a => (f a, g a)) (f x) = some (g x) := by
  induction l with
  | nil => cases hx
  | cons a l ih =>
    rw [List.map_cons]
    unfold tbGet
    by_cases h : f a = f x
    · have e := inj a List.mem_cons_self x hx h
      subst e
      rw [List.find?_cons_of_pos (by simp)]
      rfl
    · rw [List.find?_cons_of_neg (by simpa using h)]
      rcases List.mem_cons.mp hx with e | hx
      · subst e; exact absurd rfl h
      · exact ih (fun x hx y hy => inj x (List.mem_cons_of_mem _ hx) y (List.mem_cons_of_mem _ hy)) hx
theorem ptL_len (t : P3) : (ptL t).length = 3 := rfl
/-- the singles and the triples -/
def tb13 (n : Nat) (ts : List P3) (b : P3 → Rt) : List (List Int × PyData) := tbD (onesV n ++ ts.map fun t => (ptL t, b t))
theorem tb13_len (n : Nat) (ts : List P3) (b : P3 → Rt) : (tb13 n ts b).length = n + ts.length := by
  unfold tb13 tbD onesV
  simp only [List.length_map, List.length_append, rgV_length]
theorem tb13_get {n : Nat} {ts : List P3} {b : P3 → Rt} (x : List (List Int × PyData)) {t : P3} (ht : t ∈ ts) : tbGet (tb13 n ts b ++ x) (ptL t) = some (rtD (b t)) := by
  unfold tb13 tbD onesV
  rw [List.map_append, tbGet_append, tbGet_append, tbGet_none, Option.none_or, List.map_map]
  · have := tbGet_map (l := ts) (f := ptL) (g := fun t => rtD (b t)) (fun x _ y _ => ptL_inj) ht
    rw [show ((fun e : List Int × Rt => (e.1, rtD e.2)) ∘ fun t => (ptL t, b t)) = fun a => (ptL a, rtD (b a)) from rfl, this]
    rfl
  · intro e he hk
    rw [List.map_map] at he
    obtain ⟨i, _, rfl⟩ := List.mem_map.mp he
    have := congrArg List.length hk
    simp [ptL_len] at this
theorem tb13_new {n : Nat} {ts : List P3} {b : P3 → Rt} {x : List (List Int × PyData)} {k : List Int} (h1 : k.length ≠ 1) (h3 : k.length ≠ 3) (hx : ∀ e ∈ x, e.1 ≠ k) : tbGet (tb13 n ts b ++ x) k = none := by
  apply tbGet_none
  intro e he
  rcases List.mem_append.mp he with he | he
  · unfold tb13 tbD at he
    obtain ⟨e', he', rfl⟩ := List.mem_map.mp he
    rcases List.mem_append.mp he' with h | h
    · unfold onesV at h
      obtain ⟨i, _, rfl⟩ := List.mem_map.mp h
      rintro rfl
      exact h1 rfl
    · obtain ⟨t, _, rfl⟩ := List.mem_map.mp h
      rintro rfl
      exact h3 rfl
  · exact hx e he
theorem nodup_flat {α β : Type} {l : List α} {f : α → List β} (hl : l.Nodup) (hf : ∀ a ∈ l, (f a).Nodup) (hd : ∀ a ∈ l, ∀ b ∈ l, ∀ x, x ∈ f a → x ∈ f b → a = b) : (l.map f).flatten.Nodup := by
  induction l with
  | nil => exact List.nodup_nil
  | cons a l ih =>
    rw [List.map_cons, List.flatten_cons, List.nodup_append]
    have h1 := List.nodup_cons.mp hl
    refine ⟨hf a List.mem_cons_self, ih h1.2 (fun a ha => hf a (List.mem_cons_of_mem _ ha)) (fun a ha b hb => hd a (List.mem_cons_of_mem _ ha) b (List.mem_cons_of_mem _ hb)), ?_⟩
    intro x hx y hy e
    subst e
    obtain ⟨l', hl', hy⟩ := List.mem_flatten.mp hy
    obtain ⟨b, hb, rfl⟩ := List.mem_map.mp hl'
    have := hd a List.mem_cons_self b (List.mem_cons_of_mem _ hb) x hx hy
    subst this
    exact h1.1 hb
theorem rgV_nodup (lo : Int) (n : Nat) : (rgV lo n).Nodup := by
  unfold rgV
  rw [List.nodup_iff_pairwise_ne, List.pairwise_map]
  exact List.Pairwise.imp (fun h => by omega) List.nodup_range
theorem nodup_map {α β : Type} {l : List α} {f : α → β} (h : l.Nodup) (inj : ∀ x y, f x = f y → x = y) : (l.map f).Nodup := by
  rw [List.nodup_iff_pairwise_ne, List.pairwise_map]
  exact List.Pairwise.imp (fun hne he => hne (inj _ _ he)) h
theorem pairsV_nodup (n : Nat) : (pairsV n).Nodup := by
  unfold pairsV
  refine nodup_flat (rgV_nodup _ _) (fun i _ => nodup_map (rgV_nodup _ _) fun x y e => (Prod.mk.inj e).2) fun a _ b _ x h1 h2 => ?_
  obtain ⟨_, _, rfl⟩ := List.mem_map.mp h1
  obtain ⟨_, _, e⟩ := List.mem_map.mp h2
  exact ((Prod.mk.inj e).1).symm
theorem triplesV_nodup (n : Nat) : (triplesV n).Nodup := by
  unfold triplesV
  refine nodup_flat (pairsV_nodup n) (fun i _ => nodup_map (rgV_nodup _ _) fun x y e => (Prod.mk.inj (Prod.mk.inj e).2).2) fun a _ b _ x h1 h2 => ?_
  obtain ⟨_, _, rfl⟩ := List.mem_map.mp h1
  obtain ⟨_, _, e⟩ := List.mem_map.mp h2
  exact Prod.ext ((Prod.mk.inj e).1).symm ((Prod.mk.inj (Prod.mk.inj e).2).1).symm
/-- an item is not among those before it -/
theorem not_before {α : Type} {l : List α} {k : Nat} {x : α} (nd : l.Nodup) (h : l[k]? = some x) : x ∉ l.take k := by
  intro hm
  obtain ⟨m, hm', hq⟩ := List.getElem_of_mem hm
  have hk := (List.getElem?_eq_some_iff.mp h).1
  have hmk : m < k := by rw [List.length_take] at hm'; omega
  rw [List.getElem_take] at hq
  have g2 : l[m]? = some x := by rw [← hq, List.getElem?_eq_getElem]
  have := (List.getElem?_inj (by omega) nd).mp (g2.trans h.symm)
  omega
end M
namespace M
open L2 PyProof.Rows PySem.Spec PySem
theorem map_rtL (vs : List Rt) : vs.map rtD = (vs.map fun r => [r.1, r.2]).map tupI := by rw [List.map_map]; rfl
theorem shaped_rts (vs : List Rt) : SeqAt.shaped (.list (vs.map rtD)) = true := by rw [map_rtL]; exact shaped_tups _
theorem tbD_append (a b : List (List Int × Rt)) : tbD (a ++ b) = tbD a ++ tbD b := List.map_append
theorem tb13_new3 {n : Nat} {ts : List P3} {b : P3 → Rt} {t : P3} (h : t ∉ ts) : tbGet (tb13 n ts b) (ptL t) = none := by
  apply tbGet_none
  intro e he
  unfold tb13 tbD at he
  obtain ⟨e', he', rfl⟩ := List.mem_map.mp he
  rcases List.mem_append.mp he' with q | q
  · unfold onesV at q
    obtain ⟨i, _, rfl⟩ := List.mem_map.mp q
    intro z
    cases congrArg List.length z
  · obtain ⟨t', ht', rfl⟩ := List.mem_map.mp q
    intro z
    have := ptL_inj z
    subst this
    exact h ht'
theorem tb13_snoc (n : Nat) (ts : List P3) (b : P3 → Rt) (t : P3) : tb13 n (ts ++ [t]) b = tb13 n ts b ++ [(ptL t, rtD (b t))] := by
  unfold tb13
  rw [List.map_append, ← List.append_assoc, tbD_append]
  rfl
section
variable {P : Program} {w : World} {K : PySem.W.Frag} {mg : Str → Option Value} {base : Heap}
theorem fn_triples_of (B : Blt mg) (D : DefAt K mg "triples_of" s_triples_of ["points"]) (h_triples_in : Fn P w K mg base "triples_in" R_triples 2) (h_side_of : Fn P w K mg base "side_of" (R_side sideV) 4) : Fn P w K mg base "triples_of" R_triples_of 5 := by
  -- def triples_of
  refine fn_at D sc_triples_of (by rintro _ _ ⟨r, _, rfl, rfl⟩; rfl) ?_
  rintro _ _ ⟨ps, g, rfl, rfl⟩
  have l2 := g.l2
  (refine pxb_seq (pxs_parN (n1 := 1) (n2 := 2) sc_triples_of.nd rfl rfl (by decide) rfl rfl (pxan_own (pxn_lst (ds := []) pxa_nil) (pxan_p (px_lenT B.len rfl (px_var (n := 0) rfl (by first | exact Or.inl rfl | exact Or.inr (Or.inl rfl) | exact Or.inr (Or.inr rfl)) rfl) (fun _ => rfl)) rfl pxan_nil (fun _ => rfl)) (fun _ => rfl)) rfl (fun _ => rfl)) ?_); (try conv => arg 3; simp only [slots, wipeD, List.map, List.length, List.append, List.replicate, List.set_cons_zero, List.set_cons_succ, List.cons_append, List.nil_append, Nat.add_sub_cancel])
  rw [List.length_map]
  refine pxb_cons (nx1 := fun δ' => ∃ o1 o2 o3 o4, δ' = [some (psS ps), some (.o ((trisG sideV ps).map trD)), some (iS ps.length), o1, o2, o3, o4, none, none]) (pxs_forT (enc := trD) (ts := triplesV ps.length) (fun q δ' => ∃ o1 o2 o3 o4, δ' = [some (psS ps), some (.o ((((triplesV ps.length).take q).filter (emptyG sideV ps)).map trD)), some (iS ps.length), o1, o2, o3, o4, none, none]) (src_list (px_call h_triples_in (Nat.le_of_ble_eq_true rfl) rfl (pxa_cons (px_var (n := 2) rfl (by first | exact Or.inl rfl | exact Or.inr (Or.inl rfl) | exact Or.inr (Or.inr rfl)) rfl) pxa_nil (fun _ => rfl)) (r_triples (by omega)) rfl (fun _ => rfl) (fun _ => rfl))) ⟨_, _, _, _, rfl⟩ ?_ ?_ (fun _ _ => rfl)) ?_
  · rintro q ⟨i, j, k⟩ _ ht ⟨o1, o2, o3, o4, rfl⟩
    have hm := mem_triplesV.mp (List.mem_of_getElem? ht)
    dsimp only at hm
    have a1 := at_pts (ps := ps) (i := i) (by omega) (by omega)
    have a2 := at_pts (ps := ps) (i := j) (by omega) (by omega)
    have a3 := at_pts (ps := ps) (i := k) (by omega) (by omega)
    have b1 := g.gg (i := i) (by omega) (by omega)
    have b2 := g.gg (i := j) (by omega) (by omega)
    have b3 := g.gg (i := k) (by omega) (by omega)
    have hlen : ((((triplesV ps.length).take q).filter (emptyG sideV ps)).map trD).length < 100000 := by
      have := triplesV_length ps.length (by omega)
      have h2 := List.length_filter_le (emptyG sideV ps) ((triplesV ps.length).take q)
      rw [List.length_take] at h2
      rw [List.length_map]
      omega
    refine ⟨_, _, (pxg_tup (pxgs_cons (pxg_name (n := 3) sc_triples_of.nd rfl (by first | exact Or.inl rfl | exact Or.inr rfl) (.inl rfl)) (pxgs_cons (pxg_name (n := 4) sc_triples_of.nd rfl (by first | exact Or.inl rfl | exact Or.inr rfl) (.inl rfl)) (pxgs_cons (pxg_name (n := 5) sc_triples_of.nd rfl (by first | exact Or.inl rfl | exact Or.inr rfl) (.inl rfl)) pxgs_nil (fun _ => rfl)) (fun _ => rfl)) (fun _ => rfl)) (fun _ => rfl) (fun _ => rfl)), ?_⟩
    (try conv => arg 3; simp only [slots, wipeD, List.map, List.length, List.append, List.replicate, List.set_cons_zero, List.set_cons_succ, List.cons_append, List.nil_append, Nat.add_sub_cancel])
    refine pxb_seq (pxs_setLcE (n := 6) (enc := PyData.int) (ts := rgV 0 ps.length) (cond := fun m => !([i, j, k] : List Int).contains m) (y := fun m => ptD (ptAt ps m)) (own := [("m", 7)]) sc_triples_of.nd rfl rfl rfl (src_range1V B.range rfl (px_var (n := 2) rfl (by first | exact Or.inl rfl | exact Or.inr (Or.inl rfl) | exact Or.inr (Or.inr rfl)) rfl) (by omega) (fun _ => rfl)) rfl (fun _ _ => rfl) (fun m hm => ?_) (by rw [rgV_length]; omega) (by decide) (by decide) (show lcOut _ _ _ = (othersV ps [i, j, k]).map ptD from lcOut_eq _ (ptAt ps) ptD _)) ?_
    · have hm := mem_rgV.mp hm
      have a4 := at_pts (ps := ps) (i := m) (by omega) (by omega)
      exact ⟨_, _, ⟨(pxg_name (n := 7) sc_triples_of.nd rfl (by first | exact Or.inl rfl | exact Or.inr rfl) (by first | exact .inl rfl | exact .inr rfl)), (by decide), (pxi_one (pxt_cmp (px_niT (px_var (n := 7) rfl (by first | exact Or.inl rfl | exact Or.inr (Or.inl rfl) | exact Or.inr (Or.inr rfl)) rfl) (px_tupI (pxi1 (px_var (n := 3) rfl (by first | exact Or.inl rfl | exact Or.inr (Or.inl rfl) | exact Or.inr (Or.inr rfl)) rfl) (pxi1 (px_var (n := 4) rfl (by first | exact Or.inl rfl | exact Or.inr (Or.inl rfl) | exact Or.inr (Or.inr rfl)) rfl) (pxi1 (px_var (n := 5) rfl (by first | exact Or.inl rfl | exact Or.inr (Or.inl rfl) | exact Or.inr (Or.inr rfl)) rfl) pxi0 (fun _ => rfl)) (fun _ => rfl)) (fun _ => rfl)))) rfl)), fun hc => (px_ixT (px_var (n := 0) rfl (by first | exact Or.inl rfl | exact Or.inr (Or.inl rfl) | exact Or.inr (Or.inr rfl)) rfl) (px_var (n := 7) rfl (by first | exact Or.inl rfl | exact Or.inr (Or.inl rfl) | exact Or.inr (Or.inr rfl)) rfl) (by first | assumption | rfl) (fun _ _ => rfl))⟩⟩
    (try conv => arg 3; simp only [slots, wipeD, List.map, List.length, List.append, List.replicate, List.set_cons_zero, List.set_cons_succ, List.cons_append, List.nil_append, Nat.add_sub_cancel])
    
    have hol : (othersV ps [i, j, k]).length ≤ 12 := by
      unfold othersV
      rw [List.length_map]
      refine Nat.le_trans (List.length_filter_le _ _) ?_
      rw [rgV_length]; omega
    refine pxb_one (pxs_if (pxt_cmp (px_eqNil (px_lcE (enc := ptD) (ts := othersV ps [i, j, k]) (cond := fun p => decide (0 < sideV (ptAt ps i) (ptAt ps j) (ptAt ps k) p)) (y := ptD) (own := [("p", 8)]) sc_triples_of.nd (src_list (px_var (n := 6) rfl (by first | exact Or.inl rfl | exact Or.inr (Or.inl rfl) | exact Or.inr (Or.inr rfl)) rfl)) rfl (fun _ _ => rfl) (fun p hp => ?_) (by omega) (rfl : lcOut _ _ _ = (List.filter _ _).map ptD)) (shaped_pts _)) (nomark _)) (fun h => ?_) fun h => ?_)
    · have b4 := g.gp p (mem_othersV hp)
      exact ⟨_, _, ⟨(pxg_name (n := 8) sc_triples_of.nd rfl (by first | exact Or.inl rfl | exact Or.inr rfl) (by first | exact .inl rfl | exact .inr rfl)), (by decide), (pxi_one (pxt_cmp (px_gt (px_call h_side_of (Nat.le_of_ble_eq_true rfl) rfl (pxa_cons (px_ixT (px_var (n := 0) rfl (by first | exact Or.inl rfl | exact Or.inr (Or.inl rfl) | exact Or.inr (Or.inr rfl)) rfl) (px_var (n := 3) rfl (by first | exact Or.inl rfl | exact Or.inr (Or.inl rfl) | exact Or.inr (Or.inr rfl)) rfl) (by first | assumption | rfl) (fun _ _ => rfl)) (pxa_cons (px_ixT (px_var (n := 0) rfl (by first | exact Or.inl rfl | exact Or.inr (Or.inl rfl) | exact Or.inr (Or.inr rfl)) rfl) (px_var (n := 4) rfl (by first | exact Or.inl rfl | exact Or.inr (Or.inl rfl) | exact Or.inr (Or.inr rfl)) rfl) (by first | assumption | rfl) (fun _ _ => rfl)) (pxa_cons (px_ixT (px_var (n := 0) rfl (by first | exact Or.inl rfl | exact Or.inr (Or.inl rfl) | exact Or.inr (Or.inr rfl)) rfl) (px_var (n := 5) rfl (by first | exact Or.inl rfl | exact Or.inr (Or.inl rfl) | exact Or.inr (Or.inr rfl)) rfl) (by first | assumption | rfl) (fun _ _ => rfl)) (pxa_cons (px_var (n := 8) rfl (by first | exact Or.inl rfl | exact Or.inr (Or.inl rfl) | exact Or.inr (Or.inr rfl)) rfl) pxa_nil (fun _ => rfl)) (fun _ => rfl)) (fun _ => rfl)) (fun _ => rfl)) (r_side (by assumption) (by assumption) (by assumption) (by assumption)) rfl (fun _ => rfl) (fun _ => rfl)) px_int) (nomark _))), fun hc => (px_var (n := 8) rfl (by first | exact Or.inl rfl | exact Or.inr (Or.inl rfl) | exact Or.inr (Or.inr rfl)) rfl)⟩⟩
    · refine pxb_one (PXS.weak (pxs_append (n := 1) rfl (by first | exact Or.inl rfl | exact Or.inr (Or.inl rfl) | exact Or.inr (Or.inr rfl)) rfl (px_tupI (pxi1 (px_var (n := 3) rfl (by first | exact Or.inl rfl | exact Or.inr (Or.inl rfl) | exact Or.inr (Or.inr rfl)) rfl) (pxi1 (px_var (n := 4) rfl (by first | exact Or.inl rfl | exact Or.inr (Or.inl rfl) | exact Or.inr (Or.inr rfl)) rfl) (pxi1 (px_var (n := 5) rfl (by first | exact Or.inl rfl | exact Or.inr (Or.inl rfl) | exact Or.inr (Or.inr rfl)) rfl) pxi0 (fun _ => rfl)) (fun _ => rfl)) (fun _ => rfl))) (by first | assumption | omega) (fun _ => rfl) (fun _ => rfl) rfl (fun _ => rfl) (fun _ => rfl) (fun _ => rfl)) ?_)
      rintro _ rfl
      unfold lcOut at h
      rw [isEmpty_map] at h
      rw [take_snoc ht, filter_snoc, if_pos (show emptyG sideV ps (i, j, k) = true from h), List.map_append]
      exact ⟨_, _, _, _, rfl⟩
    · refine pxb_nil ?_
      unfold lcOut at h
      rw [isEmpty_map] at h
      have h2 : ¬ emptyG sideV ps (i, j, k) = true := by rw [show emptyG sideV ps (i, j, k) = false from h]; decide
      rw [take_snoc ht, filter_snoc, if_neg h2, List.append_nil]
      exact ⟨_, _, _, _, rfl⟩
  · rintro _ ⟨o1, o2, o3, o4, rfl⟩
    rw [List.take_of_length_le (Nat.le_refl _)]
    exact ⟨_, _, _, _, rfl⟩
  · rintro _ ⟨o1, o2, o3, o4, rfl⟩
    refine pxb_freeze (n := 1) (ds := (trisG sideV ps).map trD) rfl ?_
    (try conv => arg 3; simp only [slots, wipeD, List.map, List.length, List.append, List.replicate, List.set_cons_zero, List.set_cons_succ, List.cons_append, List.nil_append, Nat.add_sub_cancel])
    
    exact pxb_one (pxs_ret (px_var (n := 1) rfl (by first | exact Or.inl rfl | exact Or.inr (Or.inl rfl) | exact Or.inr (Or.inr rfl)) rfl) (by first | rfl | done))
theorem fn_born (B : Blt mg) (C : Cst K mg) (D : DefAt K mg "born" s_born ["points"]) (h_triples_of : Fn P w K mg base "triples_of" R_triples_of 5) (h_pairs_in : Fn P w K mg base "pairs_in" R_pairs 1) (h_far2 : Fn P w K mg base "far2" R_far2 3) (h_center_of : Fn P w K mg base "center_of" R_center 4) (h_in_diameter : Fn P w K mg base "in_diameter" (R_p3 inDiamV) 1) (h_times : Fn P w K mg base "times" (R_timesQ K) 3) (h_least_of : Fn P w K mg base "least_of" R_least 2) : Fn P w K mg base "born" R_born 6 := by
  -- def born
  obtain ⟨uQ, hQ, hQ2⟩ := C.quarter
  refine fn_at D sc_born (by rintro _ _ ⟨r, _, rfl, rfl⟩; rfl) ?_
  rintro _ _ ⟨ps, g, rfl, rfl⟩
  have l2 := g.l2
  (refine pxb_seq (pxs_unpN (n1 := 1) (n2 := 2) sc_born.nd rfl rfl (by decide) (by first | exact Or.inl rfl | exact Or.inr rfl) (by first | exact Or.inl rfl | exact Or.inr rfl) (.inl rfl) (.inl rfl) (pxan_own pxn_dictT (pxan_p (px_lenT B.len rfl (px_var (n := 0) rfl (by first | exact Or.inl rfl | exact Or.inr (Or.inl rfl) | exact Or.inr (Or.inr rfl)) rfl) (fun _ => rfl)) rfl pxan_nil (fun _ => rfl)) (fun _ => rfl)) (fun _ => rfl) rfl (fun _ => rfl) (fun _ => rfl) (fun _ => rfl) (fun _ => rfl) (fun _ => rfl)) ?_); (try conv => arg 3; simp only [slots, wipeD, List.map, List.length, List.append, List.replicate, List.set_cons_zero, List.set_cons_succ, List.cons_append, List.nil_append, Nat.add_sub_cancel])
  rw [List.length_map]
  generalize hn : ps.length = n at *
  refine pxb_cons (nx1 := fun δ' => ∃ o1, δ' = [some (psS ps), some (.u (tb13 n [] (b3G birth3 ps))), some (iS n), o1, none, none, none, none, none, none, none, none]) (pxs_forT (enc := PyData.int) (ts := rgV 0 n) (fun q δ' => ∃ o1, δ' = [some (psS ps), some (.u (tbD (((rgV 0 n).take q).map fun i => ([i], (0, 1))))), some (iS n), o1, none, none, none, none, none, none, none, none]) (src_range1V B.range rfl (px_var (n := 2) rfl (by first | exact Or.inl rfl | exact Or.inr (Or.inl rfl) | exact Or.inr (Or.inr rfl)) rfl) (by omega) (fun _ => rfl)) ⟨_, rfl⟩ ?_ ?_ (fun _ _ => rfl)) ?_
  · rintro q i _ hi ⟨o1, rfl⟩
    have hk : tbGet (tbD (((rgV 0 n).take q).map fun i => ([i], (0, 1)))) [i] = none := by
      apply tbGet_none
      intro e he
      unfold tbD at he
      rw [List.map_map] at he
      obtain ⟨i', hi', rfl⟩ := List.mem_map.mp he
      intro z
      have z' : i' = i := (List.cons.inj z).1
      subst z'
      exact not_before (rgV_nodup _ _) hi hi'
    have hl : (tbD (((rgV 0 n).take q).map fun i => ([i], (0, 1)))).length < 100000 := by
      unfold tbD
      rw [List.length_map, List.length_map, List.length_take, rgV_length]; omega
    refine ⟨_, _, (pxg_name (n := 3) sc_born.nd rfl (by first | exact Or.inl rfl | exact Or.inr rfl) (.inl rfl)), ?_⟩
    (try conv => arg 3; simp only [slots, wipeD, List.map, List.length, List.append, List.replicate, List.set_cons_zero, List.set_cons_succ, List.cons_append, List.nil_append, Nat.add_sub_cancel])
    refine pxb_one (PXS.weak (pxs_dput (n := 1) rfl (by first | exact Or.inl rfl | exact Or.inr (Or.inl rfl) | exact Or.inr (Or.inr rfl)) rfl (px_tupI (pxi1 (px_var (n := 3) rfl (by first | exact Or.inl rfl | exact Or.inr (Or.inl rfl) | exact Or.inr (Or.inr rfl)) rfl) pxi0 (fun _ => rfl))) (px_tupI (pxi1 px_int (pxi1 px_int pxi0 (fun _ => rfl)) (fun _ => rfl))) (by assumption) (by first | assumption | omega) (fun _ => rfl)) ?_)
    rintro _ rfl
    rw [take_snoc hi, List.map_append, tbD_append]
    exact ⟨_, rfl⟩
  · rintro _ ⟨o1, rfl⟩
    rw [List.take_of_length_le (Nat.le_refl _)]
    refine ⟨o1, ?_⟩
    unfold tb13 onesV
    rw [List.map_nil, List.append_nil]
  rintro _ ⟨o1, rfl⟩
  (refine pxb_seq (pxs_set (n := 4) sc_born.nd rfl (by first | exact Or.inl rfl | exact Or.inr rfl) (.inl rfl) (px_call h_triples_of (Nat.le_of_ble_eq_true rfl) rfl (pxa_cons (px_var (n := 0) rfl (by first | exact Or.inl rfl | exact Or.inr (Or.inl rfl) | exact Or.inr (Or.inr rfl)) rfl) pxa_nil (fun _ => rfl)) (r_triples_of (by assumption)) rfl (fun _ => rfl) (fun _ => rfl)) rfl (fun _ => rfl)) ?_); (try conv => arg 3; simp only [slots, wipeD, List.map, List.length, List.append, List.replicate, List.set_cons_zero, List.set_cons_succ, List.cons_append, List.nil_append, Nat.add_sub_cancel])
  have htl : (trisG sideV ps).length ≤ 64000 := Nat.le_trans (List.length_filter_le _ _) (triplesV_length _ (by omega))
  have hts : ∀ t ∈ trisG sideV ps, t ∈ triplesV ps.length := fun t h => trisG_sub h
  have htn : (trisG sideV ps).Nodup := List.Pairwise.filter _ (triplesV_nodup _)
  generalize hT : trisG sideV ps = ts at *
  refine pxb_cons (nx1 := fun δ' => ∃ o1 o2 o3, δ' = [some (psS ps), some (.u (tb13 n ts (b3G birth3 ps))), some (iS n), o1, some (.p (.list (ts.map trD))), o2, o3, none, none, none, none, none]) (pxs_forT (enc := trD) (ts := ts) (fun q δ' => ∃ o1 o2 o3, δ' = [some (psS ps), some (.u (tb13 n (ts.take q) (b3G birth3 ps))), some (iS n), o1, some (.p (.list (ts.map trD))), o2, o3, none, none, none, none, none]) (src_list (px_var (n := 4) rfl (by first | exact Or.inl rfl | exact Or.inr (Or.inl rfl) | exact Or.inr (Or.inr rfl)) rfl)) ⟨_, _, _, rfl⟩ ?_ ?_ (fun _ _ => rfl)) ?_
  · rintro q ⟨i, j, k⟩ _ ht ⟨o1, o2, o3, rfl⟩
    have hm := mem_triplesV.mp (hts _ (List.mem_of_getElem? ht))
    dsimp only at hm
    rw [hn] at hm
    have a1 := at_pts (ps := ps) (i := i) (by omega) (by omega)
    have a2 := at_pts (ps := ps) (i := j) (by omega) (by omega)
    have a3 := at_pts (ps := ps) (i := k) (by omega) (by omega)
    have b1 := g.gg (i := i) (by omega) (by omega)
    have b2 := g.gg (i := j) (by omega) (by omega)
    have b3 := g.gg (i := k) (by omega) (by omega)
    have hd := doubled_ne (g.turn i j k (by omega) (by omega) (by omega) (by omega))
    obtain ⟨c1, c2⟩ := center_ok b1 b2 b3 hd
    have p1 := b1.bp
    have p2 := b1.w0
    have hk : tbGet (tb13 n (ts.take q) (b3G birth3 ps)) [i, j, k] = none := tb13_new3 (not_before htn ht)
    have hl : (tb13 n (ts.take q) (b3G birth3 ps)).length < 100000 := by rw [tb13_len, List.length_take]; omega
    refine ⟨_, _, (pxg_tup (pxgs_cons (pxg_name (n := 3) sc_born.nd rfl (by first | exact Or.inl rfl | exact Or.inr rfl) (.inl rfl)) (pxgs_cons (pxg_name (n := 5) sc_born.nd rfl (by first | exact Or.inl rfl | exact Or.inr rfl) (.inl rfl)) (pxgs_cons (pxg_name (n := 6) sc_born.nd rfl (by first | exact Or.inl rfl | exact Or.inr rfl) (.inl rfl)) pxgs_nil (fun _ => rfl)) (fun _ => rfl)) (fun _ => rfl)) (fun _ => rfl) (fun _ => rfl)), ?_⟩
    (try conv => arg 3; simp only [slots, wipeD, List.map, List.length, List.append, List.replicate, List.set_cons_zero, List.set_cons_succ, List.cons_append, List.nil_append, Nat.add_sub_cancel])
    refine pxb_one (PXS.weak (pxs_dput (n := 1) rfl (by first | exact Or.inl rfl | exact Or.inr (Or.inl rfl) | exact Or.inr (Or.inr rfl)) rfl (px_tupI (pxi1 (px_var (n := 3) rfl (by first | exact Or.inl rfl | exact Or.inr (Or.inl rfl) | exact Or.inr (Or.inr rfl)) rfl) (pxi1 (px_var (n := 5) rfl (by first | exact Or.inl rfl | exact Or.inr (Or.inl rfl) | exact Or.inr (Or.inr rfl)) rfl) (pxi1 (px_var (n := 6) rfl (by first | exact Or.inl rfl | exact Or.inr (Or.inl rfl) | exact Or.inr (Or.inr rfl)) rfl) pxi0 (fun _ => rfl)) (fun _ => rfl)) (fun _ => rfl))) (px_call h_far2 (Nat.le_of_ble_eq_true rfl) rfl (pxa_cons (px_call h_center_of (Nat.le_of_ble_eq_true rfl) rfl (pxa_cons (px_ixT (px_var (n := 0) rfl (by first | exact Or.inl rfl | exact Or.inr (Or.inl rfl) | exact Or.inr (Or.inr rfl)) rfl) (px_var (n := 3) rfl (by first | exact Or.inl rfl | exact Or.inr (Or.inl rfl) | exact Or.inr (Or.inr rfl)) rfl) (by first | assumption | rfl) (fun _ _ => rfl)) (pxa_cons (px_ixT (px_var (n := 0) rfl (by first | exact Or.inl rfl | exact Or.inr (Or.inl rfl) | exact Or.inr (Or.inr rfl)) rfl) (px_var (n := 5) rfl (by first | exact Or.inl rfl | exact Or.inr (Or.inl rfl) | exact Or.inr (Or.inr rfl)) rfl) (by first | assumption | rfl) (fun _ _ => rfl)) (pxa_cons (px_ixT (px_var (n := 0) rfl (by first | exact Or.inl rfl | exact Or.inr (Or.inl rfl) | exact Or.inr (Or.inr rfl)) rfl) (px_var (n := 6) rfl (by first | exact Or.inl rfl | exact Or.inr (Or.inl rfl) | exact Or.inr (Or.inr rfl)) rfl) (by first | assumption | rfl) (fun _ _ => rfl)) pxa_nil (fun _ => rfl)) (fun _ => rfl)) (fun _ => rfl)) (r_center (by assumption) (by assumption) (by assumption) (by assumption)) rfl (fun _ => rfl) (fun _ => rfl)) (pxa_cons (px_ixT (px_var (n := 0) rfl (by first | exact Or.inl rfl | exact Or.inr (Or.inl rfl) | exact Or.inr (Or.inr rfl)) rfl) (px_var (n := 3) rfl (by first | exact Or.inl rfl | exact Or.inr (Or.inl rfl) | exact Or.inr (Or.inr rfl)) rfl) (by first | assumption | rfl) (fun _ _ => rfl)) pxa_nil (fun _ => rfl)) (fun _ => rfl)) (r_far2 (by assumption) (by assumption) (by assumption) (by assumption)) rfl (fun _ => rfl) (fun _ => rfl)) (by assumption) (by first | assumption | omega) (fun _ => rfl)) ?_)
    rintro _ rfl
    rw [take_snoc ht, tb13_snoc]
    exact ⟨_, _, _, rfl⟩
  · rintro _ ⟨o1, o2, o3, rfl⟩
    rw [List.take_of_length_le (Nat.le_refl _)]
    exact ⟨_, _, _, rfl⟩
  rintro _ ⟨o1, o2, o3, rfl⟩
  refine pxb_cons (nx1 := fun δ' => ∃ o1 o2 o3 o7 o8, δ' = [some (psS ps), some (.u (tbD (bornV ps))), some (iS n), o1, some (.p (.list (ts.map trD))), o2, o3, o7, o8, none, none, none]) (pxs_forT (enc := prD) (ts := pairsV n) (fun q δ' => ∃ o1 o2 o3 o7 o8, δ' = [some (psS ps), some (.u (tb13 n ts (b3G birth3 ps) ++ tbD ((((pairsV n).take q).filter (edgeV n ts)).map fun p => ([p.1, p.2], b2G birth3 inDiamV far2V ps ts p)))), some (iS n), o1, some (.p (.list (ts.map trD))), o2, o3, o7, o8, none, none, none]) (src_list (px_call h_pairs_in (Nat.le_of_ble_eq_true rfl) rfl (pxa_cons (px_var (n := 2) rfl (by first | exact Or.inl rfl | exact Or.inr (Or.inl rfl) | exact Or.inr (Or.inr rfl)) rfl) pxa_nil (fun _ => rfl)) (r_pairs (by omega)) rfl (fun _ => rfl) (fun _ => rfl))) ⟨o1, o2, o3, none, none, by rw [List.take_zero, List.filter_nil, List.map_nil]; rw [show tbD [] = [] from rfl, List.append_nil]⟩ ?_ ?_ (fun _ _ => rfl)) ?_
  · rintro q ⟨i, j⟩ _ ht ⟨o1, o2, o3, o7, o8, rfl⟩
    have hm := mem_pairsV.mp (List.mem_of_getElem? ht)
    dsimp only at hm
    have a1 := at_pts (ps := ps) (i := i) (by omega) (by omega)
    have a2 := at_pts (ps := ps) (i := j) (by omega) (by omega)
    have b1 := g.gg (i := i) (by omega) (by omega)
    have b2 := g.gg (i := j) (by omega) (by omega)
    have p1 := b1.bp
    have p2 := b2.bp
    have w1 := b1.w0
    have w2 := b2.w0
    have f0 : BR (4 * 20 + 4) (far2V (ptAt ps i) (ptAt ps j)) := far2_bd ⟨b1.x, b1.y, bd_mono b1.bw (by decide)⟩ ⟨b2.x, b2.y, bd_mono b2.bw (by decide)⟩
    have f1 : BR 3000 (far2V (ptAt ps i) (ptAt ps j)) := f0.mono (by decide)
    have f2 : (far2V (ptAt ps i) (ptAt ps j)).2 ≠ 0 := by
      have := redV_pos (n := farX (ptAt ps i) (ptAt ps j) * farX (ptAt ps i) (ptAt ps j) + farY (ptAt ps i) (ptAt ps j) * farY (ptAt ps i) (ptAt ps j)) (d := farW (ptAt ps i) (ptAt ps j) * farW (ptAt ps i) (ptAt ps j)) (Int.mul_ne_zero (Int.mul_ne_zero w1 w2) (Int.mul_ne_zero w1 w2))
      unfold far2V
      omega
    generalize hX : tbD ((((pairsV n).take q).filter (edgeV n ts)).map fun p => ([p.1, p.2], b2G birth3 inDiamV far2V ps ts p)) = X
    have hk : tbGet (tb13 n ts (b3G birth3 ps) ++ X) [i, j] = none := by
      refine tb13_new (by simp) (by simp) fun e he => ?_
      subst hX
      unfold tbD at he
      rw [List.map_map] at he
      obtain ⟨p', hp', rfl⟩ := List.mem_map.mp he
      intro z
      have z1 : p' = (i, j) := by
        obtain ⟨z1, z2⟩ := List.cons.inj z
        exact Prod.ext z1 (List.cons.inj z2).1
      subst z1
      exact not_before (pairsV_nodup n) ht (List.mem_filter.mp hp').1
    have hl : (tb13 n ts (b3G birth3 ps) ++ X).length < 100000 := by
      have h1 := pairsV_length n (by omega)
      have h2 := List.length_filter_le (edgeV n ts) ((pairsV n).take q)
      rw [List.length_take] at h2
      rw [← hX, List.length_append, tb13_len]
      unfold tbD
      rw [List.length_map, List.length_map]
      omega
    refine ⟨_, _, (pxg_tup (pxgs_cons (pxg_name (n := 3) sc_born.nd rfl (by first | exact Or.inl rfl | exact Or.inr rfl) (.inl rfl)) (pxgs_cons (pxg_name (n := 5) sc_born.nd rfl (by first | exact Or.inl rfl | exact Or.inr rfl) (.inl rfl)) pxgs_nil (fun _ => rfl)) (fun _ => rfl)) (fun _ => rfl) (fun _ => rfl)), ?_⟩
    (try conv => arg 3; simp only [slots, wipeD, List.map, List.length, List.append, List.replicate, List.set_cons_zero, List.set_cons_succ, List.cons_append, List.nil_append, Nat.add_sub_cancel])
    refine pxb_seq (pxs_setLcE (n := 7) (enc := trD) (ts := ts) (cond := fun t => (ptL t).contains i && (ptL t).contains j) (y := fun t => rtD (b3G birth3 ps t)) (own := [("triple", 9)]) sc_born.nd rfl rfl rfl (src_list (px_var (n := 4) rfl (by first | exact Or.inl rfl | exact Or.inr (Or.inl rfl) | exact Or.inr (Or.inr rfl)) rfl)) rfl (fun _ _ => rfl) (fun t hm => ?_) (by omega) (by decide) (by decide) (show lcOut _ _ _ = ((aroundV ts (i, j)).map (b3G birth3 ps)).map rtD from lcOut_eq _ (b3G birth3 ps) rtD _)) ?_
    · obtain ⟨t1, t2, t3⟩ := t
      have hg := tb13_get (n := n) (b := b3G birth3 ps) X hm
      exact ⟨_, _, ⟨(pxg_name (n := 9) sc_born.nd rfl (by first | exact Or.inl rfl | exact Or.inr rfl) (by first | exact .inl rfl | exact .inr rfl)), (by decide), (pxi_one (PXW.pt (pxw_and (pxt_cmp (px_inT (px_var (n := 3) rfl (by first | exact Or.inl rfl | exact Or.inr (Or.inl rfl) | exact Or.inr (Or.inr rfl)) rfl) (px_var (n := 9) rfl (by first | exact Or.inl rfl | exact Or.inr (Or.inl rfl) | exact Or.inr (Or.inr rfl)) rfl)) rfl) (fun _ => (pxw_and1 (pxt_cmp (px_inT (px_var (n := 5) rfl (by first | exact Or.inl rfl | exact Or.inr (Or.inl rfl) | exact Or.inr (Or.inr rfl)) rfl) (px_var (n := 9) rfl (by first | exact Or.inl rfl | exact Or.inr (Or.inl rfl) | exact Or.inr (Or.inr rfl)) rfl)) rfl)))))), fun hc => (px_dgetU (px_var (n := 1) rfl (by first | exact Or.inl rfl | exact Or.inr (Or.inl rfl) | exact Or.inr (Or.inr rfl)) rfl) (px_var (n := 9) rfl (by first | exact Or.inl rfl | exact Or.inr (Or.inl rfl) | exact Or.inr (Or.inr rfl)) rfl) (by assumption) (fun _ _ => rfl))⟩⟩
    (try conv => arg 3; simp only [slots, wipeD, List.map, List.length, List.append, List.replicate, List.set_cons_zero, List.set_cons_succ, List.cons_append, List.nil_append, Nat.add_sub_cancel])
    
    generalize hA : aroundV ts (i, j) = A
    have hsh := shaped_rts (A.map (b3G birth3 ps))
    refine pxb_one (pxs_if (PXW.pt (pxw_or (pxt_cmp (px_neNil (px_var (n := 7) rfl (by first | exact Or.inl rfl | exact Or.inr (Or.inl rfl) | exact Or.inr (Or.inr rfl)) rfl) (by first | exact shaped_tups _ | exact shaped_listI _ | assumption)) (nomark _)) (fun _ => (pxw_or1 (pxt_cmp (px_eqI (px_var (n := 2) rfl (by first | exact Or.inl rfl | exact Or.inr (Or.inl rfl) | exact Or.inr (Or.inr rfl)) rfl) px_int) (nomark _)))))) (fun h => ?_) fun h => ?_)
    · rw [isEmpty_map, isEmpty_map, ← hA] at h
      refine pxb_seq (pxs_setLcE (n := 8) (enc := PyData.int) (ts := rgV 0 n) (cond := fun m => !([i, j] : List Int).contains m) (y := fun m => ptD (ptAt ps m)) (own := [("m", 10)]) sc_born.nd rfl rfl rfl (src_range1V B.range rfl (px_var (n := 2) rfl (by first | exact Or.inl rfl | exact Or.inr (Or.inl rfl) | exact Or.inr (Or.inr rfl)) rfl) (by omega) (fun _ => rfl)) rfl (fun _ _ => rfl) (fun m hm => ?_) (by rw [rgV_length]; omega) (by decide) (by decide) (show lcOut _ _ _ = (othersV ps [i, j]).map ptD from (by subst hn; exact lcOut_eq _ (ptAt ps) ptD _))) ?_
      · have hm := mem_rgV.mp hm
        have a4 := at_pts (ps := ps) (i := m) (by omega) (by omega)
        exact ⟨_, _, ⟨(pxg_name (n := 10) sc_born.nd rfl (by first | exact Or.inl rfl | exact Or.inr rfl) (by first | exact .inl rfl | exact .inr rfl)), (by decide), (pxi_one (pxt_cmp (px_niT (px_var (n := 10) rfl (by first | exact Or.inl rfl | exact Or.inr (Or.inl rfl) | exact Or.inr (Or.inr rfl)) rfl) (px_tupI (pxi1 (px_var (n := 3) rfl (by first | exact Or.inl rfl | exact Or.inr (Or.inl rfl) | exact Or.inr (Or.inr rfl)) rfl) (pxi1 (px_var (n := 5) rfl (by first | exact Or.inl rfl | exact Or.inr (Or.inl rfl) | exact Or.inr (Or.inr rfl)) rfl) pxi0 (fun _ => rfl)) (fun _ => rfl)))) rfl)), fun hc => (px_ixT (px_var (n := 0) rfl (by first | exact Or.inl rfl | exact Or.inr (Or.inl rfl) | exact Or.inr (Or.inr rfl)) rfl) (px_var (n := 10) rfl (by first | exact Or.inl rfl | exact Or.inr (Or.inl rfl) | exact Or.inr (Or.inr rfl)) rfl) (by first | assumption | rfl) (fun _ _ => rfl))⟩⟩
      (try conv => arg 3; simp only [slots, wipeD, List.map, List.length, List.append, List.replicate, List.set_cons_zero, List.set_cons_succ, List.cons_append, List.nil_append, Nat.add_sub_cancel])
      
      have hol : (othersV ps [i, j]).length ≤ 12 := by
        unfold othersV
        rw [List.length_map]
        refine Nat.le_trans (List.length_filter_le _ _) ?_
        rw [rgV_length]; omega
      refine pxb_one (pxs_if (pxt_cmp (px_eqNil (px_lcE (enc := ptD) (ts := othersV ps [i, j]) (cond := fun p => decide (0 < inDiamV (ptAt ps i) (ptAt ps j) p)) (y := ptD) (own := [("p", 11)]) sc_born.nd (src_list (px_var (n := 8) rfl (by first | exact Or.inl rfl | exact Or.inr (Or.inl rfl) | exact Or.inr (Or.inr rfl)) rfl)) rfl (fun _ _ => rfl) (fun p hp => ?_) (by omega) (rfl : lcOut _ _ _ = (List.filter _ _).map ptD)) (shaped_pts _)) (nomark _)) (fun h2 => ?_) fun h2 => ?_)
      · have b4 := (g.gp p (mem_othersV hp)).bp
        exact ⟨_, _, ⟨(pxg_name (n := 11) sc_born.nd rfl (by first | exact Or.inl rfl | exact Or.inr rfl) (by first | exact .inl rfl | exact .inr rfl)), (by decide), (pxi_one (pxt_cmp (px_gt (px_call h_in_diameter (Nat.le_of_ble_eq_true rfl) rfl (pxa_cons (px_ixT (px_var (n := 0) rfl (by first | exact Or.inl rfl | exact Or.inr (Or.inl rfl) | exact Or.inr (Or.inr rfl)) rfl) (px_var (n := 3) rfl (by first | exact Or.inl rfl | exact Or.inr (Or.inl rfl) | exact Or.inr (Or.inr rfl)) rfl) (by first | assumption | rfl) (fun _ _ => rfl)) (pxa_cons (px_ixT (px_var (n := 0) rfl (by first | exact Or.inl rfl | exact Or.inr (Or.inl rfl) | exact Or.inr (Or.inr rfl)) rfl) (px_var (n := 5) rfl (by first | exact Or.inl rfl | exact Or.inr (Or.inl rfl) | exact Or.inr (Or.inr rfl)) rfl) (by first | assumption | rfl) (fun _ _ => rfl)) (pxa_cons (px_var (n := 11) rfl (by first | exact Or.inl rfl | exact Or.inr (Or.inl rfl) | exact Or.inr (Or.inr rfl)) rfl) pxa_nil (fun _ => rfl)) (fun _ => rfl)) (fun _ => rfl)) (r_p3 (by assumption) (by assumption) (by assumption)) rfl (fun _ => rfl) (fun _ => rfl)) px_int) (nomark _))), fun hc => (px_var (n := 11) rfl (by first | exact Or.inl rfl | exact Or.inr (Or.inl rfl) | exact Or.inr (Or.inr rfl)) rfl)⟩⟩
      · unfold lcOut at h2
        rw [isEmpty_map] at h2
        refine pxb_one (PXS.weak (pxs_dput (n := 1) (k := [i, j]) (d := rtD (timesV (far2V (ptAt ps i) (ptAt ps j)) (1, 4))) rfl (by first | exact Or.inl rfl | exact Or.inr (Or.inl rfl) | exact Or.inr (Or.inr rfl)) rfl (px_tupI (pxi1 (px_var (n := 3) rfl (by first | exact Or.inl rfl | exact Or.inr (Or.inl rfl) | exact Or.inr (Or.inr rfl)) rfl) (pxi1 (px_var (n := 5) rfl (by first | exact Or.inl rfl | exact Or.inr (Or.inl rfl) | exact Or.inr (Or.inr rfl)) rfl) pxi0 (fun _ => rfl)) (fun _ => rfl))) (px_call h_times (Nat.le_of_ble_eq_true rfl) rfl (pxa_cons (px_call h_far2 (Nat.le_of_ble_eq_true rfl) rfl (pxa_cons (px_ixT (px_var (n := 0) rfl (by first | exact Or.inl rfl | exact Or.inr (Or.inl rfl) | exact Or.inr (Or.inr rfl)) rfl) (px_var (n := 3) rfl (by first | exact Or.inl rfl | exact Or.inr (Or.inl rfl) | exact Or.inr (Or.inr rfl)) rfl) (by first | assumption | rfl) (fun _ _ => rfl)) (pxa_cons (px_ixT (px_var (n := 0) rfl (by first | exact Or.inl rfl | exact Or.inr (Or.inl rfl) | exact Or.inr (Or.inr rfl)) rfl) (px_var (n := 5) rfl (by first | exact Or.inl rfl | exact Or.inr (Or.inl rfl) | exact Or.inr (Or.inr rfl)) rfl) (by first | assumption | rfl) (fun _ _ => rfl)) pxa_nil (fun _ => rfl)) (fun _ => rfl)) (r_far2 (by assumption) (by assumption) (by assumption) (by assumption)) rfl (fun _ => rfl) (fun _ => rfl)) (pxa_cons (px_globR rfl hQ) pxa_nil (fun _ => rfl)) (fun _ => rfl)) (.inr ⟨_, _, f2, f1, hQ2, rfl, rfl⟩) rfl (fun _ => rfl) (fun _ => rfl)) hk hl (fun _ => rfl)) ?_)
        rintro _ rfl
        · have : b2G birth3 inDiamV far2V ps ts (i, j) = timesV (far2V (ptAt ps i) (ptAt ps j)) (1, 4) := by
            unfold b2G
            rw [show freeG inDiamV ps (i, j) = true from h2]
            rfl
          rw [take_snoc ht, filter_snoc, if_pos (show edgeV n ts (i, j) = true from h), List.map_append, tbD_append, hX, ← List.append_assoc, List.map_singleton, this]
          exact ⟨_, _, _, _, _, rfl⟩
      · unfold lcOut at h2
        rw [isEmpty_map] at h2
        have hne : A.map (b3G birth3 ps) ≠ [] := by
          intro e
          have e2 : A = [] := List.map_eq_nil_iff.mp e
          rw [hA, e2] at h
          have h4 : n = 2 := by
            have h5 : (n : Int) = 2 := by simpa using h
            omega
          have : othersV ps [i, j] = [] := by
            unfold othersV
            rw [hn, h4]
            have i0 : i = 0 := by omega
            have j1 : j = 1 := by omega
            subst i0; subst j1
            rfl
          rw [this] at h2
          cases h2
        have hbr : ∀ v ∈ A.map (b3G birth3 ps), BR 100000 v := by
          intro v hv
          obtain ⟨t, ht, rfl⟩ := List.mem_map.mp hv
          rw [← hA] at ht
          exact (birth3_bd g (hts t (List.mem_filter.mp ht).1)).mono (by decide)
        refine pxb_one (PXS.weak (pxs_dput (n := 1) rfl (by first | exact Or.inl rfl | exact Or.inr (Or.inl rfl) | exact Or.inr (Or.inr rfl)) rfl (px_tupI (pxi1 (px_var (n := 3) rfl (by first | exact Or.inl rfl | exact Or.inr (Or.inl rfl) | exact Or.inr (Or.inr rfl)) rfl) (pxi1 (px_var (n := 5) rfl (by first | exact Or.inl rfl | exact Or.inr (Or.inl rfl) | exact Or.inr (Or.inr rfl)) rfl) pxi0 (fun _ => rfl)) (fun _ => rfl))) (px_call h_least_of (Nat.le_of_ble_eq_true rfl) rfl (pxa_cons (px_var (n := 7) rfl (by first | exact Or.inl rfl | exact Or.inr (Or.inl rfl) | exact Or.inr (Or.inr rfl)) rfl) pxa_nil (fun _ => rfl)) (r_least (by assumption) (by assumption)) rfl (fun _ => rfl) (fun _ => rfl)) (by assumption) (by first | assumption | omega) (fun _ => rfl)) ?_)
        rintro _ rfl
        · have : b2G birth3 inDiamV far2V ps ts (i, j) = leastV (A.map (b3G birth3 ps)) := by
            unfold b2G
            rw [show freeG inDiamV ps (i, j) = false from h2, hA]
            rfl
          rw [take_snoc ht, filter_snoc, if_pos (show edgeV n ts (i, j) = true from h), List.map_append, tbD_append, hX, ← List.append_assoc, List.map_singleton, this]
          exact ⟨_, _, _, _, _, rfl⟩
    · rw [isEmpty_map, isEmpty_map, ← hA] at h
      refine pxb_nil ?_
      rw [take_snoc ht, filter_snoc, if_neg (by rw [show edgeV n ts (i, j) = false from h]; decide), List.append_nil, hX]
      exact ⟨_, _, _, _, _, rfl⟩
  · rintro _ ⟨o1, o2, o3, o7, o8, rfl⟩
    rw [List.take_of_length_le (Nat.le_refl _)]
    refine ⟨o1, o2, o3, o7, o8, ?_⟩
    unfold bornV bornG
    rw [tbD_append, hT, hn]
    rfl
  · rintro _ ⟨o1, o2, o3, o7, o8, rfl⟩
    refine pxb_freezeT (n := 1) (tb := tbD (bornV ps)) rfl ?_
    (try conv => arg 3; simp only [slots, wipeD, List.map, List.length, List.append, List.replicate, List.set_cons_zero, List.set_cons_succ, List.cons_append, List.nil_append, Nat.add_sub_cancel])
    
    exact pxb_one (pxs_ret (px_var (n := 1) rfl (by first | exact Or.inl rfl | exact Or.inr (Or.inl rfl) | exact Or.inr (Or.inr rfl)) rfl) (by first | rfl | done))
end
end M
namespace M
open L2 PyProof.Rows PySem.Spec PySem
def R_lborn (ss : List Sl) (s : Sl) : Prop := ∃ ps, Gen ps ∧ ss = [psS ps] ∧ s = .t (tbD (lbornV ps))
theorem r_lborn {ps : List P3} (h : Gen ps) : R_lborn [psS ps] (.t (tbD (lbornV ps))) := ⟨ps, h, rfl, rfl⟩
def R_lfar2 (ss : List Sl) (s : Sl) : Prop := ∃ a b, BP 1000 a ∧ BP 1000 b ∧ a.2.2 ≠ 0 ∧ b.2.2 ≠ 0 ∧ ss = [pS a, pS b] ∧ s = rS (lfar2V a b)
def R_larea2 (ss : List Sl) (s : Sl) : Prop := ∃ a b c, BP 1000 a ∧ BP 1000 b ∧ BP 1000 c ∧ a.2.2 ≠ 0 ∧ b.2.2 ≠ 0 ∧ c.2.2 ≠ 0 ∧ ss = [pS a, pS b, pS c] ∧ s = rS (larea2V a b c)
theorem ldoubled_eq {a b c : P3} (h : a.2.2 ≠ 0) : ldoubledV a b c = doubledV a b c := by
  unfold ldoubledV doubledV
  obtain ⟨ax, ay, aw⟩ := a
  obtain ⟨bx, by_, bw⟩ := b
  obtain ⟨cx, cy, cw⟩ := c
  dsimp only at *
  rw [show (bx * aw - ax * bw) * (cy * aw - ay * cw) - (cx * aw - ax * cw) * (by_ * aw - ay * bw) = aw * (ax * (by_ * cw - cy * bw) - ay * (bx * cw - cx * bw) + aw * (bx * cy - cx * by_)) by grind]
  exact Int.mul_fdiv_cancel_left _ h
theorem lfar2_bd {a b : P3} (ha : GP a) (hb : GP b) : BR 100 (lfar2V a b) ∧ (lfar2V a b).2 ≠ 0 := by
  have x : Bd 30 (a.1 * b.2.2 - b.1 * a.2.2) := bd_mono (bd_sub (bd_mul ha.x hb.bw) (bd_mul hb.x ha.bw)) (by decide)
  have y : Bd 30 (a.2.1 * b.2.2 - b.2.1 * a.2.2) := bd_mono (bd_sub (bd_mul ha.y hb.bw) (bd_mul hb.y ha.bw)) (by decide)
  have w : Bd 30 (a.2.2 * a.2.2 * b.2.2 * b.2.2) := bd_mono (bd_mul (bd_mul (bd_mul ha.bw ha.bw) hb.bw) hb.bw) (by decide)
  have n : a.2.2 * a.2.2 * b.2.2 * b.2.2 ≠ 0 := Int.mul_ne_zero (Int.mul_ne_zero (Int.mul_ne_zero ha.w0 ha.w0) hb.w0) hb.w0
  refine ⟨(redV_bd (bd_add (bd_mul x x) (bd_mul y y)) w).mono (by decide), ?_⟩
  have := redV_pos (n := (a.1 * b.2.2 - b.1 * a.2.2) * (a.1 * b.2.2 - b.1 * a.2.2) + (a.2.1 * b.2.2 - b.2.1 * a.2.2) * (a.2.1 * b.2.2 - b.2.1 * a.2.2)) n
  unfold lfar2V
  dsimp only
  omega
theorem times_bd {n m : Nat} {a b : Rt} (ha : BR n a) (hb : BR m b) : BR (n + m) (timesV a b) := (redV_bd (bd_mul ha.1 hb.1) (bd_mul ha.2 hb.2)).mono (by omega)
theorem times_ne {a b : Rt} (ha : a.2 ≠ 0) (hb : b.2 ≠ 0) : (timesV a b).2 ≠ 0 := by
  have := redV_pos (n := a.1 * b.1) (Int.mul_ne_zero ha hb)
  unfold timesV
  omega
theorem red1_ne {n d : Int} (h : n ≠ 0) : (redV n d).1 ≠ 0 := fdiv_ne (comV_dvd n d).1 h
structure LB (a b c : P3) : Prop where
  f1 : BR 3000 (lfar2V a b)
  n1 : (lfar2V a b).2 ≠ 0
  f2 : BR 3000 (lfar2V b c)
  n2 : (lfar2V b c).2 ≠ 0
  f3 : BR 3000 (lfar2V c a)
  n3 : (lfar2V c a).2 ≠ 0
  f4 : BR 3000 (timesV (lfar2V a b) (lfar2V b c))
  n4 : (timesV (lfar2V a b) (lfar2V b c)).2 ≠ 0
  f5 : BR 300 (timesV (timesV (lfar2V a b) (lfar2V b c)) (lfar2V c a))
  n5 : (timesV (timesV (lfar2V a b) (lfar2V b c)) (lfar2V c a)).2 ≠ 0
  f6 : BR 3000 (larea2V a b c)
  n6 : (larea2V a b c).2 ≠ 0
  f7 : BR 300 (timesV (larea2V a b c) (larea2V a b c))
  n7 : (timesV (larea2V a b c) (larea2V a b c)).2 ≠ 0
  m7 : (timesV (larea2V a b c) (larea2V a b c)).1 ≠ 0
theorem lb_of {a b c : P3} (ha : GP a) (hb : GP b) (hc : GP c) (hd : doubledV a b c ≠ 0) : LB a b c := by
  obtain ⟨f1, n1⟩ := lfar2_bd ha hb
  obtain ⟨f2, n2⟩ := lfar2_bd hb hc
  obtain ⟨f3, n3⟩ := lfar2_bd hc ha
  have f4 := times_bd f1 f2
  have n4 := times_ne n1 n2
  have f5 := times_bd f4 f3
  have n5 := times_ne n4 n3
  have bd : Bd 80 (doubledV a b c) := by
    unfold doubledV
    have t1 := bd_mul ha.x (bd_sub (bd_mul hb.y hc.bw) (bd_mul hc.y hb.bw))
    have t2 := bd_mul ha.y (bd_sub (bd_mul hb.x hc.bw) (bd_mul hc.x hb.bw))
    have t3 := bd_mul ha.bw (bd_sub (bd_mul hb.x hc.y) (bd_mul hc.x hb.y))
    exact bd_mono (bd_add (bd_sub t1 t2) t3) (by decide)
  have w : Bd 80 (a.2.2 * b.2.2 * c.2.2) := bd_mono (bd_mul (bd_mul ha.bw hb.bw) hc.bw) (by decide)
  have wn : a.2.2 * b.2.2 * c.2.2 ≠ 0 := Int.mul_ne_zero (Int.mul_ne_zero ha.w0 hb.w0) hc.w0
  have f6 : BR 80 (larea2V a b c) := by
    unfold larea2V
    rw [ldoubled_eq ha.w0]
    exact (redV_bd bd w).mono (by decide)
  have n6 : (larea2V a b c).2 ≠ 0 := by
    have := redV_pos (n := ldoubledV a b c) wn
    unfold larea2V
    omega
  have m6 : (larea2V a b c).1 ≠ 0 := by
    unfold larea2V
    rw [ldoubled_eq ha.w0]
    exact red1_ne hd
  have f7 := times_bd f6 f6
  have n7 := times_ne n6 n6
  have m7 : (timesV (larea2V a b c) (larea2V a b c)).1 ≠ 0 := red1_ne (Int.mul_ne_zero m6 m6)
  exact ⟨f1.mono (by decide), n1, f2.mono (by decide), n2, f3.mono (by decide), n3, f4.mono (by decide), n4, f5.mono (by decide), n5, f6.mono (by decide), n6, f7.mono (by decide), n7, m7⟩
theorem lbirth3_bd {a b c : P3} (h : LB a b c) : BR 1000 (lbirth3 a b c) := by
  unfold lbirth3
  exact (redV_bd (bd_mul h.f5.1 h.f7.2) (bd_mul (bd_mul h.f5.2 h.f7.1) (show Bd 3 (4 : Int) by decide))).mono (by decide)
section
variable {P : Program} {w : World} {K : PySem.W.Frag} {mg : Str → Option Value} {base : Heap}
theorem fn_L_births (B : Blt mg) (D : DefAt K mg "_law_births" s_L_births ["_law_points"]) (h_L_triples : Fn P w K mg base "_law_triples" R_triples 1) (h_L_pairs : Fn P w K mg base "_law_pairs" R_pairs 1) (h_L_in_circle : Fn P w K mg base "_law_in_circle" (R_side lcircV) 3) (h_L_in_diameter : Fn P w K mg base "_law_in_diameter" (R_p3 lDiamV) 2) (h_L_times : Fn P w K mg base "_law_times" R_times 3) (h_L_far2 : Fn P w K mg base "_law_far2" R_lfar2 3) (h_L_area2 : Fn P w K mg base "_law_area2" R_larea2 3) (h_L_ratio : Fn P w K mg base "_law_ratio" R_red 2) (h_L_less : Fn P w K mg base "_law_less" R_below 1) : Fn P w K mg base "_law_births" R_lborn 4 := by
  -- def _law_births
  refine fn_at D sc_L_births (by rintro _ _ ⟨r, _, rfl, rfl⟩; rfl) ?_
  rintro _ _ ⟨ps, g, rfl, rfl⟩
  have l2 := g.l2
  (refine pxb_seq (pxs_par3N (n1 := 1) (n2 := 2) (n3 := 3) sc_L_births.nd rfl rfl rfl (by decide) (by decide) (by decide) rfl rfl rfl (pxan_own pxn_dictT (pxan_p (px_lenT B.len rfl (px_var (n := 0) rfl (by first | exact Or.inl rfl | exact Or.inr (Or.inl rfl) | exact Or.inr (Or.inr rfl)) rfl) (fun _ => rfl)) rfl (pxan_own (pxn_lst (ds := []) pxa_nil) pxan_nil (fun _ => rfl)) (fun _ => rfl)) (fun _ => rfl)) rfl (fun _ => rfl)) ?_); (try conv => arg 3; simp only [slots, wipeD, List.map, List.length, List.append, List.replicate, List.set_cons_zero, List.set_cons_succ, List.cons_append, List.nil_append, Nat.add_sub_cancel])
  rw [List.length_map]
  generalize hn : ps.length = n at *
  refine pxb_cons (nx1 := fun δ' => ∃ o1, δ' = [some (psS ps), some (.u (tb13 n [] (b3G lbirth3 ps))), some (iS n), some (.o []), o1, none, none, none, none, none, none, none, none, none, none, none, none, none]) (pxs_forT (enc := PyData.int) (ts := rgV 0 n) (fun q δ' => ∃ o1, δ' = [some (psS ps), some (.u (tbD (((rgV 0 n).take q).map fun i => ([i], (0, 1))))), some (iS n), some (.o []), o1, none, none, none, none, none, none, none, none, none, none, none, none, none]) (src_range1V B.range rfl (px_var (n := 2) rfl (by first | exact Or.inl rfl | exact Or.inr (Or.inl rfl) | exact Or.inr (Or.inr rfl)) rfl) (by omega) (fun _ => rfl)) ⟨_, rfl⟩ ?_ ?_ (fun _ _ => rfl)) ?_
  · rintro q i _ hi ⟨o1, rfl⟩
    have hk : tbGet (tbD (((rgV 0 n).take q).map fun i => ([i], (0, 1)))) [i] = none := by
      apply tbGet_none
      intro e he
      unfold tbD at he
      rw [List.map_map] at he
      obtain ⟨i', hi', rfl⟩ := List.mem_map.mp he
      intro z
      have z' : i' = i := (List.cons.inj z).1
      subst z'
      exact not_before (rgV_nodup _ _) hi hi'
    have hl : (tbD (((rgV 0 n).take q).map fun i => ([i], (0, 1)))).length < 100000 := by
      unfold tbD
      rw [List.length_map, List.length_map, List.length_take, rgV_length]; omega
    refine ⟨_, _, (pxg_name (n := 4) sc_L_births.nd rfl (by first | exact Or.inl rfl | exact Or.inr rfl) (.inl rfl)), ?_⟩
    (try conv => arg 3; simp only [slots, wipeD, List.map, List.length, List.append, List.replicate, List.set_cons_zero, List.set_cons_succ, List.cons_append, List.nil_append, Nat.add_sub_cancel])
    refine pxb_one (PXS.weak (pxs_dput (n := 1) rfl (by first | exact Or.inl rfl | exact Or.inr (Or.inl rfl) | exact Or.inr (Or.inr rfl)) rfl (px_tupI (pxi1 (px_var (n := 4) rfl (by first | exact Or.inl rfl | exact Or.inr (Or.inl rfl) | exact Or.inr (Or.inr rfl)) rfl) pxi0 (fun _ => rfl))) (px_tupI (pxi1 px_int (pxi1 px_int pxi0 (fun _ => rfl)) (fun _ => rfl))) (by assumption) (by first | assumption | omega) (fun _ => rfl)) ?_)
    rintro _ rfl
    rw [take_snoc hi, List.map_append, tbD_append]
    exact ⟨_, rfl⟩
  · rintro _ ⟨o1, rfl⟩
    rw [List.take_of_length_le (Nat.le_refl _)]
    refine ⟨o1, ?_⟩
    unfold tb13 onesV
    rw [List.map_nil, List.append_nil]
  rintro _ ⟨o1, rfl⟩
  refine pxb_cons (nx1 := fun δ' => ∃ o1 o2 o3 o4 o5 o6 o7 o8 o9, δ' = [some (psS ps), some (.u (tb13 n (trisG lcircV ps) (b3G lbirth3 ps))), some (iS n), some (.o ((trisG lcircV ps).map trD)), o1, o2, o3, o4, o5, o6, o7, o8, o9, none, none, none, none, none]) (pxs_forT (enc := trD) (ts := triplesV n) (fun q δ' => ∃ o1 o2 o3 o4 o5 o6 o7 o8 o9, δ' = [some (psS ps), some (.u (tb13 n (((triplesV n).take q).filter (emptyG lcircV ps)) (b3G lbirth3 ps))), some (iS n), some (.o ((((triplesV n).take q).filter (emptyG lcircV ps)).map trD)), o1, o2, o3, o4, o5, o6, o7, o8, o9, none, none, none, none, none]) (src_list (px_call h_L_triples (Nat.le_of_ble_eq_true rfl) rfl (pxa_cons (px_var (n := 2) rfl (by first | exact Or.inl rfl | exact Or.inr (Or.inl rfl) | exact Or.inr (Or.inr rfl)) rfl) pxa_nil (fun _ => rfl)) (r_triples (by omega)) rfl (fun _ => rfl) (fun _ => rfl))) ⟨_, _, _, _, _, _, _, _, _, rfl⟩ ?_ ?_ (fun _ _ => rfl)) ?_
  · rintro q ⟨i, j, k⟩ _ ht ⟨o1, o2, o3, o4, o5, o6, o7, o8, o9, rfl⟩
    have hm := mem_triplesV.mp (List.mem_of_getElem? ht)
    dsimp only at hm
    have a1 := at_pts (ps := ps) (i := i) (by omega) (by omega)
    have a2 := at_pts (ps := ps) (i := j) (by omega) (by omega)
    have a3 := at_pts (ps := ps) (i := k) (by omega) (by omega)
    have b1 := g.gg (i := i) (by omega) (by omega)
    have b2 := g.gg (i := j) (by omega) (by omega)
    have b3 := g.gg (i := k) (by omega) (by omega)
    have hd := doubled_ne (g.turn i j k (by omega) (by omega) (by omega) (by omega))
    have lb := lb_of b1 b2 b3 hd
    have hb3 : b3G lbirth3 ps (i, j, k) = lbirth3 (ptAt ps i) (ptAt ps j) (ptAt ps k) := rfl
    generalize hts : ((triplesV n).take q).filter (emptyG lcircV ps) = ts
    have htl : ts.length ≤ 64000 := by
      have := triplesV_length n (by omega)
      have h2 := List.length_filter_le (emptyG lcircV ps) ((triplesV n).take q)
      rw [List.length_take] at h2
      rw [hts] at h2
      omega
    have hlen : (ts.map trD).length < 100000 := by rw [List.length_map]; omega
    have hl : (tb13 n ts (b3G lbirth3 ps)).length < 100000 := by rw [tb13_len]; omega
    have hk : tbGet (tb13 n ts (b3G lbirth3 ps)) [i, j, k] = none := tb13_new3 (t := (i, j, k)) fun hin => by
      rw [← hts] at hin
      exact not_before (triplesV_nodup n) ht (List.mem_filter.mp hin).1
    have p1 := b1.bp
    have p2 := b2.bp
    have p3 := b3.bp
    have w1 := b1.w0
    have w2 := b2.w0
    have w3 := b3.w0
    refine ⟨_, _, (pxg_tup (pxgs_cons (pxg_name (n := 4) sc_L_births.nd rfl (by first | exact Or.inl rfl | exact Or.inr rfl) (.inl rfl)) (pxgs_cons (pxg_name (n := 5) sc_L_births.nd rfl (by first | exact Or.inl rfl | exact Or.inr rfl) (.inl rfl)) (pxgs_cons (pxg_name (n := 6) sc_L_births.nd rfl (by first | exact Or.inl rfl | exact Or.inr rfl) (.inl rfl)) pxgs_nil (fun _ => rfl)) (fun _ => rfl)) (fun _ => rfl)) (fun _ => rfl) (fun _ => rfl)), ?_⟩
    (try conv => arg 3; simp only [slots, wipeD, List.map, List.length, List.append, List.replicate, List.set_cons_zero, List.set_cons_succ, List.cons_append, List.nil_append, Nat.add_sub_cancel])
    (refine pxb_seq (pxs_asg (px_tupD (pxd_cons (px_ixT (px_var (n := 0) rfl (by first | exact Or.inl rfl | exact Or.inr (Or.inl rfl) | exact Or.inr (Or.inr rfl)) rfl) (px_var (n := 4) rfl (by first | exact Or.inl rfl | exact Or.inr (Or.inl rfl) | exact Or.inr (Or.inr rfl)) rfl) (by first | assumption | rfl) (fun _ _ => rfl)) (pxd_cons (px_ixT (px_var (n := 0) rfl (by first | exact Or.inl rfl | exact Or.inr (Or.inl rfl) | exact Or.inr (Or.inr rfl)) rfl) (px_var (n := 5) rfl (by first | exact Or.inl rfl | exact Or.inr (Or.inl rfl) | exact Or.inr (Or.inr rfl)) rfl) (by first | assumption | rfl) (fun _ _ => rfl)) (pxd_cons (px_ixT (px_var (n := 0) rfl (by first | exact Or.inl rfl | exact Or.inr (Or.inl rfl) | exact Or.inr (Or.inr rfl)) rfl) (px_var (n := 6) rfl (by first | exact Or.inl rfl | exact Or.inr (Or.inl rfl) | exact Or.inr (Or.inr rfl)) rfl) (by first | assumption | rfl) (fun _ _ => rfl)) pxd_nil (fun _ => rfl)) (fun _ => rfl)) (fun _ => rfl))) (pxg_tup (pxgs_cons (pxg_name (n := 7) sc_L_births.nd rfl (by first | exact Or.inl rfl | exact Or.inr rfl) (.inl rfl)) (pxgs_cons (pxg_name (n := 8) sc_L_births.nd rfl (by first | exact Or.inl rfl | exact Or.inr rfl) (.inl rfl)) (pxgs_cons (pxg_name (n := 9) sc_L_births.nd rfl (by first | exact Or.inl rfl | exact Or.inr rfl) (.inl rfl)) pxgs_nil (fun _ => rfl)) (fun _ => rfl)) (fun _ => rfl)) (fun _ => rfl) (fun _ => rfl)) (fun _ => rfl) rfl (fun _ => rfl)) ?_); (try conv => arg 3; simp only [slots, wipeD, List.map, List.length, List.append, List.replicate, List.set_cons_zero, List.set_cons_succ, List.cons_append, List.nil_append, Nat.add_sub_cancel])
    refine pxb_seq (pxs_setLcE (n := 10) (enc := PyData.int) (ts := rgV 0 n) (cond := fun m => !([i, j, k] : List Int).contains m) (y := fun m => ptD (ptAt ps m)) (own := [("_law_m", 16)]) sc_L_births.nd rfl rfl rfl (src_range1V B.range rfl (px_var (n := 2) rfl (by first | exact Or.inl rfl | exact Or.inr (Or.inl rfl) | exact Or.inr (Or.inr rfl)) rfl) (by omega) (fun _ => rfl)) rfl (fun _ _ => rfl) (fun m hm => ?_) (by rw [rgV_length]; omega) (by decide) (by decide) (show lcOut _ _ _ = (othersV ps [i, j, k]).map ptD from (by subst hn; exact lcOut_eq _ (ptAt ps) ptD _))) ?_
    · have hm := mem_rgV.mp hm
      have a4 := at_pts (ps := ps) (i := m) (by omega) (by omega)
      exact ⟨_, _, ⟨(pxg_name (n := 16) sc_L_births.nd rfl (by first | exact Or.inl rfl | exact Or.inr rfl) (by first | exact .inl rfl | exact .inr rfl)), (by decide), (pxi_one (pxt_cmp (px_niL (px_var (n := 16) rfl (by first | exact Or.inl rfl | exact Or.inr (Or.inl rfl) | exact Or.inr (Or.inr rfl)) rfl) (px_lstI (pxi1 (px_var (n := 4) rfl (by first | exact Or.inl rfl | exact Or.inr (Or.inl rfl) | exact Or.inr (Or.inr rfl)) rfl) (pxi1 (px_var (n := 5) rfl (by first | exact Or.inl rfl | exact Or.inr (Or.inl rfl) | exact Or.inr (Or.inr rfl)) rfl) (pxi1 (px_var (n := 6) rfl (by first | exact Or.inl rfl | exact Or.inr (Or.inl rfl) | exact Or.inr (Or.inr rfl)) rfl) pxi0 (fun _ => rfl)) (fun _ => rfl)) (fun _ => rfl)))) rfl)), fun hc => (px_ixT (px_var (n := 0) rfl (by first | exact Or.inl rfl | exact Or.inr (Or.inl rfl) | exact Or.inr (Or.inr rfl)) rfl) (px_var (n := 16) rfl (by first | exact Or.inl rfl | exact Or.inr (Or.inl rfl) | exact Or.inr (Or.inr rfl)) rfl) (by first | assumption | rfl) (fun _ _ => rfl))⟩⟩
    (try conv => arg 3; simp only [slots, wipeD, List.map, List.length, List.append, List.replicate, List.set_cons_zero, List.set_cons_succ, List.cons_append, List.nil_append, Nat.add_sub_cancel])
    
    have hol : (othersV ps [i, j, k]).length ≤ 12 := by
      unfold othersV
      rw [List.length_map]
      refine Nat.le_trans (List.length_filter_le _ _) ?_
      rw [rgV_length]; omega
    refine pxb_one (pxs_if (pxt_cmp (px_eqNil (px_lcE (enc := ptD) (ts := othersV ps [i, j, k]) (cond := fun p => decide (0 < lcircV (ptAt ps i) (ptAt ps j) (ptAt ps k) p)) (y := ptD) (own := [("_law_p", 17)]) sc_L_births.nd (src_list (px_var (n := 10) rfl (by first | exact Or.inl rfl | exact Or.inr (Or.inl rfl) | exact Or.inr (Or.inr rfl)) rfl)) rfl (fun _ _ => rfl) (fun p hp => ?_) (by omega) (rfl : lcOut _ _ _ = (List.filter _ _).map ptD)) (shaped_pts _)) (nomark _)) (fun h => ?_) fun h => ?_)
    · have b4 := g.gp p (mem_othersV hp)
      exact ⟨_, _, ⟨(pxg_name (n := 17) sc_L_births.nd rfl (by first | exact Or.inl rfl | exact Or.inr rfl) (by first | exact .inl rfl | exact .inr rfl)), (by decide), (pxi_one (pxt_cmp (px_gt (px_call h_L_in_circle (Nat.le_of_ble_eq_true rfl) rfl (pxa_cons (px_var (n := 7) rfl (by first | exact Or.inl rfl | exact Or.inr (Or.inl rfl) | exact Or.inr (Or.inr rfl)) rfl) (pxa_cons (px_var (n := 8) rfl (by first | exact Or.inl rfl | exact Or.inr (Or.inl rfl) | exact Or.inr (Or.inr rfl)) rfl) (pxa_cons (px_var (n := 9) rfl (by first | exact Or.inl rfl | exact Or.inr (Or.inl rfl) | exact Or.inr (Or.inr rfl)) rfl) (pxa_cons (px_var (n := 17) rfl (by first | exact Or.inl rfl | exact Or.inr (Or.inl rfl) | exact Or.inr (Or.inr rfl)) rfl) pxa_nil (fun _ => rfl)) (fun _ => rfl)) (fun _ => rfl)) (fun _ => rfl)) (r_side (by assumption) (by assumption) (by assumption) (by assumption)) rfl (fun _ => rfl) (fun _ => rfl)) px_int) (nomark _))), fun hc => (px_var (n := 17) rfl (by first | exact Or.inl rfl | exact Or.inr (Or.inl rfl) | exact Or.inr (Or.inr rfl)) rfl)⟩⟩
    · unfold lcOut at h
      rw [isEmpty_map] at h
      refine pxb_seq (pxs_append (n := 3) rfl (by first | exact Or.inl rfl | exact Or.inr (Or.inl rfl) | exact Or.inr (Or.inr rfl)) rfl (px_tupI (pxi1 (px_var (n := 4) rfl (by first | exact Or.inl rfl | exact Or.inr (Or.inl rfl) | exact Or.inr (Or.inr rfl)) rfl) (pxi1 (px_var (n := 5) rfl (by first | exact Or.inl rfl | exact Or.inr (Or.inl rfl) | exact Or.inr (Or.inr rfl)) rfl) (pxi1 (px_var (n := 6) rfl (by first | exact Or.inl rfl | exact Or.inr (Or.inl rfl) | exact Or.inr (Or.inr rfl)) rfl) pxi0 (fun _ => rfl)) (fun _ => rfl)) (fun _ => rfl))) (by first | assumption | omega) (fun _ => rfl) (fun _ => rfl) rfl (fun _ => rfl) (fun _ => rfl) (fun _ => rfl)) ?_
      (try conv => arg 3; simp only [slots, wipeD, List.map, List.length, List.append, List.replicate, List.set_cons_zero, List.set_cons_succ, List.cons_append, List.nil_append, Nat.add_sub_cancel])
      obtain ⟨f1, n1, f2, n2, f3, n3, f4, n4, f5, n5, f6, n6, f7, n7, m7⟩ := lb
      (refine pxb_seq (pxs_set (n := 11) sc_L_births.nd rfl (by first | exact Or.inl rfl | exact Or.inr rfl) (.inl rfl) (px_call h_L_times (Nat.le_of_ble_eq_true rfl) rfl (pxa_cons (px_call h_L_times (Nat.le_of_ble_eq_true rfl) rfl (pxa_cons (px_call h_L_far2 (Nat.le_of_ble_eq_true rfl) rfl (pxa_cons (px_var (n := 7) rfl (by first | exact Or.inl rfl | exact Or.inr (Or.inl rfl) | exact Or.inr (Or.inr rfl)) rfl) (pxa_cons (px_var (n := 8) rfl (by first | exact Or.inl rfl | exact Or.inr (Or.inl rfl) | exact Or.inr (Or.inr rfl)) rfl) pxa_nil (fun _ => rfl)) (fun _ => rfl)) ⟨_, _, by assumption, by assumption, by assumption, by assumption, rfl, rfl⟩ rfl (fun _ => rfl) (fun _ => rfl)) (pxa_cons (px_call h_L_far2 (Nat.le_of_ble_eq_true rfl) rfl (pxa_cons (px_var (n := 8) rfl (by first | exact Or.inl rfl | exact Or.inr (Or.inl rfl) | exact Or.inr (Or.inr rfl)) rfl) (pxa_cons (px_var (n := 9) rfl (by first | exact Or.inl rfl | exact Or.inr (Or.inl rfl) | exact Or.inr (Or.inr rfl)) rfl) pxa_nil (fun _ => rfl)) (fun _ => rfl)) ⟨_, _, by assumption, by assumption, by assumption, by assumption, rfl, rfl⟩ rfl (fun _ => rfl) (fun _ => rfl)) pxa_nil (fun _ => rfl)) (fun _ => rfl)) (r_times (by assumption) (by assumption) (by assumption) (by assumption)) rfl (fun _ => rfl) (fun _ => rfl)) (pxa_cons (px_call h_L_far2 (Nat.le_of_ble_eq_true rfl) rfl (pxa_cons (px_var (n := 9) rfl (by first | exact Or.inl rfl | exact Or.inr (Or.inl rfl) | exact Or.inr (Or.inr rfl)) rfl) (pxa_cons (px_var (n := 7) rfl (by first | exact Or.inl rfl | exact Or.inr (Or.inl rfl) | exact Or.inr (Or.inr rfl)) rfl) pxa_nil (fun _ => rfl)) (fun _ => rfl)) ⟨_, _, by assumption, by assumption, by assumption, by assumption, rfl, rfl⟩ rfl (fun _ => rfl) (fun _ => rfl)) pxa_nil (fun _ => rfl)) (fun _ => rfl)) (r_times (by assumption) (by assumption) (by assumption) (by assumption)) rfl (fun _ => rfl) (fun _ => rfl)) rfl (fun _ => rfl)) ?_); (try conv => arg 3; simp only [slots, wipeD, List.map, List.length, List.append, List.replicate, List.set_cons_zero, List.set_cons_succ, List.cons_append, List.nil_append, Nat.add_sub_cancel])
      (refine pxb_seq (pxs_set (n := 12) sc_L_births.nd rfl (by first | exact Or.inl rfl | exact Or.inr rfl) (.inl rfl) (px_call h_L_area2 (Nat.le_of_ble_eq_true rfl) rfl (pxa_cons (px_var (n := 7) rfl (by first | exact Or.inl rfl | exact Or.inr (Or.inl rfl) | exact Or.inr (Or.inr rfl)) rfl) (pxa_cons (px_var (n := 8) rfl (by first | exact Or.inl rfl | exact Or.inr (Or.inl rfl) | exact Or.inr (Or.inr rfl)) rfl) (pxa_cons (px_var (n := 9) rfl (by first | exact Or.inl rfl | exact Or.inr (Or.inl rfl) | exact Or.inr (Or.inr rfl)) rfl) pxa_nil (fun _ => rfl)) (fun _ => rfl)) (fun _ => rfl)) ⟨_, _, _, by assumption, by assumption, by assumption, by assumption, by assumption, by assumption, rfl, rfl⟩ rfl (fun _ => rfl) (fun _ => rfl)) rfl (fun _ => rfl)) ?_); (try conv => arg 3; simp only [slots, wipeD, List.map, List.length, List.append, List.replicate, List.set_cons_zero, List.set_cons_succ, List.cons_append, List.nil_append, Nat.add_sub_cancel])
      (refine pxb_seq (pxs_set (n := 12) sc_L_births.nd rfl (by first | exact Or.inl rfl | exact Or.inr rfl) (.inl rfl) (px_call h_L_times (Nat.le_of_ble_eq_true rfl) rfl (pxa_cons (px_var (n := 12) rfl (by first | exact Or.inl rfl | exact Or.inr (Or.inl rfl) | exact Or.inr (Or.inr rfl)) rfl) (pxa_cons (px_var (n := 12) rfl (by first | exact Or.inl rfl | exact Or.inr (Or.inl rfl) | exact Or.inr (Or.inr rfl)) rfl) pxa_nil (fun _ => rfl)) (fun _ => rfl)) (r_times (by assumption) (by assumption) (by assumption) (by assumption)) rfl (fun _ => rfl) (fun _ => rfl)) rfl (fun _ => rfl)) ?_); (try conv => arg 3; simp only [slots, wipeD, List.map, List.length, List.append, List.replicate, List.set_cons_zero, List.set_cons_succ, List.cons_append, List.nil_append, Nat.add_sub_cancel])
      have hd1 : (timesV (timesV (lfar2V (ptAt ps i) (ptAt ps j)) (lfar2V (ptAt ps j) (ptAt ps k))) (lfar2V (ptAt ps k) (ptAt ps i))).2 * (timesV (larea2V (ptAt ps i) (ptAt ps j) (ptAt ps k)) (larea2V (ptAt ps i) (ptAt ps j) (ptAt ps k))).1 * 4 ≠ 0 := Int.mul_ne_zero (Int.mul_ne_zero n5 m7) (by decide)
      have hd2 : Bd 8000 ((timesV (timesV (lfar2V (ptAt ps i) (ptAt ps j)) (lfar2V (ptAt ps j) (ptAt ps k))) (lfar2V (ptAt ps k) (ptAt ps i))).2 * (timesV (larea2V (ptAt ps i) (ptAt ps j) (ptAt ps k)) (larea2V (ptAt ps i) (ptAt ps j) (ptAt ps k))).1 * 4) := bd_mono (bd_mul (bd_mul f5.2 f7.1) (show Bd 3 (4 : Int) by decide)) (by decide)
      obtain ⟨f51, f52⟩ := f5
      obtain ⟨f71, f72⟩ := f7
      have b4 : Bd 3 (4 : Int) := by decide
      refine pxb_one (PXS.weak (pxs_dput (n := 1) rfl (by first | exact Or.inl rfl | exact Or.inr (Or.inl rfl) | exact Or.inr (Or.inr rfl)) rfl (px_tupI (pxi1 (px_var (n := 4) rfl (by first | exact Or.inl rfl | exact Or.inr (Or.inl rfl) | exact Or.inr (Or.inr rfl)) rfl) (pxi1 (px_var (n := 5) rfl (by first | exact Or.inl rfl | exact Or.inr (Or.inl rfl) | exact Or.inr (Or.inr rfl)) rfl) (pxi1 (px_var (n := 6) rfl (by first | exact Or.inl rfl | exact Or.inr (Or.inl rfl) | exact Or.inr (Or.inr rfl)) rfl) pxi0 (fun _ => rfl)) (fun _ => rfl)) (fun _ => rfl))) (px_call h_L_ratio (Nat.le_of_ble_eq_true rfl) rfl (pxa_cons (px_mul (px_ixT (px_var (n := 11) rfl (by first | exact Or.inl rfl | exact Or.inr (Or.inl rfl) | exact Or.inr (Or.inr rfl)) rfl) px_int (by first | assumption | rfl) (fun _ _ => rfl)) (px_ixT (px_var (n := 12) rfl (by first | exact Or.inl rfl | exact Or.inr (Or.inl rfl) | exact Or.inr (Or.inr rfl)) rfl) px_int (by first | assumption | rfl) (fun _ _ => rfl)) (mulW (by repeat first | assumption | exact (by decide : Bd 64 _) | apply bd_mul | apply bd_add | apply bd_sub | apply bd_neg) (by repeat first | assumption | exact (by decide : Bd 64 _) | apply bd_mul | apply bd_add | apply bd_sub | apply bd_neg) (by decide))) (pxa_cons (px_mul (px_mul (px_ixT (px_var (n := 11) rfl (by first | exact Or.inl rfl | exact Or.inr (Or.inl rfl) | exact Or.inr (Or.inr rfl)) rfl) px_int (by first | assumption | rfl) (fun _ _ => rfl)) (px_ixT (px_var (n := 12) rfl (by first | exact Or.inl rfl | exact Or.inr (Or.inl rfl) | exact Or.inr (Or.inr rfl)) rfl) px_int (by first | assumption | rfl) (fun _ _ => rfl)) (mulW (by repeat first | assumption | exact (by decide : Bd 64 _) | apply bd_mul | apply bd_add | apply bd_sub | apply bd_neg) (by repeat first | assumption | exact (by decide : Bd 64 _) | apply bd_mul | apply bd_add | apply bd_sub | apply bd_neg) (by decide))) px_int (mulW (by repeat first | assumption | exact (by decide : Bd 64 _) | apply bd_mul | apply bd_add | apply bd_sub | apply bd_neg) (by repeat first | assumption | exact (by decide : Bd 64 _) | apply bd_mul | apply bd_add | apply bd_sub | apply bd_neg) (by decide))) pxa_nil (fun _ => rfl)) (fun _ => rfl)) (r_red (by assumption) (by assumption)) rfl (fun _ => rfl) (fun _ => rfl)) (by assumption) (by first | assumption | omega) (fun _ => rfl)) ?_)
      rintro _ rfl
      rw [take_snoc ht, filter_snoc, if_pos (show emptyG lcircV ps (i, j, k) = true from h), hts, tb13_snoc, List.map_append]
      exact ⟨_, _, _, _, _, _, _, _, _, rfl⟩
    · unfold lcOut at h
      rw [isEmpty_map] at h
      refine pxb_nil ?_
      have h2 : ¬ emptyG lcircV ps (i, j, k) = true := by rw [show emptyG lcircV ps (i, j, k) = false from h]; decide
      rw [take_snoc ht, filter_snoc, if_neg h2, List.append_nil, hts]
      exact ⟨_, _, _, _, _, _, _, _, _, rfl⟩
  · rintro _ ⟨o1, o2, o3, o4, o5, o6, o7, o8, o9, rfl⟩
    rw [List.take_of_length_le (Nat.le_refl _)]
    unfold trisG
    rw [hn]
    exact ⟨_, _, _, _, _, _, _, _, _, rfl⟩
  rintro _ ⟨o1, o2, o3, o4, o5, o6, o7, o8, o9, rfl⟩
  have htl : (trisG lcircV ps).length ≤ 64000 := Nat.le_trans (List.length_filter_le _ _) (triplesV_length _ (by omega))
  have hts : ∀ t ∈ trisG lcircV ps, t ∈ triplesV ps.length := fun t h => trisG_sub h
  refine pxb_freeze (n := 3) (ds := (trisG lcircV ps).map trD) rfl ?_
  (try conv => arg 3; simp only [slots, wipeD, List.map, List.length, List.append, List.replicate, List.set_cons_zero, List.set_cons_succ, List.cons_append, List.nil_append, Nat.add_sub_cancel])
  
  generalize hT : trisG lcircV ps = ts at *
  refine pxb_cons (nx1 := fun δ' => ∃ o1 o2 o3 o4 o5 o6 o7 o8 o9 p1 p2 p3, δ' = [some (psS ps), some (.u (tbD (lbornV ps))), some (iS n), some (.p (.list (ts.map trD))), o1, o2, o3, o4, o5, o6, o7, o8, o9, p1, p2, p3, none, none]) (pxs_forT (enc := prD) (ts := pairsV n) (fun q δ' => ∃ o1 o2 o3 o4 o5 o6 o7 o8 o9 p1 p2 p3, δ' = [some (psS ps), some (.u (tb13 n ts (b3G lbirth3 ps) ++ tbD ((((pairsV n).take q).filter (edgeV n ts)).map fun p => ([p.1, p.2], b2G lbirth3 lDiamV lfar2V ps ts p)))), some (iS n), some (.p (.list (ts.map trD))), o1, o2, o3, o4, o5, o6, o7, o8, o9, p1, p2, p3, none, none]) (src_list (px_call h_L_pairs (Nat.le_of_ble_eq_true rfl) rfl (pxa_cons (px_var (n := 2) rfl (by first | exact Or.inl rfl | exact Or.inr (Or.inl rfl) | exact Or.inr (Or.inr rfl)) rfl) pxa_nil (fun _ => rfl)) (r_pairs (by omega)) rfl (fun _ => rfl) (fun _ => rfl))) ⟨o1, o2, o3, o4, o5, o6, o7, o8, o9, none, none, none, by rw [List.take_zero, List.filter_nil, List.map_nil]; rw [show tbD [] = [] from rfl, List.append_nil]⟩ ?_ ?_ (fun _ _ => rfl)) ?_
  · rintro q ⟨i, j⟩ _ ht ⟨o1, o2, o3, o4, o5, o6, o7, o8, o9, r1, r2, r3, rfl⟩
    have hm := mem_pairsV.mp (List.mem_of_getElem? ht)
    dsimp only at hm
    have a1 := at_pts (ps := ps) (i := i) (by omega) (by omega)
    have a2 := at_pts (ps := ps) (i := j) (by omega) (by omega)
    have b1 := g.gg (i := i) (by omega) (by omega)
    have b2 := g.gg (i := j) (by omega) (by omega)
    have p1 := b1.bp
    have p2 := b2.bp
    have w1 := b1.w0
    have w2 := b2.w0
    obtain ⟨f0, f2⟩ := lfar2_bd b1 b2
    have f1 : BR 3000 (lfar2V (ptAt ps i) (ptAt ps j)) := f0.mono (by decide)
    generalize hX : tbD ((((pairsV n).take q).filter (edgeV n ts)).map fun p => ([p.1, p.2], b2G lbirth3 lDiamV lfar2V ps ts p)) = X
    have hk : tbGet (tb13 n ts (b3G lbirth3 ps) ++ X) [i, j] = none := by
      refine tb13_new (by simp) (by simp) fun e he => ?_
      subst hX
      unfold tbD at he
      rw [List.map_map] at he
      obtain ⟨p', hp', rfl⟩ := List.mem_map.mp he
      intro z
      have z1 : p' = (i, j) := by
        obtain ⟨z1, z2⟩ := List.cons.inj z
        exact Prod.ext z1 (List.cons.inj z2).1
      subst z1
      exact not_before (pairsV_nodup n) ht (List.mem_filter.mp hp').1
    have hl : (tb13 n ts (b3G lbirth3 ps) ++ X).length < 100000 := by
      have h1 := pairsV_length n (by omega)
      have h2 := List.length_filter_le (edgeV n ts) ((pairsV n).take q)
      rw [List.length_take] at h2
      rw [← hX, List.length_append, tb13_len]
      unfold tbD
      rw [List.length_map, List.length_map]
      omega
    refine ⟨_, _, (pxg_tup (pxgs_cons (pxg_name (n := 4) sc_L_births.nd rfl (by first | exact Or.inl rfl | exact Or.inr rfl) (.inl rfl)) (pxgs_cons (pxg_name (n := 5) sc_L_births.nd rfl (by first | exact Or.inl rfl | exact Or.inr rfl) (.inl rfl)) pxgs_nil (fun _ => rfl)) (fun _ => rfl)) (fun _ => rfl) (fun _ => rfl)), ?_⟩
    (try conv => arg 3; simp only [slots, wipeD, List.map, List.length, List.append, List.replicate, List.set_cons_zero, List.set_cons_succ, List.cons_append, List.nil_append, Nat.add_sub_cancel])
    refine pxb_seq (pxs_setLcE (n := 13) (enc := trD) (ts := ts) (cond := fun t => (ptL t).contains i && (ptL t).contains j) (y := trD) (own := [("_law_triple", 15)]) sc_L_births.nd rfl rfl rfl (src_list (px_var (n := 3) rfl (by first | exact Or.inl rfl | exact Or.inr (Or.inl rfl) | exact Or.inr (Or.inr rfl)) rfl)) rfl (fun _ _ => rfl) (fun t hm => ?_) (by omega) (by decide) (by decide) (show lcOut _ _ _ = (aroundV ts (i, j)).map trD from rfl)) ?_
    · obtain ⟨t1, t2, t3⟩ := t
      exact ⟨_, _, ⟨(pxg_name (n := 15) sc_L_births.nd rfl (by first | exact Or.inl rfl | exact Or.inr rfl) (by first | exact .inl rfl | exact .inr rfl)), (by decide), (pxi_one (PXW.pt (pxw_and (pxt_cmp (px_inT (px_var (n := 4) rfl (by first | exact Or.inl rfl | exact Or.inr (Or.inl rfl) | exact Or.inr (Or.inr rfl)) rfl) (px_var (n := 15) rfl (by first | exact Or.inl rfl | exact Or.inr (Or.inl rfl) | exact Or.inr (Or.inr rfl)) rfl)) rfl) (fun _ => (pxw_and1 (pxt_cmp (px_inT (px_var (n := 5) rfl (by first | exact Or.inl rfl | exact Or.inr (Or.inl rfl) | exact Or.inr (Or.inr rfl)) rfl) (px_var (n := 15) rfl (by first | exact Or.inl rfl | exact Or.inr (Or.inl rfl) | exact Or.inr (Or.inr rfl)) rfl)) rfl)))))), fun hc => (px_var (n := 15) rfl (by first | exact Or.inl rfl | exact Or.inr (Or.inl rfl) | exact Or.inr (Or.inr rfl)) rfl)⟩⟩
    (try conv => arg 3; simp only [slots, wipeD, List.map, List.length, List.append, List.replicate, List.set_cons_zero, List.set_cons_succ, List.cons_append, List.nil_append, Nat.add_sub_cancel])
    
    generalize hA : aroundV ts (i, j) = A
    have hAs : ∀ t ∈ A, t ∈ ts := fun t h => by rw [← hA] at h; exact (List.mem_filter.mp h).1
    have hsh := shaped_pts A
    refine pxb_one (pxs_if (PXW.pt (pxw_or (pxt_cmp (px_neNil (px_var (n := 13) rfl (by first | exact Or.inl rfl | exact Or.inr (Or.inl rfl) | exact Or.inr (Or.inr rfl)) rfl) (by first | exact shaped_tups _ | exact shaped_listI _ | assumption)) (nomark _)) (fun _ => (pxw_or1 (pxt_cmp (px_eqI (px_var (n := 2) rfl (by first | exact Or.inl rfl | exact Or.inr (Or.inl rfl) | exact Or.inr (Or.inr rfl)) rfl) px_int) (nomark _)))))) (fun h => ?_) fun h => ?_)
    · rw [isEmpty_map, ← hA] at h
      refine pxb_seq (pxs_setLcE (n := 10) (enc := PyData.int) (ts := rgV 0 n) (cond := fun m => !([i, j] : List Int).contains m) (y := fun m => ptD (ptAt ps m)) (own := [("_law_m", 16)]) sc_L_births.nd rfl rfl rfl (src_range1V B.range rfl (px_var (n := 2) rfl (by first | exact Or.inl rfl | exact Or.inr (Or.inl rfl) | exact Or.inr (Or.inr rfl)) rfl) (by omega) (fun _ => rfl)) rfl (fun _ _ => rfl) (fun m hm => ?_) (by rw [rgV_length]; omega) (by decide) (by decide) (show lcOut _ _ _ = (othersV ps [i, j]).map ptD from (by subst hn; exact lcOut_eq _ (ptAt ps) ptD _))) ?_
      · have hm := mem_rgV.mp hm
        have a4 := at_pts (ps := ps) (i := m) (by omega) (by omega)
        exact ⟨_, _, ⟨(pxg_name (n := 16) sc_L_births.nd rfl (by first | exact Or.inl rfl | exact Or.inr rfl) (by first | exact .inl rfl | exact .inr rfl)), (by decide), (pxi_one (pxt_cmp (px_niL (px_var (n := 16) rfl (by first | exact Or.inl rfl | exact Or.inr (Or.inl rfl) | exact Or.inr (Or.inr rfl)) rfl) (px_lstI (pxi1 (px_var (n := 4) rfl (by first | exact Or.inl rfl | exact Or.inr (Or.inl rfl) | exact Or.inr (Or.inr rfl)) rfl) (pxi1 (px_var (n := 5) rfl (by first | exact Or.inl rfl | exact Or.inr (Or.inl rfl) | exact Or.inr (Or.inr rfl)) rfl) pxi0 (fun _ => rfl)) (fun _ => rfl)))) rfl)), fun hc => (px_ixT (px_var (n := 0) rfl (by first | exact Or.inl rfl | exact Or.inr (Or.inl rfl) | exact Or.inr (Or.inr rfl)) rfl) (px_var (n := 16) rfl (by first | exact Or.inl rfl | exact Or.inr (Or.inl rfl) | exact Or.inr (Or.inr rfl)) rfl) (by first | assumption | rfl) (fun _ _ => rfl))⟩⟩
      (try conv => arg 3; simp only [slots, wipeD, List.map, List.length, List.append, List.replicate, List.set_cons_zero, List.set_cons_succ, List.cons_append, List.nil_append, Nat.add_sub_cancel])
      
      have hol : (othersV ps [i, j]).length ≤ 12 := by
        unfold othersV
        rw [List.length_map]
        refine Nat.le_trans (List.length_filter_le _ _) ?_
        rw [rgV_length]; omega
      refine pxb_seq (pxs_set (n := 14) sc_L_births.nd rfl (by first | exact Or.inl rfl | exact Or.inr rfl) (.inl rfl) (px_call (s := rS (timesV (lfar2V (ptAt ps i) (ptAt ps j)) (1, 4))) h_L_times (Nat.le_of_ble_eq_true rfl) rfl (pxa_cons (px_call h_L_far2 (Nat.le_of_ble_eq_true rfl) rfl (pxa_cons (px_ixT (px_var (n := 0) rfl (by first | exact Or.inl rfl | exact Or.inr (Or.inl rfl) | exact Or.inr (Or.inr rfl)) rfl) (px_var (n := 4) rfl (by first | exact Or.inl rfl | exact Or.inr (Or.inl rfl) | exact Or.inr (Or.inr rfl)) rfl) (by first | assumption | rfl) (fun _ _ => rfl)) (pxa_cons (px_ixT (px_var (n := 0) rfl (by first | exact Or.inl rfl | exact Or.inr (Or.inl rfl) | exact Or.inr (Or.inr rfl)) rfl) (px_var (n := 5) rfl (by first | exact Or.inl rfl | exact Or.inr (Or.inl rfl) | exact Or.inr (Or.inr rfl)) rfl) (by first | assumption | rfl) (fun _ _ => rfl)) pxa_nil (fun _ => rfl)) (fun _ => rfl)) ⟨_, _, by assumption, by assumption, by assumption, by assumption, rfl, rfl⟩ rfl (fun _ => rfl) (fun _ => rfl)) (pxa_cons (px_tupI (pxi1 px_int (pxi1 px_int pxi0 (fun _ => rfl)) (fun _ => rfl))) pxa_nil (fun _ => rfl)) (fun _ => rfl)) ⟨_, (1, 4), f2, by decide, f1, ⟨bd_mono (n := 3) (by decide) (by decide), bd_mono (n := 3) (by decide) (by decide)⟩, rfl, rfl⟩ rfl (fun _ => rfl) (fun _ => rfl)) rfl (fun _ => rfl)) ?_
      (try conv => arg 3; simp only [slots, wipeD, List.map, List.length, List.append, List.replicate, List.set_cons_zero, List.set_cons_succ, List.cons_append, List.nil_append, Nat.add_sub_cancel])
      
      refine pxb_cons (nx1 := fun δ' => ∃ o3 o4 o5 o6 o7 o8 o9 p1 p3, δ' = [some (psS ps), some (.u (tb13 n ts (b3G lbirth3 ps) ++ X)), some (iS n), some (.p (.list (ts.map trD))), some (iS i), some (iS j), o3, o4, o5, o6, o7, o8, o9, p1, some (rS (b2G lbirth3 lDiamV lfar2V ps ts (i, j))), p3, none, none]) (pxs_if (pxt_cmp (px_neNil (px_lcE (enc := ptD) (ts := othersV ps [i, j]) (cond := fun p => decide (0 < lDiamV (ptAt ps i) (ptAt ps j) p)) (y := ptD) (own := [("_law_p", 17)]) sc_L_births.nd (src_list (px_var (n := 10) rfl (by first | exact Or.inl rfl | exact Or.inr (Or.inl rfl) | exact Or.inr (Or.inr rfl)) rfl)) rfl (fun _ _ => rfl) (fun p hp => ?_) (by omega) (rfl : lcOut _ _ _ = (List.filter _ _).map ptD)) (shaped_pts _)) (nomark _)) (fun h2 => ?_) fun h2 => ?_) ?_
      · have b4 := (g.gp p (mem_othersV hp)).bp
        exact ⟨_, _, ⟨(pxg_name (n := 17) sc_L_births.nd rfl (by first | exact Or.inl rfl | exact Or.inr rfl) (by first | exact .inl rfl | exact .inr rfl)), (by decide), (pxi_one (pxt_cmp (px_gt (px_call h_L_in_diameter (Nat.le_of_ble_eq_true rfl) rfl (pxa_cons (px_ixT (px_var (n := 0) rfl (by first | exact Or.inl rfl | exact Or.inr (Or.inl rfl) | exact Or.inr (Or.inr rfl)) rfl) (px_var (n := 4) rfl (by first | exact Or.inl rfl | exact Or.inr (Or.inl rfl) | exact Or.inr (Or.inr rfl)) rfl) (by first | assumption | rfl) (fun _ _ => rfl)) (pxa_cons (px_ixT (px_var (n := 0) rfl (by first | exact Or.inl rfl | exact Or.inr (Or.inl rfl) | exact Or.inr (Or.inr rfl)) rfl) (px_var (n := 5) rfl (by first | exact Or.inl rfl | exact Or.inr (Or.inl rfl) | exact Or.inr (Or.inr rfl)) rfl) (by first | assumption | rfl) (fun _ _ => rfl)) (pxa_cons (px_var (n := 17) rfl (by first | exact Or.inl rfl | exact Or.inr (Or.inl rfl) | exact Or.inr (Or.inr rfl)) rfl) pxa_nil (fun _ => rfl)) (fun _ => rfl)) (fun _ => rfl)) (r_p3 (by assumption) (by assumption) (by assumption)) rfl (fun _ => rfl) (fun _ => rfl)) px_int) (nomark _))), fun hc => (px_var (n := 17) rfl (by first | exact Or.inl rfl | exact Or.inr (Or.inl rfl) | exact Or.inr (Or.inr rfl)) rfl)⟩⟩
      · unfold lcOut at h2
        rw [isEmpty_map] at h2
        have hfr : freeG lDiamV ps (i, j) = false := by
          rw [Bool.not_eq_true'] at h2
          exact h2
        have hne : A ≠ [] := by
          intro e2
          rw [hA, e2] at h
          have h4 : n = 2 := by
            have h5 : (n : Int) = 2 := by simpa using h
            omega
          have : othersV ps [i, j] = [] := by
            unfold othersV
            rw [hn, h4]
            have i0 : i = 0 := by omega
            have j1 : j = 1 := by omega
            subst i0; subst j1
            rfl
          rw [this] at h2
          cases h2
        obtain ⟨t0, tr, rfl⟩ := List.exists_cons_of_ne_nil hne
        have hbr : ∀ t ∈ t0 :: tr, BR 100000 (b3G lbirth3 ps t) := by
          intro t ht
          have hm := mem_triplesV.mp (hts t (hAs t ht))
          have g1 := g.gg hm.1 (by omega)
          have g2 := g.gg (i := t.2.1) (by omega) (by omega)
          have g3 := g.gg (i := t.2.2) (by omega) (by omega)
          exact (lbirth3_bd (lb_of g1 g2 g3 (doubled_ne (g.turn t.1 t.2.1 t.2.2 hm.1 hm.2.1 hm.2.2.1 (by omega))))).mono (by decide)
        have h0 : atI ((t0 :: tr).map trD) 0 = some (trD t0) := by
          unfold atI ixN
          rw [if_pos (by omega), if_pos (by simp)]
          rfl
        have hg0 := tb13_get (n := n) (b := b3G lbirth3 ps) X (hAs t0 List.mem_cons_self)
        (refine pxb_seq (pxs_set (n := 14) sc_L_births.nd rfl (by first | exact Or.inl rfl | exact Or.inr rfl) (.inl rfl) (px_dgetU (px_var (n := 1) rfl (by first | exact Or.inl rfl | exact Or.inr (Or.inl rfl) | exact Or.inr (Or.inr rfl)) rfl) (px_ixL (px_var (n := 13) rfl (by first | exact Or.inl rfl | exact Or.inr (Or.inl rfl) | exact Or.inr (Or.inr rfl)) rfl) px_int (by first | assumption | rfl) (fun _ _ => rfl)) (by assumption) (fun _ _ => rfl)) rfl (fun _ => rfl)) ?_); (try conv => arg 3; simp only [slots, wipeD, List.map, List.length, List.append, List.replicate, List.set_cons_zero, List.set_cons_succ, List.cons_append, List.nil_append, Nat.add_sub_cancel])
        
        refine pxb_one (pxs_forT (enc := trD) (ts := t0 :: tr) (fun k δ' => ∃ b p3, BR 100000 b ∧ b = ((((t0 :: tr).take k).map (b3G lbirth3 ps)).foldl (fun best v => cond (belowV v best) v best) (b3G lbirth3 ps t0)) ∧ δ' = [some (psS ps), some (.u (tb13 n ts (b3G lbirth3 ps) ++ X)), some (iS n), some (.p (.list (ts.map trD))), some (iS i), some (iS j), o3, o4, o5, o6, some (.p (.list ((othersV ps [i, j]).map ptD))), o8, o9, some (.p (.list ((t0 :: tr).map trD))), some (rS b), p3, none, none]) (src_list (px_var (n := 13) rfl (by first | exact Or.inl rfl | exact Or.inr (Or.inl rfl) | exact Or.inr (Or.inr rfl)) rfl)) ⟨b3G lbirth3 ps t0, _, hbr t0 List.mem_cons_self, rfl, rfl⟩ ?_ ?_ (fun _ _ => rfl))
        · rintro k ⟨t1, t2, t3⟩ _ hv ⟨b, p3, bb, eb, rfl⟩
          have hmem := List.mem_of_getElem? hv
          have hv2 := hbr _ hmem
          have hg := tb13_get (n := n) (b := b3G lbirth3 ps) X (hAs _ hmem)
          refine ⟨_, _, (pxg_name (n := 15) sc_L_births.nd rfl (by first | exact Or.inl rfl | exact Or.inr rfl) (.inl rfl)), ?_⟩
          (try conv => arg 3; simp only [slots, wipeD, List.map, List.length, List.append, List.replicate, List.set_cons_zero, List.set_cons_succ, List.cons_append, List.nil_append, Nat.add_sub_cancel])
          refine pxb_one (PXS.weak (pxs_set (n := 14) sc_L_births.nd rfl (by first | exact Or.inl rfl | exact Or.inr rfl) (.inl rfl) (px_ifD (d1 := rtD (b3G lbirth3 ps (t1, t2, t3))) (d2 := rtD b) (pxt_val (px_call h_L_less (Nat.le_of_ble_eq_true rfl) rfl (pxa_cons (px_dgetU (px_var (n := 1) rfl (by first | exact Or.inl rfl | exact Or.inr (Or.inl rfl) | exact Or.inr (Or.inr rfl)) rfl) (px_var (n := 15) rfl (by first | exact Or.inl rfl | exact Or.inr (Or.inl rfl) | exact Or.inr (Or.inr rfl)) rfl) (by assumption) (fun _ _ => rfl)) (pxa_cons (px_var (n := 14) rfl (by first | exact Or.inl rfl | exact Or.inr (Or.inl rfl) | exact Or.inr (Or.inr rfl)) rfl) pxa_nil (fun _ => rfl)) (fun _ => rfl)) (r_below (by assumption) (by assumption)) rfl (fun _ => rfl) (fun _ => rfl)) (fun _ _ => rfl)) (fun _ => (px_dgetU (px_var (n := 1) rfl (by first | exact Or.inl rfl | exact Or.inr (Or.inl rfl) | exact Or.inr (Or.inr rfl)) rfl) (px_var (n := 15) rfl (by first | exact Or.inl rfl | exact Or.inr (Or.inl rfl) | exact Or.inr (Or.inr rfl)) rfl) (by assumption) (fun _ _ => rfl))) (fun _ => (px_var (n := 14) rfl (by first | exact Or.inl rfl | exact Or.inr (Or.inl rfl) | exact Or.inr (Or.inr rfl)) rfl))) rfl (fun _ => rfl)) ?_)
          rintro _ rfl
          refine ⟨cond (belowV (b3G lbirth3 ps (t1, t2, t3)) b) (b3G lbirth3 ps (t1, t2, t3)) b, some (pS (t1, t2, t3)), by cases belowV (b3G lbirth3 ps (t1, t2, t3)) b <;> assumption, ?_, ?_⟩
          · rw [take_snoc hv, List.map_append, List.foldl_append, ← eb]
            rfl
          · cases belowV (b3G lbirth3 ps (t1, t2, t3)) b <;> rfl
        · rintro _ ⟨b, p3, bb, eb, rfl⟩
          rw [List.take_of_length_le (Nat.le_refl _)] at eb
          have : b2G lbirth3 lDiamV lfar2V ps ts (i, j) = b := by
            unfold b2G
            rw [hfr, hA, eb]
            rfl
          rw [this]
          exact ⟨_, _, _, _, _, _, _, _, _, rfl⟩
      · unfold lcOut at h2
        rw [isEmpty_map] at h2
        have hfr : freeG lDiamV ps (i, j) = true := by
          rw [Bool.not_eq_false'] at h2
          exact h2
        have : b2G lbirth3 lDiamV lfar2V ps ts (i, j) = timesV (lfar2V (ptAt ps i) (ptAt ps j)) (1, 4) := by
          unfold b2G
          rw [hfr]
          rfl
        rw [this]
        exact pxb_nil ⟨_, _, _, _, _, _, _, _, _, rfl⟩
      rintro _ ⟨o3, o4, o5, o6, o7, o8, o9, p1, p3, rfl⟩
      refine pxb_one (PXS.weak (pxs_dput (n := 1) rfl (by first | exact Or.inl rfl | exact Or.inr (Or.inl rfl) | exact Or.inr (Or.inr rfl)) rfl (px_tupI (pxi1 (px_var (n := 4) rfl (by first | exact Or.inl rfl | exact Or.inr (Or.inl rfl) | exact Or.inr (Or.inr rfl)) rfl) (pxi1 (px_var (n := 5) rfl (by first | exact Or.inl rfl | exact Or.inr (Or.inl rfl) | exact Or.inr (Or.inr rfl)) rfl) pxi0 (fun _ => rfl)) (fun _ => rfl))) (px_var (n := 14) rfl (by first | exact Or.inl rfl | exact Or.inr (Or.inl rfl) | exact Or.inr (Or.inr rfl)) rfl) (by assumption) (by first | assumption | omega) (fun _ => rfl)) ?_)
      rintro _ rfl
      rw [take_snoc ht, filter_snoc, if_pos (show edgeV n ts (i, j) = true from h), List.map_append, tbD_append, hX, ← List.append_assoc, List.map_singleton]
      exact ⟨_, _, _, _, _, _, _, _, _, _, _, _, rfl⟩
    · rw [isEmpty_map, ← hA] at h
      refine pxb_nil ?_
      rw [take_snoc ht, filter_snoc, if_neg (by rw [show edgeV n ts (i, j) = false from h]; decide), List.append_nil, hX]
      exact ⟨_, _, _, _, _, _, _, _, _, _, _, _, rfl⟩
  · rintro _ ⟨o1, o2, o3, o4, o5, o6, o7, o8, o9, p1, p2, p3, rfl⟩
    rw [List.take_of_length_le (Nat.le_refl _)]
    refine ⟨o1, o2, o3, o4, o5, o6, o7, o8, o9, p1, p2, p3, ?_⟩
    unfold lbornV bornG
    rw [tbD_append, hT, hn]
    rfl
  · rintro _ ⟨o1, o2, o3, o4, o5, o6, o7, o8, o9, p1, p2, p3, rfl⟩
    refine pxb_freezeT (n := 1) (tb := tbD (lbornV ps)) rfl ?_
    (try conv => arg 3; simp only [slots, wipeD, List.map, List.length, List.append, List.replicate, List.set_cons_zero, List.set_cons_succ, List.cons_append, List.nil_append, Nat.add_sub_cancel])
    
    exact pxb_one (pxs_ret (px_var (n := 1) rfl (by first | exact Or.inl rfl | exact Or.inr (Or.inl rfl) | exact Or.inr (Or.inr rfl)) rfl) (by first | rfl | done))
end
end M
namespace M
/-! ### rank over two elements -/
abbrev Vec := Int → Bool
def vadd (u v : Vec) : Vec := fun x => xor (u x) (v x)
def vzero : Vec := fun _ => false
def vec (l : List Int) : Vec := fun x => l.contains x
theorem vadd_comm (u v : Vec) : vadd u v = vadd v u := funext fun x => Bool.xor_comm _ _
theorem vadd_assoc (u v w : Vec) : vadd (vadd u v) w = vadd u (vadd v w) := funext fun x => Bool.xor_assoc _ _ _
theorem vadd_self (u : Vec) : vadd u u = vzero := funext fun x => Bool.xor_self _
theorem vadd_zero (u : Vec) : vadd u vzero = u := funext fun x => Bool.xor_false _
theorem zero_vadd (u : Vec) : vadd vzero u = u := funext fun x => Bool.false_xor _
theorem vadd_cancel (u v : Vec) : vadd (vadd u v) v = u := by rw [vadd_assoc, vadd_self, vadd_zero]
def sp : List Vec → Vec → Prop
  | [], v => v = vzero
  | a :: vs, v => sp vs v ∨ sp vs (vadd v a)
theorem sp_zero : ∀ vs : List Vec, sp vs vzero
  | [] => rfl
  | _ :: vs => .inl (sp_zero vs)
theorem sp_add : ∀ (vs : List Vec) {u v : Vec}, sp vs u → sp vs v → sp vs (vadd u v)
  | [], _, _, hu, hv => by rw [show _ = vzero from hu, show _ = vzero from hv]; exact vadd_self _
  | a :: vs, u, v, hu, hv => by
    rcases hu with hu | hu <;> rcases hv with hv | hv
    · exact .inl (sp_add vs hu hv)
    · refine .inr ?_
      rw [vadd_assoc]
      exact sp_add vs hu hv
    · refine .inr ?_
      rw [vadd_comm u v, vadd_assoc]
      exact sp_add vs hv hu
    · refine .inl ?_
      have := sp_add vs hu hv
      rw [vadd_comm v a, ← vadd_assoc, vadd_cancel] at this
      exact this
theorem sp_head (a : Vec) (vs : List Vec) : sp (a :: vs) a := .inr (by rw [vadd_self]; exact sp_zero vs)
theorem sp_tail {a v : Vec} {vs : List Vec} (h : sp vs v) : sp (a :: vs) v := .inl h
theorem sp_mem : ∀ {vs : List Vec} {v : Vec}, v ∈ vs → sp vs v
  | a :: vs, v, h => by
    rcases List.mem_cons.mp h with e | h
    · rw [e]; exact sp_head a vs
    · exact sp_tail (sp_mem h)
theorem sp_sub : ∀ {vs ws : List Vec} {v : Vec}, (∀ u ∈ vs, sp ws u) → sp vs v → sp ws v
  | [], ws, v, _, h => by rw [show v = vzero from h]; exact sp_zero ws
  | a :: vs, ws, v, h, hv => by
    rcases hv with hv | hv
    · exact sp_sub (fun u hu => h u (List.mem_cons_of_mem _ hu)) hv
    · have h1 := sp_sub (fun u hu => h u (List.mem_cons_of_mem _ hu)) hv
      have h2 := sp_add ws h1 (h a List.mem_cons_self)
      rw [vadd_cancel] at h2
      exact h2
theorem sp_iff_add {vs : List Vec} {u v : Vec} (h : sp vs v) : sp vs (vadd u v) ↔ sp vs u := by
  constructor
  · intro k
    have := sp_add vs k h
    rw [vadd_cancel] at this
    exact this
  · exact fun k => sp_add vs k h
open Classical in
noncomputable def rk : List Vec → Nat
  | [] => 0
  | a :: vs => rk vs + if sp vs a then 0 else 1
theorem rk_in {a : Vec} {vs : List Vec} (h : sp vs a) : rk (a :: vs) = rk vs := by rw [rk, if_pos h, Nat.add_zero]
theorem rk_out {a : Vec} {vs : List Vec} (h : ¬ sp vs a) : rk (a :: vs) = rk vs + 1 := by rw [rk, if_neg h]
theorem rk_swap (a b : Vec) (vs : List Vec) : rk (a :: b :: vs) = rk (b :: a :: vs) := by
  by_cases ha : sp vs a <;> by_cases hb : sp vs b
  · rw [rk_in (sp_tail ha), rk_in hb, rk_in (sp_tail hb), rk_in ha]
  · rw [rk_in (sp_tail ha), rk_out hb, rk_out (a := b) (vs := a :: vs), rk_in ha]
    intro h
    rcases h with h | h
    · exact hb h
    · exact hb ((sp_iff_add ha).mp h)
  · rw [rk_out (a := a) (vs := b :: vs), rk_in hb, rk_in (sp_tail hb), rk_out ha]
    intro h
    rcases h with h | h
    · exact ha h
    · exact ha ((sp_iff_add hb).mp h)
  · by_cases hab : sp vs (vadd a b)
    · rw [rk_in (a := a) (vs := b :: vs) (.inr hab), rk_out hb, rk_in (a := b) (vs := a :: vs) (.inr (by rw [vadd_comm]; exact hab)), rk_out ha]
    · rw [rk_out (a := a) (vs := b :: vs), rk_out hb, rk_out (a := b) (vs := a :: vs), rk_out ha]
      · rintro (h | h)
        · exact hb h
        · rw [vadd_comm] at h; exact hab h
      · rintro (h | h)
        · exact ha h
        · exact hab h
theorem sp_perm {vs ws : List Vec} (p : vs.Perm ws) (v : Vec) : sp vs v ↔ sp ws v :=
  ⟨sp_sub fun u hu => sp_mem (p.mem_iff.mp hu), sp_sub fun u hu => sp_mem (p.mem_iff.mpr hu)⟩
theorem rk_perm {vs ws : List Vec} (p : vs.Perm ws) : rk vs = rk ws := by
  induction p with
  | nil => rfl
  | cons x p ih =>
    rename_i l1 l2
    by_cases h : sp l1 x
    · rw [rk_in h, rk_in ((sp_perm p x).mp h), ih]
    · rw [rk_out h, rk_out (fun k => h ((sp_perm p x).mpr k)), ih]
  | swap x y l => exact rk_swap y x l
  | trans _ _ h1 h2 => exact h1.trans h2
theorem sp_congr {a : Vec} {vs ws : List Vec} (h : ∀ v, sp vs v ↔ sp ws v) : ∀ v, sp (a :: vs) v ↔ sp (a :: ws) v := fun v => or_congr (h v) (h _)
theorem rk_cons_congr {a : Vec} {vs ws : List Vec} (h : ∀ v, sp vs v ↔ sp ws v) (e : rk vs = rk ws) : rk (a :: vs) = rk (a :: ws) := by
  by_cases k : sp vs a
  · rw [rk_in k, rk_in ((h a).mp k), e]
  · rw [rk_out k, rk_out (fun z => k ((h a).mpr z)), e]
/-- a row operation with the head -/
theorem rk_op (l : Vec) : ∀ (f : Vec → Bool) (vs : List Vec), (∀ v, sp (l :: vs) v ↔ sp (l :: vs.map fun u => cond (f u) (vadd u l) u) v) ∧ rk (l :: vs) = rk (l :: vs.map fun u => cond (f u) (vadd u l) u)
  | f, [] => ⟨fun _ => Iff.rfl, rfl⟩
  | f, a :: vs => by
    obtain ⟨h1, h2⟩ := rk_op l f vs
    rw [List.map_cons]
    generalize vs.map (fun u => cond (f u) (vadd u l) u) = ws at *
    have key : sp (l :: vs) a ↔ sp (l :: ws) (cond (f a) (vadd a l) a) := by
      rw [h1]
      cases f a with
      | true => exact (sp_iff_add (sp_head l ws)).symm
      | false => exact Iff.rfl
    have hsp : ∀ v, sp (a :: l :: vs) v ↔ sp ((cond (f a) (vadd a l) a) :: l :: ws) v := by
      intro v
      cases f a with
      | false => exact sp_congr h1 v
      | true =>
        show sp (l :: vs) v ∨ sp (l :: vs) (vadd v a) ↔ sp (l :: ws) v ∨ sp (l :: ws) (vadd v (vadd a l))
        rw [h1, h1, ← vadd_assoc, sp_iff_add (sp_head l ws)]
    constructor
    · intro v
      rw [sp_perm (List.Perm.swap a l vs), sp_perm (List.Perm.swap (cond (f a) (vadd a l) a) l ws)]
      exact hsp v
    · rw [rk_swap, rk_swap l]
      by_cases k : sp (l :: vs) a
      · rw [rk_in k, rk_in (key.mp k), h2]
      · rw [rk_out k, rk_out (fun z => k (key.mpr z)), h2]
/-- a linear form that is 0 on the list but 1 on v -/
theorem not_sp_of {vs : List Vec} {v : Vec} (f : Vec → Bool) (hf : ∀ a b, f (vadd a b) = xor (f a) (f b)) (h0 : ∀ u ∈ vs, f u = false) (h1 : f v = true) : ¬ sp vs v := by
  have fz : f vzero = false := by
    have := hf vzero vzero
    rw [vadd_self, Bool.xor_self] at this
    exact this
  have gen : ∀ (vs : List Vec) (v : Vec), (∀ u ∈ vs, f u = false) → sp vs v → f v = false := by
    intro vs
    induction vs with
    | nil => intro v _ h; rw [show v = vzero from h]; exact fz
    | cons a vs ih =>
      intro v h hv
      rcases hv with hv | hv
      · exact ih v (fun u hu => h u (List.mem_cons_of_mem _ hu)) hv
      · have := ih _ (fun u hu => h u (List.mem_cons_of_mem _ hu)) hv
        rw [hf, h a List.mem_cons_self, Bool.xor_false] at this
        exact this
  intro hs
  rw [gen vs v h0 hs] at h1
  cases h1
theorem rk_le (vs : List Vec) : rk vs ≤ vs.length := by
  induction vs with
  | nil => exact Nat.le_refl _
  | cons a vs ih =>
    by_cases h : sp vs a
    · rw [rk_in h, List.length_cons]; omega
    · rw [rk_out h, List.length_cons]; omega
theorem rk_zeros (vs : List Vec) (h : ∀ v ∈ vs, v = vzero) : rk vs = 0 := by
  induction vs with
  | nil => rfl
  | cons a vs ih =>
    rw [rk_in, ih fun v hv => h v (List.mem_cons_of_mem _ hv)]
    rw [h a List.mem_cons_self]
    exact sp_zero vs
/-! ### lists as such -/
def xorV (a b : List Int) : List Int := a.filter (fun x => !b.contains x) ++ b.filter (fun x => !a.contains x)
theorem vec_xor (a b : List Int) : vec (xorV a b) = vadd (vec a) (vec b) := by
  funext x
  unfold vec vadd xorV
  apply Bool.eq_iff_iff.mpr
  rw [List.contains_iff_mem, List.mem_append, List.mem_filter, List.mem_filter]
  cases ha : a.contains x <;> cases hb : b.contains x <;> simp_all
theorem vec_nil : vec [] = vzero := rfl
theorem mem_xorV {a b : List Int} {x : Int} (h : x ∈ xorV a b) : x ∈ a ∨ x ∈ b := by
  unfold xorV at h
  rcases List.mem_append.mp h with h | h
  · exact .inl (List.mem_filter.mp h).1
  · exact .inr (List.mem_filter.mp h).1
/-! ### the program's basis: rows by their greatest number -/
structure IsTop (l : List Int) (m : Int) : Prop where
  mem : m ∈ l
  le : ∀ y ∈ l, y ≤ m
theorem top_of : ∀ {l : List Int}, l ≠ [] → ∃ m, IsTop l m
  | [], h => absurd rfl h
  | [a], _ => ⟨a, List.mem_singleton.mpr rfl, fun y hy => by rw [List.mem_singleton.mp hy]; exact Int.le_refl _⟩
  | a :: b :: r, _ => by
    obtain ⟨m, h1, h2⟩ := top_of (l := b :: r) (List.cons_ne_nil _ _)
    by_cases h : a ≤ m
    · exact ⟨m, List.mem_cons_of_mem _ h1, fun y hy => by
        rcases List.mem_cons.mp hy with e | hy
        · rw [e]; exact h
        · exact h2 y hy⟩
    · exact ⟨a, List.mem_cons_self, fun y hy => by
        rcases List.mem_cons.mp hy with e | hy
        · rw [e]; exact Int.le_refl _
        · have := h2 y hy; omega⟩
/-- the greatest number where v is -/
def VTop (v : Vec) (m : Int) : Prop := v m = true ∧ ∀ x, v x = true → x ≤ m
theorem IsTop.v {l : List Int} {m : Int} (h : IsTop l m) : VTop (vec l) m := ⟨List.contains_iff_mem.mpr h.mem, fun x hx => h.le x (List.contains_iff_mem.mp hx)⟩
theorem vtop_add {u v : Vec} {m k : Int} (hu : VTop u m) (hv : VTop v k) (h : m ≠ k) : ∃ t, VTop (vadd u v) t ∧ (t = m ∨ t = k) := by
  have gt : ∀ {u v : Vec} {m k : Int}, VTop u m → VTop v k → k < m → VTop (vadd u v) m := by
    intro u v m k hu hv h
    have h1 : v m = false := by
      cases q : v m with
      | false => rfl
      | true => have := hv.2 m q; omega
    refine ⟨by unfold vadd; rw [hu.1, h1]; rfl, fun x hx => ?_⟩
    unfold vadd at hx
    cases q : u x with
    | true => exact hu.2 x q
    | false =>
      rw [q, Bool.false_xor] at hx
      have := hv.2 x hx; omega
  rcases Int.lt_or_gt_of_ne h with h | h
  · exact ⟨k, by rw [vadd_comm]; exact gt hv hu h, .inr rfl⟩
  · exact ⟨m, gt hu hv h, .inl rfl⟩
/-- what distinct tops span has one of them, or is 0 -/
theorem sp_top : ∀ {kv : List (Int × List Int)}, (∀ p ∈ kv, IsTop p.2 p.1) → (kv.map (·.1)).Nodup → ∀ {v : Vec}, sp (kv.map fun p => vec p.2) v → v = vzero ∨ ∃ m, VTop v m ∧ m ∈ kv.map (·.1)
  | [], _, _, v, h => .inl h
  | p :: kv, ht, nd, v, h => by
    have nd' := List.nodup_cons.mp nd
    have ih := fun {v} => @sp_top kv (fun q hq => ht q (List.mem_cons_of_mem _ hq)) nd'.2 v
    rcases h with h | h
    · exact (ih h).imp_right fun ⟨m, h1, h2⟩ => ⟨m, h1, List.mem_cons_of_mem _ h2⟩
    · have hp := (ht p List.mem_cons_self).v
      right
      have e : v = vadd (vadd v (vec p.2)) (vec p.2) := (vadd_cancel _ _).symm
      rcases ih h with z | ⟨m, h1, h2⟩
      · rw [z, zero_vadd] at e
        rw [e]
        exact ⟨p.1, hp, List.mem_cons_self⟩
      · have hne : m ≠ p.1 := fun z => nd'.1 (by rw [z] at h2; exact h2)
        obtain ⟨t, t1, t2⟩ := vtop_add h1 hp hne
        rw [← e] at t1
        refine ⟨t, t1, ?_⟩
        rcases t2 with rfl | rfl
        · exact List.mem_cons_of_mem _ h2
        · exact List.mem_cons_self
structure KInv (N : Int) (rows : List (List Int)) (kv : List (Int × List Int)) : Prop where
  top : ∀ p ∈ kv, IsTop p.2 p.1
  nd : (kv.map (·.1)).Nodup
  bd : ∀ p ∈ kv, ∀ x ∈ p.2, 0 ≤ x ∧ x < N
  span : ∀ v, sp (kv.map fun p => vec p.2) v ↔ sp (rows.map vec) v
  len : kv.length = rk (rows.map vec)
theorem KInv.nil (N : Int) : KInv N [] [] := ⟨(by simp), List.nodup_nil, (by simp), fun _ => Iff.rfl, rfl⟩
/-- the row is spanned: it is reduced to nothing -/
theorem KInv.zero {N : Int} {rows : List (List Int)} {kv : List (Int × List Int)} (K : KInv N rows kv) {r left : List Int} (h : sp (kv.map fun p => vec p.2) (vadd (vec r) (vec left))) (e : left = []) : KInv N (rows ++ [r]) kv := by
  rw [e, vec_nil, vadd_zero, K.span] at h
  have hp : ((rows ++ [r]).map vec).Perm (vec r :: rows.map vec) := by
    rw [List.map_append]
    exact List.perm_append_comm
  refine ⟨K.top, K.nd, K.bd, fun v => ?_, ?_⟩
  · rw [K.span, sp_perm hp]
    exact ⟨sp_tail, fun q => sp_sub (fun u hu => by
      rcases List.mem_cons.mp hu with z | hu
      · rw [z]; exact h
      · exact sp_mem hu) q⟩
  · rw [K.len, rk_perm hp, rk_in h]
/-- .. to a row with a new top -/
theorem KInv.add {N : Int} {rows : List (List Int)} {kv : List (Int × List Int)} (K : KInv N rows kv) {r left : List Int} {m : Int} (h : sp (kv.map fun p => vec p.2) (vadd (vec r) (vec left))) (hb : ∀ x ∈ left, 0 ≤ x ∧ x < N) (t : IsTop left m) (hm : m ∉ kv.map (·.1)) : KInv N (rows ++ [r]) (kv ++ [(m, left)]) := by
  have hp : ((rows ++ [r]).map vec).Perm (vec r :: rows.map vec) := by
    rw [List.map_append]
    exact List.perm_append_comm
  have hp2 : ((kv ++ [(m, left)]).map fun p => vec p.2).Perm (vec left :: kv.map fun p => vec p.2) := by
    rw [List.map_append]
    exact List.perm_append_comm
  have hno : ¬ sp (kv.map fun p => vec p.2) (vec left) := by
    intro hs
    rcases sp_top K.top K.nd hs with z | ⟨k, h1, h2⟩
    · have := t.v.1
      rw [z] at this
      cases this
    · have e1 := h1.2 m t.v.1
      have e2 := t.v.2 k h1.1
      have : k = m := by omega
      subst this
      exact hm h2
  have hnr : ¬ sp (rows.map vec) (vec r) := by
    intro hs
    rw [← K.span] at hs
    apply hno
    have := sp_add _ hs h
    rw [← vadd_assoc, vadd_self, zero_vadd] at this
    exact this
  refine ⟨fun p hp => ?_, ?_, fun p hp => ?_, fun v => ?_, ?_⟩
  · rcases List.mem_append.mp hp with hp | hp
    · exact K.top p hp
    · rw [List.mem_singleton.mp hp]; exact t
  · rw [List.map_append, List.nodup_append]
    refine ⟨K.nd, List.nodup_cons.mpr ⟨by simp, List.nodup_nil⟩, fun x hx y hy e => ?_⟩
    rw [List.map_singleton, List.mem_singleton] at hy
    rw [e, hy] at hx
    exact hm hx
  · rcases List.mem_append.mp hp with hp | hp
    · exact K.bd p hp
    · rw [List.mem_singleton.mp hp]; exact hb
  · rw [sp_perm hp2, sp_perm hp]
    have e1 : ∀ v, sp (vec left :: kv.map fun p => vec p.2) v ↔ sp (vec left :: rows.map vec) v := sp_congr K.span
    rw [e1]
    rw [K.span] at h
    show sp _ v ∨ sp _ (vadd v (vec left)) ↔ sp _ v ∨ sp _ (vadd v (vec r))
    refine or_congr Iff.rfl ?_
    have : vadd v (vec left) = vadd (vadd v (vec r)) (vadd (vec r) (vec left)) := by
      rw [vadd_assoc, ← vadd_assoc (vec r), vadd_self, zero_vadd]
    rw [this, sp_iff_add h]
  · rw [List.length_append, K.len, rk_perm hp, rk_out hnr]
    rfl
/-- one step of the reduction -/
theorem red_step {left o : List Int} {m : Int} (h1 : IsTop left m) (h2 : IsTop o m) : ∀ x ∈ xorV left o, x < m := by
  intro x hx
  have hle : x ≤ m := by
    rcases mem_xorV hx with h | h
    · exact h1.le x h
    · exact h2.le x h
  have hne : x ≠ m := by
    rintro rfl
    have : vec (xorV left o) x = true := List.contains_iff_mem.mpr hx
    rw [vec_xor] at this
    unfold vadd at this
    rw [h1.v.1, h2.v.1] at this
    cases this
  omega
/-! ### the law's columns -/
structure CInv (wide : Int) (rows : List (List Int)) (col : Int) (left : List (List Int)) (rank : Nat) : Prop where
  bd : ∀ l ∈ left, ∀ x ∈ l, col ≤ x ∧ x < wide
  rke : rank + rk (left.map vec) = rk (rows.map vec)
theorem CInv.skip {wide : Int} {rows : List (List Int)} {col : Int} {left : List (List Int)} {rank : Nat} (C : CInv wide rows col left rank) (h : ∀ l ∈ left, col ∉ l) : CInv wide rows (col + 1) left rank := by
  refine ⟨fun l hl x hx => ?_, C.rke⟩
  have h1 := C.bd l hl x hx
  have h2 : x ≠ col := fun e => h l hl (e ▸ hx)
  omega
theorem filter_perm {α : Type} (p : α → Bool) (l : List α) : l.Perm (l.filter p ++ l.filter fun x => !p x) := by
  induction l with
  | nil => exact List.Perm.nil
  | cons a l ih =>
    cases h : p a with
    | true => rw [List.filter_cons_of_pos h, List.filter_cons_of_neg (by simp [h])]; exact List.Perm.cons a ih
    | false =>
      rw [List.filter_cons_of_neg (by simp [h]), List.filter_cons_of_pos (by simp [h])]
      exact (List.Perm.cons a ih).trans (List.perm_middle).symm
theorem CInv.step {wide : Int} {rows : List (List Int)} {col : Int} {left : List (List Int)} {rank : Nat} (C : CInv wide rows col left rank) {lead : List Int} {more : List (List Int)} (h : left.filter (fun l => l.contains col) = lead :: more) :
    CInv wide rows (col + 1) (left.filter (fun l => !l.contains col) ++ more.map fun l => xorV l lead) (rank + 1) := by
  have hs : ∀ l ∈ lead :: more, l ∈ left ∧ col ∈ l := fun l hl => by
    rw [← h] at hl
    have := List.mem_filter.mp hl
    exact ⟨this.1, List.contains_iff_mem.mp this.2⟩
  have hr : ∀ l ∈ left.filter (fun l => !l.contains col), l ∈ left ∧ col ∉ l := fun l hl => by
    have := List.mem_filter.mp hl
    refine ⟨this.1, fun z => ?_⟩
    have z2 := List.contains_iff_mem.mpr z
    rw [z2] at this
    exact absurd this.2 (by decide)
  have hl := hs lead List.mem_cons_self
  have hx : ∀ l ∈ more, vec (xorV l lead) = vadd (vec l) (vec lead) := fun l _ => vec_xor l lead
  have hno : ∀ l ∈ left.filter (fun l => !l.contains col) ++ more.map (fun l => xorV l lead), vec l col = false := by
    intro l hl'
    rcases List.mem_append.mp hl' with q | q
    · have := (hr l q).2
      unfold vec
      cases z : l.contains col with
      | false => rfl
      | true => exact absurd (List.contains_iff_mem.mp z) this
    · obtain ⟨l', hl'', rfl⟩ := List.mem_map.mp q
      rw [vec_xor]
      unfold vadd vec
      rw [List.contains_iff_mem.mpr (hs l' (List.mem_cons_of_mem _ hl'')).2, List.contains_iff_mem.mpr hl.2]
      rfl
  refine ⟨fun l hl' x hxl => ?_, ?_⟩
  · have hne : x ≠ col := by
      rintro rfl
      have := hno l hl'
      rw [show vec l x = true from List.contains_iff_mem.mpr hxl] at this
      cases this
    have hb : col ≤ x ∧ x < wide := by
      rcases List.mem_append.mp hl' with q | q
      · exact C.bd l (hr l q).1 x hxl
      · obtain ⟨l', hl'', rfl⟩ := List.mem_map.mp q
        rcases mem_xorV hxl with z | z
        · exact C.bd l' (hs l' (List.mem_cons_of_mem _ hl'')).1 x z
        · exact C.bd lead hl.1 x z
    omega
  · rw [← C.rke]
    have p1 := filter_perm (fun l : List Int => l.contains col) left
    rw [h] at p1
    have p2 : (left.map vec).Perm (vec lead :: (more ++ left.filter fun x => !x.contains col).map vec) := p1.map vec
    rw [rk_perm p2, (rk_op (vec lead) (fun u => u col) _).2, rk_out]
    · have e : List.map (fun u => cond (u col) (vadd u (vec lead)) u) ((more ++ left.filter fun x => !x.contains col).map vec) = (more.map fun l => xorV l lead).map vec ++ (left.filter fun x => !x.contains col).map vec := by
        rw [List.map_append, List.map_append, List.map_map, List.map_map, List.map_map]
        congr 1
        · apply List.map_congr_left
          intro l hl'
          show cond (vec l col) (vadd (vec l) (vec lead)) (vec l) = vec (xorV l lead)
          rw [show vec l col = true from List.contains_iff_mem.mpr (hs l (List.mem_cons_of_mem _ hl')).2, vec_xor]
          rfl
        · apply List.map_congr_left
          intro l hl'
          show cond (vec l col) (vadd (vec l) (vec lead)) (vec l) = vec l
          have := hno l (List.mem_append_left _ hl')
          rw [this]
          rfl
      rw [e]
      have p3 : ((left.filter (fun l => !l.contains col) ++ more.map fun l => xorV l lead).map vec).Perm ((more.map fun l => xorV l lead).map vec ++ (left.filter fun x => !x.contains col).map vec) := by
        rw [List.map_append]
        exact List.perm_append_comm
      rw [rk_perm p3]
      omega
    · refine not_sp_of (fun u => u col) (fun a b => rfl) (fun u hu => ?_) (List.contains_iff_mem.mpr hl.2)
      obtain ⟨u', hu', rfl⟩ := List.mem_map.mp hu
      cases q : u' col with
      | false => exact q
      | true =>
        show (vadd u' (vec lead)) col = false
        unfold vadd
        rw [q, show vec lead col = true from List.contains_iff_mem.mpr hl.2]
        rfl
theorem CInv.done {wide : Int} {rows : List (List Int)} {left : List (List Int)} {rank : Nat} (C : CInv wide rows wide left rank) : rank = rk (rows.map vec) := by
  rw [← C.rke, rk_zeros, Nat.add_zero]
  intro v hv
  obtain ⟨l, hl, rfl⟩ := List.mem_map.mp hv
  cases l with
  | nil => rfl
  | cons a l =>
    have := C.bd _ hl a List.mem_cons_self
    omega
end M
namespace M
open PyProof.Rows
/-! ### parts -/
theorem len_le_sub {α : Type} : ∀ {l m : List α}, l.Nodup → (∀ x ∈ l, x ∈ m) → l.length ≤ m.length
  | [], m, _, _ => Nat.zero_le _
  | a :: l, m, nd, h => by
    obtain ⟨s, t, e⟩ := List.append_of_mem (h a List.mem_cons_self)
    have nd' := List.nodup_cons.mp nd
    have := len_le_sub (l := l) (m := s ++ t) nd'.2 fun x hx => by
      have h1 := h x (List.mem_cons_of_mem _ hx)
      rw [e] at h1
      have hne : x ≠ a := fun z => nd'.1 (by rw [← z]; exact hx)
      rcases List.mem_append.mp h1 with q | q
      · exact List.mem_append_left _ q
      · rcases List.mem_cons.mp q with z | q
        · exact absurd z hne
        · exact List.mem_append_right _ q
    rw [e, List.length_cons, List.length_append, List.length_cons]
    rw [List.length_append] at this
    omega
theorem len_eq {α : Type} {l m : List α} (h1 : l.Nodup) (h2 : m.Nodup) (h : ∀ x, x ∈ l ↔ x ∈ m) : l.length = m.length :=
  Nat.le_antisymm (len_le_sub h1 fun x hx => (h x).mp hx) (len_le_sub h2 fun x hx => (h x).mpr hx)
theorem dedup_spec : ∀ (ns acc : List Int), acc.Nodup → (ns.foldl step_dedup acc).Nodup ∧ ∀ x, x ∈ ns.foldl step_dedup acc ↔ x ∈ acc ∨ x ∈ ns
  | [], acc, h => ⟨h, fun x => by simp⟩
  | a :: ns, acc, h => by
    rw [List.foldl_cons]
    have hs : (step_dedup acc a).Nodup ∧ ∀ x, x ∈ step_dedup acc a ↔ x ∈ acc ∨ x = a := by
      unfold step_dedup
      by_cases k : acc.any (· == a) = true
      · rw [if_pos k]
        have hm : a ∈ acc := by simpa using k
        exact ⟨h, fun x => ⟨.inl, fun q => q.elim id fun e => by rw [e]; exact hm⟩⟩
      · rw [if_neg k]
        have hm : a ∉ acc := by simpa using k
        refine ⟨?_, fun x => by simp⟩
        rw [List.nodup_append]
        refine ⟨h, by simp, fun x hx y hy e => ?_⟩
        rw [List.mem_singleton] at hy
        rw [e, hy] at hx
        exact hm hx
    obtain ⟨h1, h2⟩ := dedup_spec ns _ hs.1
    refine ⟨h1, fun x => ?_⟩
    rw [h2, hs.2, List.mem_cons, or_assoc]
theorem distinct_spec (ns : List Int) : ∃ l : List Int, l.Nodup ∧ (∀ x, x ∈ l ↔ x ∈ ns) ∧ l.length = distinct ns := by
  have e : (List.range ns.length).map (fun i => ns.getD i 0) = ns := by
    apply List.ext_getElem
    · simp
    · intro i h1 h2
      simp [List.getD_eq_getElem?_getD]
      rw [List.getElem?_eq_getElem h2]
      rfl
  obtain ⟨h1, h2⟩ := dedup_spec ns [] List.nodup_nil
  refine ⟨ns.foldl step_dedup [], h1, fun x => by rw [h2]; simp, ?_⟩
  unfold distinct firstMet
  rw [e]
theorem distinct_of {ns l : List Int} (h1 : l.Nodup) (h2 : ∀ x, x ∈ l ↔ x ∈ ns) : distinct ns = l.length := by
  obtain ⟨m, m1, m2, m3⟩ := distinct_spec ns
  rw [← m3]
  exact len_eq m1 h1 fun x => by rw [m2, h2]
def nmV (ns : List Int) (a : Int) : Int := ns.getD a.toNat 0
def relab (ns : List Int) (i j : Int) : List Int := ns.map fun x => if x = nmV ns i then nmV ns j else x
theorem nmV_get {ns : List Int} {a : Int} (h0 : 0 ≤ a) (h1 : a < ns.length) : ns[a.toNat]? = some (nmV ns a) := by
  unfold nmV
  rw [List.getD_eq_getElem?_getD, List.getElem?_eq_getElem (by omega : a.toNat < ns.length), Option.getD_some]
theorem nmV_mem {ns : List Int} {a : Int} (h0 : 0 ≤ a) (h1 : a < ns.length) : nmV ns a ∈ ns := List.mem_of_getElem? (nmV_get h0 h1)
theorem mem_nmV {ns : List Int} {x : Int} (h : x ∈ ns) : ∃ a : Int, 0 ≤ a ∧ a < ns.length ∧ nmV ns a = x := by
  obtain ⟨i, hi, e⟩ := List.getElem_of_mem h
  refine ⟨i, by omega, by omega, ?_⟩
  unfold nmV
  rw [List.getD_eq_getElem?_getD, Int.toNat_natCast, List.getElem?_eq_getElem hi, Option.getD_some, e]
theorem relab_nm {ns : List Int} {i j a : Int} (h0 : 0 ≤ a) (h1 : a < ns.length) : nmV (relab ns i j) a = if nmV ns a = nmV ns i then nmV ns j else nmV ns a := by
  have := nmV_get h0 h1
  unfold relab
  show (List.map _ ns).getD a.toNat 0 = _
  rw [List.getD_eq_getElem?_getD, List.getElem?_map, this]
  rfl
abbrev pv (p : Int × Int) : Vec := vec [p.1, p.2]
theorem vec2 {a b : Int} (h : a ≠ b) : vec [a, b] = vadd (vec [a]) (vec [b]) := by
  funext x
  unfold vec vadd
  by_cases h1 : x = a
  · subst h1
    simp [h]
  · by_cases h2 : x = b
    · subst h2; simp [h1]
    · simp [h1, h2]
def par (l : List Int) (v : Vec) : Bool := l.foldr (fun a r => xor (v a) r) false
theorem par_add (l : List Int) (u v : Vec) : par l (vadd u v) = xor (par l u) (par l v) := by
  induction l with
  | nil => rfl
  | cons a l ih =>
    show xor (vadd u v a) (par l (vadd u v)) = xor (xor (u a) (par l u)) (xor (v a) (par l v))
    rw [ih]
    unfold vadd
    cases u a <;> cases v a <;> cases par l u <;> cases par l v <;> rfl
theorem par_one {l : List Int} (nd : l.Nodup) (a : Int) : par l (vec [a]) = l.contains a := by
  induction l with
  | nil => rfl
  | cons b l ih =>
    have nd' := List.nodup_cons.mp nd
    show xor (vec [a] b) (par l (vec [a])) = _
    rw [ih nd'.2, List.contains_cons]
    unfold vec
    by_cases h : a = b
    · subst h
      have : l.contains a = false := by
        cases q : l.contains a with
        | false => rfl
        | true => exact absurd (List.contains_iff_mem.mp q) nd'.1
      rw [this]
      simp
    · have h2 : ¬ b = a := fun z => h z.symm
      simp [h, h2]
structure PInv (n : Nat) (prs : List (Int × Int)) (ns : List Int) : Prop where
  len : ns.length = n
  conn : ∀ a b : Int, 0 ≤ a → a < n → 0 ≤ b → b < n → a ≠ b → nmV ns a = nmV ns b → sp (prs.map pv) (vec [a, b])
  edge : ∀ p ∈ prs, nmV ns p.1 = nmV ns p.2
  count : distinct ns + rk (prs.map pv) = n
theorem nmV_rg {n : Nat} {a : Int} (h0 : 0 ≤ a) (h1 : a < n) : nmV (rgV 0 n) a = a := by
  have h := nmV_get (ns := rgV 0 n) h0 (by rw [rgV_length]; exact h1)
  have := (rgV_get h).2
  omega
theorem rgV_nd (lo : Int) (n : Nat) : (rgV lo n).Nodup := by
  unfold rgV
  rw [List.nodup_iff_pairwise_ne, List.pairwise_map]
  exact List.Pairwise.imp (fun h => by omega) List.nodup_range
theorem PInv.nil (n : Nat) : PInv n [] (rgV 0 n) := by
  refine ⟨rgV_length _ _, fun a b h0 h1 h2 h3 hne e => ?_, (by simp), ?_⟩
  · rw [nmV_rg h0 h1, nmV_rg h2 h3] at e
    exact absurd e hne
  · rw [distinct_of (rgV_nd 0 n) (fun x => Iff.rfl), rgV_length]
    rfl
theorem PInv.step {n : Nat} {prs : List (Int × Int)} {ns : List Int} (P : PInv n prs ns) {i j : Int} (hb : ∀ p ∈ prs, 0 ≤ p.1 ∧ p.1 < p.2 ∧ p.2 < n) (h0 : 0 ≤ i) (hij : i < j) (h1 : j < n) : PInv n (prs ++ [(i, j)]) (relab ns i j) := by
  have hp : ((prs ++ [(i, j)]).map pv).Perm (vec [i, j] :: prs.map pv) := by
    rw [List.map_append]
    exact List.perm_append_comm
  have hl := P.len
  have i1 : i < ns.length := by omega
  have j1 : j < ns.length := by omega
  have j0 : 0 ≤ j := by omega
  by_cases hw : nmV ns i = nmV ns j
  · have e : relab ns i j = ns := by
      unfold relab
      rw [hw]
      have : (fun x => if x = nmV ns j then nmV ns j else x) = id := by
        funext x
        by_cases z : x = nmV ns j
        · rw [if_pos z, z]; rfl
        · rw [if_neg z]; rfl
      rw [this, List.map_id]
    have hs := P.conn i j h0 (by omega) j0 h1 (by omega) hw
    rw [e]
    refine ⟨hl, fun a b a0 a1 b0 b1 hne hab => (sp_perm hp _).mpr (sp_tail (P.conn a b a0 a1 b0 b1 hne hab)), fun p hp => ?_, ?_⟩
    · rcases List.mem_append.mp hp with q | q
      · exact P.edge p q
      · rw [List.mem_singleton.mp q]; exact hw
    · rw [rk_perm hp, rk_in hs]; exact P.count
  · have hsame : ∀ a b : Int, 0 ≤ a → a < n → 0 ≤ b → b < n → nmV ns a = nmV ns b → sp (prs.map pv) (vadd (vec [a]) (vec [b])) := by
      intro a b a0 a1 b0 b1 hab
      by_cases z : a = b
      · rw [z, vadd_self]; exact sp_zero _
      · rw [← vec2 z]; exact P.conn a b a0 a1 b0 b1 z hab
    have hij2 : sp (vec [i, j] :: prs.map pv) (vadd (vec [i]) (vec [j])) := by rw [← vec2 (by omega)]; exact sp_head _ _
    refine ⟨by unfold relab; rw [List.length_map]; exact hl, fun a b a0 a1 b0 b1 hne hab => ?_, fun p hp => ?_, ?_⟩
    · rw [sp_perm hp, vec2 hne]
      rw [relab_nm a0 (by omega), relab_nm b0 (by omega)] at hab
      by_cases ea : nmV ns a = nmV ns i
      · by_cases eb : nmV ns b = nmV ns i
        · exact sp_tail (hsame a b a0 a1 b0 b1 (by rw [ea, eb]))
        · rw [if_pos ea, if_neg eb] at hab
          have s1 := sp_tail (a := vec [i, j]) (hsame a i a0 a1 h0 (by omega) ea)
          have s2 := sp_tail (a := vec [i, j]) (hsame j b j0 h1 b0 b1 hab)
          have := sp_add _ (sp_add _ s1 hij2) s2
          rw [← vadd_assoc (vadd (vec [a]) (vec [i])), vadd_cancel, vadd_assoc (vec [a]), ← vadd_assoc (vec [j]), vadd_self, zero_vadd] at this
          exact this
      · by_cases eb : nmV ns b = nmV ns i
        · rw [if_neg ea, if_pos eb] at hab
          have s1 := sp_tail (a := vec [i, j]) (hsame b i b0 b1 h0 (by omega) eb)
          have s2 := sp_tail (a := vec [i, j]) (hsame j a j0 h1 a0 a1 hab.symm)
          have := sp_add _ (sp_add _ s1 hij2) s2
          rw [← vadd_assoc (vadd (vec [b]) (vec [i])), vadd_cancel, vadd_assoc (vec [b]), ← vadd_assoc (vec [j]), vadd_self, zero_vadd, vadd_comm] at this
          exact this
        · rw [if_neg ea, if_neg eb] at hab
          exact sp_tail (hsame a b a0 a1 b0 b1 hab)
    · rcases List.mem_append.mp hp with q | q
      · have hq := hb p q
        rw [relab_nm hq.1 (by omega), relab_nm (by omega) (by omega), P.edge p q]
      · rw [List.mem_singleton.mp q, relab_nm h0 i1, relab_nm j0 j1, if_pos rfl]
        by_cases z : nmV ns j = nmV ns i
        · exact absurd z.symm hw
        · rw [if_neg z]
    · have hno : ¬ sp (prs.map pv) (vec [i, j]) := by
        have ndl : ((rgV 0 n).filter fun a => decide (nmV ns a = nmV ns i)).Nodup := List.Pairwise.filter _ (rgV_nd 0 n)
        have hcon : ∀ a : Int, 0 ≤ a → a < n → ((rgV 0 n).filter fun a => decide (nmV ns a = nmV ns i)).contains a = decide (nmV ns a = nmV ns i) := by
          intro a a0 a1
          apply Bool.eq_iff_iff.mpr
          rw [List.contains_iff_mem, List.mem_filter, mem_rgV]
          exact ⟨fun h => h.2, fun h => ⟨⟨a0, by omega⟩, h⟩⟩
        refine not_sp_of (par ((rgV 0 n).filter fun a => decide (nmV ns a = nmV ns i))) (par_add _) (fun u hu => ?_) ?_
        · obtain ⟨p, hp, rfl⟩ := List.mem_map.mp hu
          have hq := hb p hp
          show par _ (vec [p.1, p.2]) = false
          rw [vec2 (by omega), par_add, par_one ndl, par_one ndl, hcon _ hq.1 (by omega), hcon _ (by omega) hq.2.2, P.edge p hp, Bool.xor_self]
        · rw [vec2 (by omega), par_add, par_one ndl, par_one ndl, hcon _ h0 (by omega), hcon _ j0 h1, decide_eq_true rfl, decide_eq_false (fun z => hw z.symm)]
          rfl
      rw [rk_perm hp, rk_out hno]
      obtain ⟨l, l1, l2, l3⟩ := distinct_spec ns
      have hmem : nmV ns i ∈ l := (l2 _).mpr (nmV_mem h0 i1)
      have hd : distinct (relab ns i j) = (l.filter fun x => !decide (x = nmV ns i)).length := by
        refine distinct_of (List.Pairwise.filter _ l1) fun x => ?_
        rw [List.mem_filter, l2]
        constructor
        · rintro ⟨hx, hne⟩
          have hne : x ≠ nmV ns i := by simpa using hne
          unfold relab
          exact List.mem_map.mpr ⟨x, hx, if_neg hne⟩
        · intro hx
          unfold relab at hx
          obtain ⟨y, hy, rfl⟩ := List.mem_map.mp hx
          by_cases z : y = nmV ns i
          · rw [if_pos z]
            exact ⟨nmV_mem j0 j1, by simpa using fun q => hw q.symm⟩
          · rw [if_neg z]
            exact ⟨hy, by simpa using z⟩
      have hlen := (filter_perm (fun x => decide (x = nmV ns i)) l).length_eq
      have h1l : (l.filter fun x => decide (x = nmV ns i)).length = 1 := by
        rw [len_eq (m := [nmV ns i]) (List.Pairwise.filter _ l1) (by simp) fun x => ?_]
        · rfl
        · rw [List.mem_filter, List.mem_singleton]
          constructor
          · rintro ⟨_, h⟩; simpa using h
          · rintro rfl; exact ⟨hmem, by simp⟩
      rw [List.length_append, h1l] at hlen
      have := P.count
      rw [hd]
      omega
def partsL (n : Nat) (prs : List (Int × Int)) : List Int := prs.foldl (fun ns p => relab ns p.1 p.2) (rgV 0 n)
theorem partsL_snoc (n : Nat) (prs : List (Int × Int)) (p : Int × Int) : partsL n (prs ++ [p]) = relab (partsL n prs) p.1 p.2 := by
  unfold partsL
  rw [List.foldl_append]
  rfl
theorem partsL_inv (n : Nat) (prs : List (Int × Int)) (hb : ∀ p ∈ prs, 0 ≤ p.1 ∧ p.1 < p.2 ∧ p.2 < n) : PInv n prs (partsL n prs) := by
  have gen : ∀ (rest done : List (Int × Int)), (∀ p ∈ done ++ rest, 0 ≤ p.1 ∧ p.1 < p.2 ∧ p.2 < n) → PInv n done (partsL n done) → PInv n (done ++ rest) (partsL n (done ++ rest)) := by
    intro rest
    induction rest with
    | nil => intro done _ h; rw [List.append_nil]; exact h
    | cons p rest ih =>
      intro done hb h
      have hp := hb p (by simp)
      have := ih (done ++ [p]) (by rw [List.append_assoc]; exact hb) (by
        rw [partsL_snoc]
        exact h.step (fun q hq => hb q (by simp [hq])) hp.1 hp.2.1 hp.2.2)
      rw [List.append_assoc] at this
      exact this
  exact gen prs [] hb (PInv.nil n)
theorem parts_rank (n : Nat) (prs : List (Int × Int)) (hb : ∀ p ∈ prs, 0 ≤ p.1 ∧ p.1 < p.2 ∧ p.2 < n) : distinct (partsL n prs) + rk (prs.map pv) = n := (partsL_inv n prs hb).count
end M
namespace M
open L2 PyProof.Rows PySem.Spec PySem
abbrev lI (l : List Int) : PyData := .list (l.map PyData.int)
theorem lay_lists : ∀ ts : List (List Int), PyData.canLayAll0 (ts.map lI) = true
  | [] => by simp [PyData.canLayAll0]
  | t :: ts => by
    have h := lay_lists ts
    have h1 := lay_ints t
    simp [PyData.canLayAll0, PyData.canLay0, h1]
    simpa using h
theorem dep_lists : ∀ ts : List (List Int), PyData.depthAll (ts.map lI) ≤ 1
  | [] => by simp [PyData.depthAll]
  | t :: ts => by
    have h := dep_lists ts
    have h1 := dep_ints t
    rw [List.map_cons, PyData.depthAll]
    have h2 : PyData.depth (lI t) = 1 := by simp [PyData.depth, h1]
    rw [h2]
    omega
theorem shaped_lists (ts : List (List Int)) : SeqAt.shaped (.list (ts.map lI)) = true := by
  have h := dep_lists ts
  refine shaped_of (by simpa [PyData.canLay0] using lay_lists ts) ?_
  rw [PyData.depth]
  omega
theorem xor_nodup {a b : List Int} (ha : a.Nodup) (hb : b.Nodup) : (xorV a b).Nodup := by
  unfold xorV
  rw [List.nodup_append]
  refine ⟨List.Pairwise.filter _ ha, List.Pairwise.filter _ hb, fun x hx y hy e => ?_⟩
  subst e
  have h1 := (List.mem_filter.mp hx).1
  have h2 := (List.mem_filter.mp hy).2
  rw [List.contains_iff_mem.mpr h1] at h2
  cases h2
theorem nd_len {N : Int} {l : List Int} (nd : l.Nodup) (h : ∀ x ∈ l, 0 ≤ x ∧ x < N) : l.length ≤ N.toNat := by
  have := len_le_sub (m := rgV 0 N.toNat) nd fun x hx => mem_rgV.mpr (by have := h x hx; omega)
  rwa [rgV_length] at this
def kbD (kv : List (Int × List Int)) : List (Int × PyData) := kv.map fun p => (p.1, lI p.2)
theorem kb_some {kv : List (Int × List Int)} {k : Int} (h : (kbGet (kbD kv) k).isSome = true) : ∃ o, (k, o) ∈ kv ∧ kbGet (kbD kv) k = some (lI o) := by
  unfold kbGet kbD at *
  rw [Option.isSome_map] at h
  obtain ⟨p, hp⟩ := Option.isSome_iff_exists.mp h
  have hm := List.mem_of_find?_eq_some hp
  have hk := List.find?_some hp
  obtain ⟨q, hq, rfl⟩ := List.mem_map.mp hm
  have hk : q.1 = k := by simpa using hk
  refine ⟨q.2, by rw [← hk]; exact hq, ?_⟩
  rw [hp]
  rfl
theorem kb_none {kv : List (Int × List Int)} {k : Int} (h : (kbGet (kbD kv) k).isSome = false) : k ∉ kv.map (·.1) := by
  intro hm
  obtain ⟨p, hp, rfl⟩ := List.mem_map.mp hm
  unfold kbGet kbD at h
  rw [Option.isSome_map, Option.isSome_eq_false_iff, Option.isNone_iff_eq_none] at h
  have := List.find?_eq_none.mp h (p.1, lI p.2) (List.mem_map.mpr ⟨p, hp, rfl⟩)
  simp at this
theorem kb_none' {kv : List (Int × List Int)} {k : Int} (h : k ∉ kv.map (·.1)) : kbGet (kbD kv) k = none := by
  cases q : kbGet (kbD kv) k with
  | none => rfl
  | some d =>
    obtain ⟨o, ho, _⟩ := kb_some (kv := kv) (k := k) (by rw [q]; rfl)
    exact absurd (List.mem_map.mpr ⟨_, ho, rfl⟩) h
def R_added (ss : List Sl) (s : Sl) : Prop := ∃ a b : List Int, a.length ≤ 5000 ∧ b.length ≤ 5000 ∧ ss = [.p (lI a), .p (lI b)] ∧ s = .p (lI (xorV a b))
structure RowsOk (N : Int) (rows : List (List Int)) : Prop where
  bd : ∀ r ∈ rows, ∀ x ∈ r, 0 ≤ x ∧ x < N
  nd : ∀ r ∈ rows, r.Nodup
  len : rows.length ≤ 90000
  n0 : 0 ≤ N
  n1 : N ≤ 5000
def R_rank (ss : List Sl) (s : Sl) : Prop := ∃ (rows : List (List Int)) (N : Int) (t : Bool), RowsOk N rows ∧ ss = [.p (.list (rows.map (if t = true then tupI else lI)))] ∧ s = iS (rk (rows.map vec) : Nat)
def R_rank2 (ss : List Sl) (s : Sl) : Prop := ∃ (rows : List (List Int)) (n : Nat), RowsOk n rows ∧ ss = [.p (.list (rows.map lI)), iS n] ∧ s = iS (rk (rows.map vec) : Nat)
def R_of_size (ss : List Sl) (s : Sl) : Prop := ∃ (cs : List (List Int)) (k : Int), cs.length ≤ 90000 ∧ ss = [.p (.list (cs.map tupI)), iS k] ∧ s = .p (.list ((cs.filter fun c => decide ((c.length : Int) = k)).map tupI))
def R_parts (ss : List Sl) (s : Sl) : Prop := ∃ (n : Nat) (prs : List (Int × Int)), n ≤ 40 ∧ (∀ p ∈ prs, 0 ≤ p.1 ∧ p.1 < p.2 ∧ p.2 < n) ∧ ss = [iS n, .p (.list (prs.map prD))] ∧ s = iS (distinct (partsL n prs) : Nat)
section
variable {P : Program} {w : World} {K : PySem.W.Frag} {mg : Str → Option Value} {base : Heap}
theorem fn_L_added (B : Blt mg) (D : DefAt K mg "_law_added" s_L_added ["_law_one", "_law_other"]) : Fn P w K mg base "_law_added" R_added 1 := by
  -- def _law_added
  refine fn_at D sc_L_added (by rintro _ _ ⟨a, b, _, _, rfl, rfl⟩; rfl) ?_
  rintro _ _ ⟨a, b, ha, hb, rfl, rfl⟩
  refine pxb_one (pxs_ret (px_cat (px_lcE (enc := PyData.int) (ts := a) (cond := fun x => !b.contains x) (y := PyData.int) (own := [("_law_x", 2)]) sc_L_added.nd (src_list (px_var (n := 0) rfl (by first | exact Or.inl rfl | exact Or.inr (Or.inl rfl) | exact Or.inr (Or.inr rfl)) rfl)) rfl (fun _ _ => rfl) (fun x hx => ?_) (by omega) (show lcOut _ _ _ = List.map PyData.int _ from rfl)) (px_lcE (enc := PyData.int) (ts := b) (cond := fun x => !a.contains x) (y := PyData.int) (own := [("_law_x", 2)]) sc_L_added.nd (src_list (px_var (n := 1) rfl (by first | exact Or.inl rfl | exact Or.inr (Or.inl rfl) | exact Or.inr (Or.inr rfl)) rfl)) rfl (fun _ _ => rfl) (fun x hx => ?_) (by omega) (show lcOut _ _ _ = List.map PyData.int _ from rfl)) ?_) ?_)
  · exact ⟨_, _, ⟨(pxg_name (n := 2) sc_L_added.nd rfl (by first | exact Or.inl rfl | exact Or.inr rfl) (by first | exact .inl rfl | exact .inr rfl)), (by decide), (pxi_one (pxt_cmp (px_niL (px_var (n := 2) rfl (by first | exact Or.inl rfl | exact Or.inr (Or.inl rfl) | exact Or.inr (Or.inr rfl)) rfl) (px_var (n := 1) rfl (by first | exact Or.inl rfl | exact Or.inr (Or.inl rfl) | exact Or.inr (Or.inr rfl)) rfl)) rfl)), fun hc => (px_var (n := 2) rfl (by first | exact Or.inl rfl | exact Or.inr (Or.inl rfl) | exact Or.inr (Or.inr rfl)) rfl)⟩⟩
  · exact ⟨_, _, ⟨(pxg_name (n := 2) sc_L_added.nd rfl (by first | exact Or.inl rfl | exact Or.inr rfl) (by first | exact .inl rfl | exact .inr rfl)), (by decide), (pxi_one (pxt_cmp (px_niL (px_var (n := 2) rfl (by first | exact Or.inl rfl | exact Or.inr (Or.inl rfl) | exact Or.inr (Or.inr rfl)) rfl) (px_var (n := 0) rfl (by first | exact Or.inl rfl | exact Or.inr (Or.inl rfl) | exact Or.inr (Or.inr rfl)) rfl)) rfl)), fun hc => (px_var (n := 2) rfl (by first | exact Or.inl rfl | exact Or.inr (Or.inl rfl) | exact Or.inr (Or.inr rfl)) rfl)⟩⟩
  · rw [List.length_map, List.length_map]
    have h1 := List.length_filter_le (fun x => !b.contains x) a
    have h2 := List.length_filter_le (fun x => !a.contains x) b
    omega
  · rw [← List.map_append]
    rfl
theorem fn_of_size (B : Blt mg) (D : DefAt K mg "of_size" s_of_size ["cells", "size"]) : Fn P w K mg base "of_size" R_of_size 1 := by
  -- def of_size
  refine fn_at D sc_of_size (by rintro _ _ ⟨a, b, _, rfl, rfl⟩; rfl) ?_
  rintro _ _ ⟨cs, k, hl, rfl, rfl⟩
  refine pxb_one (pxs_ret (px_lcE (enc := tupI) (ts := cs) (cond := fun c => decide ((c.length : Int) = k)) (y := tupI) (own := [("cell", 2)]) sc_of_size.nd (src_list (px_var (n := 0) rfl (by first | exact Or.inl rfl | exact Or.inr (Or.inl rfl) | exact Or.inr (Or.inr rfl)) rfl)) rfl (fun _ _ => rfl) (fun c hc => ?_) (by omega) (show lcOut _ _ _ = List.map tupI _ from rfl)) rfl)
  have e : (c.map PyData.int).length = c.length := List.length_map _
  rw [← e]
  exact ⟨_, _, ⟨(pxg_name (n := 2) sc_of_size.nd rfl (by first | exact Or.inl rfl | exact Or.inr rfl) (by first | exact .inl rfl | exact .inr rfl)), (by decide), (pxi_one (pxt_cmp (px_eqI (px_lenT B.len rfl (px_var (n := 2) rfl (by first | exact Or.inl rfl | exact Or.inr (Or.inl rfl) | exact Or.inr (Or.inr rfl)) rfl) (fun _ => rfl)) (px_var (n := 1) rfl (by first | exact Or.inl rfl | exact Or.inr (Or.inl rfl) | exact Or.inr (Or.inr rfl)) rfl)) (nomark _))), fun hc => (px_var (n := 2) rfl (by first | exact Or.inl rfl | exact Or.inr (Or.inl rfl) | exact Or.inr (Or.inr rfl)) rfl)⟩⟩
theorem fn_parts_in (B : Blt mg) (D : DefAt K mg "parts_in" s_parts_in ["many", "pairs"]) : Fn P w K mg base "parts_in" R_parts 1 := by
  -- def parts_in
  refine fn_at D sc_parts_in (by rintro _ _ ⟨a, b, _, _, rfl, rfl⟩; rfl) ?_
  rintro _ _ ⟨n, prs, hn, hb, rfl, rfl⟩
  refine pxb_seq (pxs_set (n := 2) sc_parts_in.nd rfl (by first | exact Or.inl rfl | exact Or.inr rfl) (.inl rfl) (px_listRange B.list rfl B.range rfl (px_var (n := 0) rfl (by first | exact Or.inl rfl | exact Or.inr (Or.inl rfl) | exact Or.inr (Or.inr rfl)) rfl) (by omega) (fun _ => rfl) (fun _ => rfl)) rfl (fun _ => rfl)) ?_
  (try conv => arg 3; simp only [slots, wipeD, List.map, List.length, List.append, List.replicate, List.set_cons_zero, List.set_cons_succ, List.cons_append, List.nil_append, Nat.add_sub_cancel])
  rw [rgD_V]
  
  refine pxb_cons (nx1 := fun δ' => ∃ o1 o2 o3 o4, δ' = [some (iS n), some (.p (.list (prs.map prD))), some (.p (lI (partsL n prs))), o1, o2, o3, o4, none]) (pxs_forT (enc := prD) (ts := prs) (fun q δ' => ∃ o1 o2 o3 o4, δ' = [some (iS n), some (.p (.list (prs.map prD))), some (.p (lI (partsL n (prs.take q)))), o1, o2, o3, o4, none]) (src_list (px_var (n := 1) rfl (by first | exact Or.inl rfl | exact Or.inr (Or.inl rfl) | exact Or.inr (Or.inr rfl)) rfl)) ⟨_, _, _, _, rfl⟩ ?_ ?_ (fun _ _ => rfl)) ?_
  · rintro q ⟨i, j⟩ _ ht ⟨o1, o2, o3, o4, rfl⟩
    have hm := hb _ (List.mem_of_getElem? ht)
    dsimp only at hm
    have hlen : (partsL n (prs.take q)).length = n := (partsL_inv n (prs.take q) fun p hp => hb p (List.mem_of_mem_take hp)).len
    rw [take_snoc ht, partsL_snoc]
    generalize partsL n (prs.take q) = ns at *
    have at_ : ∀ a : Int, 0 ≤ a → a < n → atI (ns.map PyData.int) a = some (.int (nmV ns a)) := fun a h0 h1 => by
      unfold atI ixN
      rw [if_pos h0, List.length_map, if_pos (by omega)]
      simp only [Option.bind_some]
      rw [List.getElem?_map, nmV_get h0 (by omega)]
      rfl
    have a1 := at_ i (by omega) (by omega)
    have a2 := at_ j (by omega) (by omega)
    refine ⟨_, _, (pxg_tup (pxgs_cons (pxg_name (n := 3) sc_parts_in.nd rfl (by first | exact Or.inl rfl | exact Or.inr rfl) (.inl rfl)) (pxgs_cons (pxg_name (n := 4) sc_parts_in.nd rfl (by first | exact Or.inl rfl | exact Or.inr rfl) (.inl rfl)) pxgs_nil (fun _ => rfl)) (fun _ => rfl)) (fun _ => rfl) (fun _ => rfl)), ?_⟩
    (try conv => arg 3; simp only [slots, wipeD, List.map, List.length, List.append, List.replicate, List.set_cons_zero, List.set_cons_succ, List.cons_append, List.nil_append, Nat.add_sub_cancel])
    (refine pxb_seq (pxs_asg (px_tupI (pxi1 (px_ixL (px_var (n := 2) rfl (by first | exact Or.inl rfl | exact Or.inr (Or.inl rfl) | exact Or.inr (Or.inr rfl)) rfl) (px_var (n := 3) rfl (by first | exact Or.inl rfl | exact Or.inr (Or.inl rfl) | exact Or.inr (Or.inr rfl)) rfl) (by first | assumption | rfl) (fun _ _ => rfl)) (pxi1 (px_ixL (px_var (n := 2) rfl (by first | exact Or.inl rfl | exact Or.inr (Or.inl rfl) | exact Or.inr (Or.inr rfl)) rfl) (px_var (n := 4) rfl (by first | exact Or.inl rfl | exact Or.inr (Or.inl rfl) | exact Or.inr (Or.inr rfl)) rfl) (by first | assumption | rfl) (fun _ _ => rfl)) pxi0 (fun _ => rfl)) (fun _ => rfl))) (pxg_tup (pxgs_cons (pxg_name (n := 5) sc_parts_in.nd rfl (by first | exact Or.inl rfl | exact Or.inr rfl) (.inl rfl)) (pxgs_cons (pxg_name (n := 6) sc_parts_in.nd rfl (by first | exact Or.inl rfl | exact Or.inr rfl) (.inl rfl)) pxgs_nil (fun _ => rfl)) (fun _ => rfl)) (fun _ => rfl) (fun _ => rfl)) (fun _ => rfl) rfl (fun _ => rfl)) ?_); (try conv => arg 3; simp only [slots, wipeD, List.map, List.length, List.append, List.replicate, List.set_cons_zero, List.set_cons_succ, List.cons_append, List.nil_append, Nat.add_sub_cancel])
    refine pxb_one (PXS.weak (pxs_setLcE (n := 2) (enc := PyData.int) (ts := ns) (cond := fun _ => true) (y := fun x => .int (cond (decide (x = nmV ns i)) (nmV ns j) x)) (own := [("name", 7)]) sc_parts_in.nd rfl rfl rfl (src_list (px_var (n := 2) rfl (by first | exact Or.inl rfl | exact Or.inr (Or.inl rfl) | exact Or.inr (Or.inr rfl)) rfl)) rfl (fun _ _ => rfl) (fun x hx => ?_) (by omega) (by decide) (by decide) (show lcOut _ _ _ = (relab ns i j).map PyData.int from ?_)) ?_)
    · exact ⟨_, _, ⟨(pxg_name (n := 7) sc_parts_in.nd rfl (by first | exact Or.inl rfl | exact Or.inr rfl) (by first | exact .inl rfl | exact .inr rfl)), (by decide), pxi_nil, fun hc => (px_ifI (pxt_cmp (px_eqI (px_var (n := 7) rfl (by first | exact Or.inl rfl | exact Or.inr (Or.inl rfl) | exact Or.inr (Or.inr rfl)) rfl) (px_var (n := 5) rfl (by first | exact Or.inl rfl | exact Or.inr (Or.inl rfl) | exact Or.inr (Or.inr rfl)) rfl)) (nomark _)) (fun _ => (px_var (n := 6) rfl (by first | exact Or.inl rfl | exact Or.inr (Or.inl rfl) | exact Or.inr (Or.inr rfl)) rfl)) (fun _ => (px_var (n := 7) rfl (by first | exact Or.inl rfl | exact Or.inr (Or.inl rfl) | exact Or.inr (Or.inr rfl)) rfl)))⟩⟩
    · rw [lcOut_true]
      unfold relab
      rw [List.map_map]
      apply List.map_congr_left
      intro x _
      show PyData.int (cond (decide (x = nmV ns i)) (nmV ns j) x) = PyData.int (if x = nmV ns i then nmV ns j else x)
      by_cases z : x = nmV ns i
      · rw [if_pos z, decide_eq_true z]; rfl
      · rw [if_neg z, decide_eq_false z]; rfl
    · rintro _ rfl
      exact ⟨_, _, _, _, rfl⟩
  · rintro _ ⟨o1, o2, o3, o4, rfl⟩
    rw [List.take_of_length_le (Nat.le_refl _)]
    exact ⟨_, _, _, _, rfl⟩
  · rintro _ ⟨o1, o2, o3, o4, rfl⟩
    have hlen : (partsL n prs).length = n := (partsL_inv n prs hb).len
    exact pxb_one (pxs_ret (px_lenSet B.len rfl B.set rfl (px_var (n := 2) rfl (by first | exact Or.inl rfl | exact Or.inr (Or.inl rfl) | exact Or.inr (Or.inr rfl)) rfl) (by omega) (fun _ => rfl)) rfl)
theorem fn_rank_of_rows (B : Blt mg) (D : DefAt K mg "rank_of_rows" s_rank_of_rows ["rows"]) : Fn P w K mg base "rank_of_rows" R_rank 1 := by
  -- def rank_of_rows
  refine fn_at D sc_rank_of_rows (by rintro _ _ ⟨a, b, c, _, rfl, rfl⟩; rfl) ?_
  rintro _ _ ⟨rows, N, tt, ok, rfl, rfl⟩
  have hN := ok.n0
  have hN2 := ok.n1
  generalize henc : (if tt = true then tupI else lI) = enc
  have henc' : enc = tupI ∨ enc = lI := by rw [← henc]; cases tt <;> simp
  (refine pxb_seq (pxs_setN (n := 1) sc_rank_of_rows.nd rfl (by first | exact Or.inl rfl | exact Or.inr rfl) (.inl rfl) pxn_dictK (fun _ => rfl)) ?_); (try conv => arg 3; simp only [slots, wipeD, List.map, List.length, List.append, List.replicate, List.set_cons_zero, List.set_cons_succ, List.cons_append, List.nil_append, Nat.add_sub_cancel])
  refine pxb_cons (nx1 := fun δ' => ∃ kv o2 o3 o4, KInv N rows kv ∧ (∀ p ∈ kv, p.2.Nodup) ∧ δ' = [some (.p (.list (rows.map enc))), some (.k (kbD kv)), o2, o3, o4, none]) (pxs_forT (enc := enc) (ts := rows) (fun q δ' => ∃ kv o2 o3 o4, KInv N (rows.take q) kv ∧ (∀ p ∈ kv, p.2.Nodup) ∧ δ' = [some (.p (.list (rows.map enc))), some (.k (kbD kv)), o2, o3, o4, none]) (src_list (px_var (n := 0) rfl (by first | exact Or.inl rfl | exact Or.inr (Or.inl rfl) | exact Or.inr (Or.inr rfl)) rfl)) ⟨[], _, _, _, KInv.nil N, by simp, rfl⟩ ?_ ?_ (fun _ _ => rfl)) ?_
  · rintro q r _ ht ⟨kv, o2, o3, o4, KI, knd, rfl⟩
    have hr := List.mem_of_getElem? ht
    have rb := ok.bd r hr
    have rnd := ok.nd r hr
    refine ⟨_, _, pxg_name (n := 2) sc_rank_of_rows.nd rfl (by first | exact Or.inl rfl | exact Or.inr rfl) (.inl rfl), ?_⟩
    (try conv => arg 3; simp only [slots, wipeD, List.map, List.length, List.append, List.replicate, List.set_cons_zero, List.set_cons_succ, List.cons_append, List.nil_append, Nat.add_sub_cancel])
    refine pxb_cons (nx1 := fun δ' => δ' = [some (.p (.list (rows.map enc))), some (.k (kbD kv)), some (.p (enc r)), some (.p (lI r)), o4, none]) ?_ ?_
    · rcases henc' with rfl | rfl
      · 
        exact (pxs_set (n := 3) sc_rank_of_rows.nd rfl (by first | exact Or.inl rfl | exact Or.inr rfl) (.inl rfl) (px_listT B.list rfl (px_var (n := 2) rfl (by first | exact Or.inl rfl | exact Or.inr (Or.inl rfl) | exact Or.inr (Or.inr rfl)) rfl) (fun _ => rfl)) rfl (fun _ => rfl))
      · 
        exact (pxs_set (n := 3) sc_rank_of_rows.nd rfl (by first | exact Or.inl rfl | exact Or.inr rfl) (.inl rfl) (px_listL B.list rfl (px_var (n := 2) rfl (by first | exact Or.inl rfl | exact Or.inr (Or.inl rfl) | exact Or.inr (Or.inr rfl)) rfl) (fun _ => rfl)) rfl (fun _ => rfl))
    rintro _ rfl
    refine pxb_cons (nx1 := fun δ' => ∃ left o4, (∀ x ∈ left, 0 ≤ x ∧ x < N) ∧ left.Nodup ∧ sp (kv.map fun p => vec p.2) (vadd (vec r) (vec left)) ∧ (left = [] ∨ ∃ t, IsTop left t ∧ t ∉ kv.map (·.1)) ∧ δ' = [some (.p (.list (rows.map enc))), some (.k (kbD kv)), some (.p (enc r)), some (.p (lI left)), o4, none])
      (pxs_while (fun m δ' => ∃ left o4, (∀ x ∈ left, 0 ≤ x ∧ x < N ∧ x < (m : Nat)) ∧ left.Nodup ∧ sp (kv.map fun p => vec p.2) (vadd (vec r) (vec left)) ∧ δ' = [some (.p (.list (rows.map enc))), some (.k (kbD kv)), some (.p (enc r)), some (.p (lI left)), o4, none]) N.toNat ⟨r, o4, fun x hx => by have := rb x hx; omega, rnd, by rw [vadd_self]; exact sp_zero _, rfl⟩ ?_) ?_
    · rintro m _ ⟨left, o4, lb, lnd, lsp, rfl⟩
      
      have hsh := shaped_listI left
      have lb0 : ∀ x ∈ left, 0 ≤ x ∧ x < N := fun x hx => ⟨(lb x hx).1, (lb x hx).2.1⟩
      by_cases hl : left = []
      · subst hl
        refine ⟨_, PXW.pt (pxw_and (y := false) (pxt_cmp (px_neNil (px_var (n := 3) rfl (by first | exact Or.inl rfl | exact Or.inr (Or.inl rfl) | exact Or.inr (Or.inr rfl)) rfl) (by first | exact shaped_tups _ | exact shaped_listI _ | assumption)) (nomark _)) (fun z => (by simp at z))), fun z => (by simp at z), fun _ => ⟨[], o4, by simp, lnd, lsp, .inl rfl, rfl⟩⟩
      · obtain ⟨t, ht⟩ := top_of hl
        have h1 := ht.mem
        have h2 := ht.le
        have hne : (!(left.map PyData.int).isEmpty) = true := by
          cases left with
          | nil => exact absurd rfl hl
          | cons a l => rfl
        refine ⟨_, (PXW.pt (pxw_and (pxt_cmp (px_neNil (px_var (n := 3) rfl (by first | exact Or.inl rfl | exact Or.inr (Or.inl rfl) | exact Or.inr (Or.inr rfl)) rfl) (by first | exact shaped_tups _ | exact shaped_listI _ | assumption)) (nomark _)) (fun _ => (pxw_and1 (pxt_cmp (px_kin (px_max B.max rfl (px_var (n := 3) rfl (by first | exact Or.inl rfl | exact Or.inr (Or.inl rfl) | exact Or.inr (Or.inr rfl)) rfl) (by assumption) (by assumption) (fun _ => rfl)) (px_var (n := 1) rfl (by first | exact Or.inl rfl | exact Or.inr (Or.inl rfl) | exact Or.inr (Or.inr rfl)) rfl)) rfl))))), fun z => ?_, fun z => ?_⟩
        · rw [hne, Bool.true_and] at z
          obtain ⟨o, ho, hg⟩ := kb_some z
          have ont := KI.top _ ho
          have obd := KI.bd _ ho
          have ond := knd _ ho
          have ol := nd_len ond obd
          have ll := nd_len lnd lb0
          dsimp only at ont obd ond ol
          (refine pxb_seq (pxs_set (n := 4) sc_rank_of_rows.nd rfl (by first | exact Or.inl rfl | exact Or.inr rfl) (.inl rfl) (px_kget (px_var (n := 1) rfl (by first | exact Or.inl rfl | exact Or.inr (Or.inl rfl) | exact Or.inr (Or.inr rfl)) rfl) (px_max B.max rfl (px_var (n := 3) rfl (by first | exact Or.inl rfl | exact Or.inr (Or.inl rfl) | exact Or.inr (Or.inr rfl)) rfl) (by assumption) (by assumption) (fun _ => rfl)) (by assumption) (fun _ _ => rfl)) rfl (fun _ => rfl)) ?_); (try conv => arg 3; simp only [slots, wipeD, List.map, List.length, List.append, List.replicate, List.set_cons_zero, List.set_cons_succ, List.cons_append, List.nil_append, Nat.add_sub_cancel])
          refine pxb_one (PXS.weak (pxs_set (n := 3) sc_rank_of_rows.nd rfl (by first | exact Or.inl rfl | exact Or.inr rfl) (.inl rfl) (px_cat (px_lcE (enc := PyData.int) (ts := left) (cond := fun x => !o.contains x) (y := PyData.int) (own := [("x", 5)]) sc_rank_of_rows.nd (src_list (px_var (n := 3) rfl (by first | exact Or.inl rfl | exact Or.inr (Or.inl rfl) | exact Or.inr (Or.inr rfl)) rfl)) rfl (fun _ _ => rfl) (fun x hx => ?_) (by omega) (show lcOut _ _ _ = List.map PyData.int _ from rfl)) (px_lcE (enc := PyData.int) (ts := o) (cond := fun x => !left.contains x) (y := PyData.int) (own := [("x", 5)]) sc_rank_of_rows.nd (src_list (px_var (n := 4) rfl (by first | exact Or.inl rfl | exact Or.inr (Or.inl rfl) | exact Or.inr (Or.inr rfl)) rfl)) rfl (fun _ _ => rfl) (fun x hx => ?_) (by omega) (show lcOut _ _ _ = List.map PyData.int _ from rfl)) ?_) rfl (fun _ => rfl)) ?_)
          · exact ⟨_, _, ⟨(pxg_name (n := 5) sc_rank_of_rows.nd rfl (by first | exact Or.inl rfl | exact Or.inr rfl) (by first | exact .inl rfl | exact .inr rfl)), (by decide), (pxi_one (pxt_cmp (px_niL (px_var (n := 5) rfl (by first | exact Or.inl rfl | exact Or.inr (Or.inl rfl) | exact Or.inr (Or.inr rfl)) rfl) (px_var (n := 4) rfl (by first | exact Or.inl rfl | exact Or.inr (Or.inl rfl) | exact Or.inr (Or.inr rfl)) rfl)) rfl)), fun hc => (px_var (n := 5) rfl (by first | exact Or.inl rfl | exact Or.inr (Or.inl rfl) | exact Or.inr (Or.inr rfl)) rfl)⟩⟩
          · exact ⟨_, _, ⟨(pxg_name (n := 5) sc_rank_of_rows.nd rfl (by first | exact Or.inl rfl | exact Or.inr rfl) (by first | exact .inl rfl | exact .inr rfl)), (by decide), (pxi_one (pxt_cmp (px_niL (px_var (n := 5) rfl (by first | exact Or.inl rfl | exact Or.inr (Or.inl rfl) | exact Or.inr (Or.inr rfl)) rfl) (px_var (n := 3) rfl (by first | exact Or.inl rfl | exact Or.inr (Or.inl rfl) | exact Or.inr (Or.inr rfl)) rfl)) rfl)), fun hc => (px_var (n := 5) rfl (by first | exact Or.inl rfl | exact Or.inr (Or.inl rfl) | exact Or.inr (Or.inr rfl)) rfl)⟩⟩
          · rw [List.length_map, List.length_map]
            have h1 := List.length_filter_le (fun x => !o.contains x) left
            have h2 := List.length_filter_le (fun x => !left.contains x) o
            omega
          · rintro _ rfl
            have htm := lb t h1
            refine ⟨t.toNat, by omega, xorV left o, some (.p (lI o)), fun x hx => ?_, xor_nodup lnd ond, ?_, ?_⟩
            · have hlt := red_step ht ont x hx
              rcases mem_xorV hx with q | q
              · have := lb x q; omega
              · have := obd x q; omega
            · rw [vec_xor, ← vadd_assoc]
              exact (sp_iff_add (sp_mem (List.mem_map.mpr ⟨_, ho, rfl⟩))).mpr lsp
            · rw [← List.map_append]
              rfl
        · rw [hne, Bool.true_and] at z
          exact ⟨left, o4, lb0, lnd, lsp, .inr ⟨t, ht, kb_none z⟩, rfl⟩
    · rintro _ ⟨left, o4, lb, lnd, lsp, lend, rfl⟩
      
      have hsh := shaped_listI left
      refine pxb_one (pxs_if (pxt_cmp (px_neNil (px_var (n := 3) rfl (by first | exact Or.inl rfl | exact Or.inr (Or.inl rfl) | exact Or.inr (Or.inr rfl)) rfl) (by first | exact shaped_tups _ | exact shaped_listI _ | assumption)) (nomark _)) (fun z => ?_) fun z => ?_)
      · have hl : left ≠ [] := by rintro rfl; cases z
        rcases lend with e | ⟨t, htt, hk⟩
        · exact absurd e hl
        have h1 := htt.mem
        have h2 := htt.le
        have hg := kb_none' hk
        have hkl : (kbD kv).length < 100000 := by
          unfold kbD
          rw [List.length_map, KI.len]
          have := rk_le ((rows.take q).map vec)
          rw [List.length_map, List.length_take] at this
          have := ok.len
          omega
        refine pxb_one (PXS.weak (pxs_kput (n := 1) rfl (by first | exact Or.inl rfl | exact Or.inr (Or.inl rfl) | exact Or.inr (Or.inr rfl)) rfl (px_max B.max rfl (px_var (n := 3) rfl (by first | exact Or.inl rfl | exact Or.inr (Or.inl rfl) | exact Or.inr (Or.inr rfl)) rfl) (by assumption) (by assumption) (fun _ => rfl)) (px_var (n := 3) rfl (by first | exact Or.inl rfl | exact Or.inr (Or.inl rfl) | exact Or.inr (Or.inr rfl)) rfl) (by assumption) (by first | assumption | omega) (fun _ => rfl)) ?_)
        rintro _ rfl
        rw [take_snoc ht]
        have hkb : kbD kv ++ [(t, lI left)] = kbD (kv ++ [(t, left)]) := by
          unfold kbD
          rw [List.map_append]
          rfl
        rw [hkb]
        refine ⟨kv ++ [(t, left)], some (.p (enc r)), some (.p (lI left)), o4, KI.add lsp lb htt hk, fun p hp => ?_, rfl⟩
        rcases List.mem_append.mp hp with q | q
        · exact knd p q
        · rw [List.mem_singleton.mp q]; exact lnd
      · have hl : left = [] := by
          cases left with
          | nil => rfl
          | cons a l => cases z
        rw [take_snoc ht]
        exact pxb_nil ⟨kv, _, _, _, KI.zero lsp hl, knd, rfl⟩
  · rintro _ ⟨kv, o2, o3, o4, KI, knd, rfl⟩
    rw [List.take_of_length_le (Nat.le_refl _)] at KI
    exact ⟨kv, _, _, _, KI, knd, rfl⟩
  · rintro _ ⟨kv, o2, o3, o4, KI, knd, rfl⟩
    refine pxb_one (pxs_ret (px_lenK B.len rfl (px_var (n := 1) rfl (by first | exact Or.inl rfl | exact Or.inr (Or.inl rfl) | exact Or.inr (Or.inr rfl)) rfl) (fun _ => rfl)) ?_)
    unfold kbD
    rw [List.length_map, KI.len]
theorem fn_L_rank2 (B : Blt mg) (D : DefAt K mg "_law_rank2" s_L_rank2 ["_law_rows", "_law_wide"]) (h_L_added : Fn P w K mg base "_law_added" R_added 1) : Fn P w K mg base "_law_rank2" R_rank2 2 := by
  -- def _law_rank2
  refine fn_at D sc_L_rank2 (by rintro _ _ ⟨a, b, _, rfl, rfl⟩; rfl) ?_
  rintro _ _ ⟨rows, n, ok, rfl, rfl⟩
  have hN2 := ok.n1
  have hlen := ok.len
  (refine pxb_seq (pxs_par (n1 := 2) (n2 := 3) sc_L_rank2.nd rfl rfl (by decide) rfl rfl (pxa_cons (px_var (n := 0) rfl (by first | exact Or.inl rfl | exact Or.inr (Or.inl rfl) | exact Or.inr (Or.inr rfl)) rfl) (pxa_cons px_int pxa_nil (fun _ => rfl)) (fun _ => rfl)) rfl rfl rfl (fun _ => rfl)) ?_); (try conv => arg 3; simp only [slots, wipeD, List.map, List.length, List.append, List.replicate, List.set_cons_zero, List.set_cons_succ, List.cons_append, List.nil_append, Nat.add_sub_cancel])
  refine pxb_cons (nx1 := fun δ' => ∃ o1 o2 o3 o4 o5, δ' = [some (.p (.list (rows.map lI))), some (iS n), o1, some (iS (rk (rows.map vec) : Nat)), o2, o3, o4, o5, none]) (pxs_forT (enc := PyData.int) (ts := rgV 0 n) (fun q δ' => ∃ left rank o2 o3 o4 o5, CInv n rows (q : Nat) left rank ∧ (∀ l ∈ left, l.Nodup) ∧ left.length ≤ 90000 ∧ δ' = [some (.p (.list (rows.map lI))), some (iS n), some (.p (.list (left.map lI))), some (iS (rank : Nat)), o2, o3, o4, o5, none]) (src_range1V B.range rfl (px_var (n := 1) rfl (by first | exact Or.inl rfl | exact Or.inr (Or.inl rfl) | exact Or.inr (Or.inr rfl)) rfl) (by omega) (fun _ => rfl)) ⟨rows, 0, _, _, _, _, ⟨ok.bd, Nat.zero_add _⟩, ok.nd, ok.len, rfl⟩ ?_ ?_ (fun _ _ => rfl)) ?_
  · rintro q i _ hi ⟨left, rank, o2, o3, o4, o5, C, lnd, ll, rfl⟩
    obtain ⟨hq, rfl⟩ := rgV_get hi
    rw [Int.zero_add]
    refine ⟨_, _, (pxg_name (n := 4) sc_L_rank2.nd rfl (by first | exact Or.inl rfl | exact Or.inr rfl) (.inl rfl)), ?_⟩
    (try conv => arg 3; simp only [slots, wipeD, List.map, List.length, List.append, List.replicate, List.set_cons_zero, List.set_cons_succ, List.cons_append, List.nil_append, Nat.add_sub_cancel])
    
    have hsome := List.length_filter_le (fun l : List Int => l.contains (q : Int)) left
    have hrest := List.length_filter_le (fun l : List Int => !l.contains (q : Int)) left
    have hpl := (filter_perm (fun l : List Int => l.contains (q : Int)) left).length_eq
    rw [List.length_append] at hpl
    generalize hS : left.filter (fun l : List Int => l.contains (q : Int)) = some_ at *
    refine pxb_seq (pxs_setLcE (n := 5) (enc := lI) (ts := left) (cond := fun l => l.contains (q : Int)) (y := lI) (own := [("_law_row", 8)]) sc_L_rank2.nd rfl rfl rfl (src_list (px_var (n := 2) rfl (by first | exact Or.inl rfl | exact Or.inr (Or.inl rfl) | exact Or.inr (Or.inr rfl)) rfl)) rfl (fun _ _ => rfl) (fun l hl => ?_) (by omega) (by decide) (by decide) (show lcOut _ _ _ = some_.map lI from by subst hS; rfl)) ?_
    · exact ⟨_, _, ⟨(pxg_name (n := 8) sc_L_rank2.nd rfl (by first | exact Or.inl rfl | exact Or.inr rfl) (by first | exact .inl rfl | exact .inr rfl)), (by decide), (pxi_one (pxt_cmp (px_inL (px_var (n := 4) rfl (by first | exact Or.inl rfl | exact Or.inr (Or.inl rfl) | exact Or.inr (Or.inr rfl)) rfl) (px_var (n := 8) rfl (by first | exact Or.inl rfl | exact Or.inr (Or.inl rfl) | exact Or.inr (Or.inr rfl)) rfl)) rfl)), fun hc => (px_var (n := 8) rfl (by first | exact Or.inl rfl | exact Or.inr (Or.inl rfl) | exact Or.inr (Or.inr rfl)) rfl)⟩⟩
    (try conv => arg 3; simp only [slots, wipeD, List.map, List.length, List.append, List.replicate, List.set_cons_zero, List.set_cons_succ, List.cons_append, List.nil_append, Nat.add_sub_cancel])
    
    have hsh := shaped_lists some_
    refine pxb_one (pxs_if (pxt_cmp (px_neNil (px_var (n := 5) rfl (by first | exact Or.inl rfl | exact Or.inr (Or.inl rfl) | exact Or.inr (Or.inr rfl)) rfl) (by first | exact shaped_tups _ | exact shaped_listI _ | assumption)) (nomark _)) (fun z => ?_) fun z => ?_)
    · cases some_ with
      | nil => cases z
      | cons lead more =>
        have h0 : atI ((lead :: more).map lI) 0 = some (lI lead) := by
          unfold atI ixN
          rw [if_pos (by omega), if_pos (by simp)]
          rfl
        (refine pxb_seq (pxs_asg (px_tupD (pxd_cons (px_add (px_var (n := 3) rfl (by first | exact Or.inl rfl | exact Or.inr (Or.inl rfl) | exact Or.inr (Or.inr rfl)) rfl) px_int) (pxd_cons (px_ixL (px_var (n := 5) rfl (by first | exact Or.inl rfl | exact Or.inr (Or.inl rfl) | exact Or.inr (Or.inr rfl)) rfl) px_int (by first | assumption | rfl) (fun _ _ => rfl)) pxd_nil (fun _ => rfl)) (fun _ => rfl))) (pxg_tup (pxgs_cons (pxg_name (n := 3) sc_L_rank2.nd rfl (by first | exact Or.inl rfl | exact Or.inr rfl) (.inl rfl)) (pxgs_cons (pxg_name (n := 6) sc_L_rank2.nd rfl (by first | exact Or.inl rfl | exact Or.inr rfl) (.inl rfl)) pxgs_nil (fun _ => rfl)) (fun _ => rfl)) (fun _ => rfl) (fun _ => rfl)) (fun _ => rfl) rfl (fun _ => rfl)) ?_); (try conv => arg 3; simp only [slots, wipeD, List.map, List.length, List.append, List.replicate, List.set_cons_zero, List.set_cons_succ, List.cons_append, List.nil_append, Nat.add_sub_cancel])
        refine pxb_seq (pxs_setLcE (n := 7) (enc := lI) (ts := left) (cond := fun l => !l.contains (q : Int)) (y := lI) (own := [("_law_row", 8)]) sc_L_rank2.nd rfl rfl rfl (src_list (px_var (n := 2) rfl (by first | exact Or.inl rfl | exact Or.inr (Or.inl rfl) | exact Or.inr (Or.inr rfl)) rfl)) rfl (fun _ _ => rfl) (fun l hl => ?_) (by omega) (by decide) (by decide) (show lcOut _ _ _ = (left.filter fun l : List Int => !l.contains (q : Int)).map lI from rfl)) ?_
        · exact ⟨_, _, ⟨(pxg_name (n := 8) sc_L_rank2.nd rfl (by first | exact Or.inl rfl | exact Or.inr rfl) (by first | exact .inl rfl | exact .inr rfl)), (by decide), (pxi_one (pxt_cmp (px_niL (px_var (n := 4) rfl (by first | exact Or.inl rfl | exact Or.inr (Or.inl rfl) | exact Or.inr (Or.inr rfl)) rfl) (px_var (n := 8) rfl (by first | exact Or.inl rfl | exact Or.inr (Or.inl rfl) | exact Or.inr (Or.inr rfl)) rfl)) rfl)), fun hc => (px_var (n := 8) rfl (by first | exact Or.inl rfl | exact Or.inr (Or.inl rfl) | exact Or.inr (Or.inr rfl)) rfl)⟩⟩
        (try conv => arg 3; simp only [slots, wipeD, List.map, List.length, List.append, List.replicate, List.set_cons_zero, List.set_cons_succ, List.cons_append, List.nil_append, Nat.add_sub_cancel])
        
        have hin : ∀ l ∈ lead :: more, l ∈ left := fun l hl => by rw [← hS] at hl; exact (List.mem_filter.mp hl).1
        have hlen5 : ∀ l ∈ lead :: more, l.length ≤ 5000 := fun l hl => by
          have := nd_len (N := n) (lnd l (hin l hl)) fun x hx => by
            have := C.bd l (hin l hl) x hx; omega
          omega
        have hld := hlen5 lead List.mem_cons_self
        rw [List.length_cons] at hpl
        refine pxb_one (PXS.weak (pxs_set (n := 2) sc_L_rank2.nd rfl (by first | exact Or.inl rfl | exact Or.inr rfl) (.inl rfl) (px_cat (px_var (n := 7) rfl (by first | exact Or.inl rfl | exact Or.inr (Or.inl rfl) | exact Or.inr (Or.inr rfl)) rfl) (px_lcE (enc := lI) (ts := more) (cond := fun _ => true) (y := fun l => lI (xorV l lead)) (own := [("_law_row", 8)]) sc_L_rank2.nd (src_list (px_fromE (m := 1) (px_var (n := 5) rfl (by first | exact Or.inl rfl | exact Or.inr (Or.inl rfl) | exact Or.inr (Or.inr rfl)) rfl) (show _ = more.map lI from rfl))) rfl (fun _ _ => rfl) (fun l hl => ?_) (by omega) (show lcOut _ _ _ = (more.map fun l => xorV l lead).map lI from ?_)) ?_) rfl (fun _ => rfl)) ?_)
        · have hl5 := hlen5 l (List.mem_cons_of_mem _ hl)
          exact ⟨_, _, ⟨(pxg_name (n := 8) sc_L_rank2.nd rfl (by first | exact Or.inl rfl | exact Or.inr rfl) (by first | exact .inl rfl | exact .inr rfl)), (by decide), pxi_nil, fun hc => (px_call h_L_added (Nat.le_of_ble_eq_true rfl) rfl (pxa_cons (px_var (n := 8) rfl (by first | exact Or.inl rfl | exact Or.inr (Or.inl rfl) | exact Or.inr (Or.inr rfl)) rfl) (pxa_cons (px_var (n := 6) rfl (by first | exact Or.inl rfl | exact Or.inr (Or.inl rfl) | exact Or.inr (Or.inr rfl)) rfl) pxa_nil (fun _ => rfl)) (fun _ => rfl)) ⟨_, _, by assumption, by assumption, rfl, rfl⟩ rfl (fun _ => rfl) (fun _ => rfl))⟩⟩
        · rw [lcOut_true, List.map_map]
          rfl
        · rw [List.length_map, List.length_map, List.length_map]
          omega
        · rintro _ rfl
          refine ⟨left.filter (fun l : List Int => !l.contains (q : Int)) ++ more.map (fun l => xorV l lead), rank + 1, ?_⟩
          rw [List.map_append]
          refine ⟨_, _, _, _, by have := C.step hS; rw [Int.natCast_add]; exact this, fun l hl => ?_, ?_, rfl⟩
          · rcases List.mem_append.mp hl with q' | q'
            · exact lnd l (List.mem_filter.mp q').1
            · obtain ⟨l', hl', rfl⟩ := List.mem_map.mp q'
              exact xor_nodup (lnd _ (hin l' (List.mem_cons_of_mem _ hl'))) (lnd _ (hin lead List.mem_cons_self))
          · rw [List.length_append, List.length_map]
            omega
    · cases some_ with
      | cons a l => cases z
      | nil =>
        refine pxb_nil ⟨left, rank, _, _, _, _, ?_, lnd, ll, rfl⟩
        have := C.skip fun l hl hc => by
          have : l ∈ left.filter fun l : List Int => l.contains (q : Int) := List.mem_filter.mpr ⟨hl, List.contains_iff_mem.mpr hc⟩
          rw [hS] at this
          cases this
        rw [Int.natCast_add]
        exact this
  · rintro _ ⟨left, rank, o2, o3, o4, o5, C, lnd, ll, rfl⟩
    rw [rgV_length] at C
    rw [C.done]
    exact ⟨_, _, _, _, _, rfl⟩
  · rintro _ ⟨o1, o2, o3, o4, o5, rfl⟩
    
    exact pxb_one (pxs_ret (px_var (n := 3) rfl (by first | exact Or.inl rfl | exact Or.inr (Or.inl rfl) | exact Or.inr (Or.inr rfl)) rfl) (by first | rfl | done))
end
end M
namespace M
open L2 PyProof.Rows PySem.Spec PySem
def cellsV (t : List (List Int × Rt)) (r : Rt) : List (List Int) := sortT ((t.filter fun e => !belowV r e.2).map (·.1))
def szV (k : Int) (cs : List (List Int)) : List (List Int) := cs.filter fun c => decide ((c.length : Int) = k)
def c2V (cs : List (List Int)) : List (Int × Int) := (szV 2 cs).map fun c => (c.getD 0 0, c.getD 1 0)
def c3V (cs : List (List Int)) : List P3 := (szV 3 cs).map fun c => (c.getD 0 0, c.getD 1 0, c.getD 2 0)
def prL (p : Int × Int) : List Int := [p.1, p.2]
theorem sz2_eq (cs : List (List Int)) : szV 2 cs = (c2V cs).map prL := by
  unfold c2V
  rw [List.map_map]
  conv => lhs; rw [← List.map_id (szV 2 cs)]
  apply List.map_congr_left
  intro c hc
  have h := (List.mem_filter.mp hc).2
  have h : c.length = 2 := by have := of_decide_eq_true h; omega
  match c, h with
  | [a, b], _ => rfl
theorem sz3_eq (cs : List (List Int)) : szV 3 cs = (c3V cs).map ptL := by
  unfold c3V
  rw [List.map_map]
  conv => lhs; rw [← List.map_id (szV 3 cs)]
  apply List.map_congr_left
  intro c hc
  have h := (List.mem_filter.mp hc).2
  have h : c.length = 3 := by have := of_decide_eq_true h; omega
  match c, h with
  | [a, b, d], _ => rfl
theorem r_size2 {cs : List (List Int)} (h : cs.length ≤ 90000) : R_of_size [.p (.list (cs.map tupI)), iS 2] (.p (.list ((c2V cs).map prD))) := ⟨cs, 2, h, rfl, by
  rw [show (cs.filter fun c => decide ((c.length : Int) = 2)) = szV 2 cs from rfl, sz2_eq, List.map_map]; rfl⟩
theorem r_size3 {cs : List (List Int)} (h : cs.length ≤ 90000) : R_of_size [.p (.list (cs.map tupI)), iS 3] (.p (.list ((c3V cs).map trD))) := ⟨cs, 3, h, rfl, by
  rw [show (cs.filter fun c => decide ((c.length : Int) = 3)) = szV 3 cs from rfl, sz3_eq, List.map_map]; rfl⟩
/-! ### tables -/
structure TbOk (t : List (List Int × Rt)) : Prop where
  nd : (t.map (·.1)).Nodup
  br : ∀ e ∈ t, BR 100000 e.2
  ne : ∀ e ∈ t, e.1 ≠ []
  len : t.length ≤ 90000
theorem inj_nodup {α β : Type} {f : α → β} : ∀ {t : List α}, (t.map f).Nodup → ∀ x ∈ t, ∀ y ∈ t, f x = f y → x = y
  | [], _, x, hx, _, _, _ => by cases hx
  | a :: t, nd, x, hx, y, hy, he => by
    rw [List.map_cons] at nd
    have nd' := List.nodup_cons.mp nd
    rcases List.mem_cons.mp hx with ex | hx
    · rcases List.mem_cons.mp hy with ey | hy
      · rw [ex, ey]
      · exact absurd (List.mem_map.mpr ⟨y, hy, by rw [← he, ex]⟩) nd'.1
    · rcases List.mem_cons.mp hy with ey | hy
      · exact absurd (List.mem_map.mpr ⟨x, hx, by rw [he, ey]⟩) nd'.1
      · exact inj_nodup nd'.2 x hx y hy he
theorem tbGet_of {t : List (List Int × Rt)} (nd : (t.map (·.1)).Nodup) {e : List Int × Rt} (h : e ∈ t) : tbGet (tbD t) e.1 = some (rtD e.2) :=
  tbGet_map (f := fun e : List Int × Rt => e.1) (g := fun e => rtD e.2) (inj_nodup nd) h
theorem sortT_perm (ts : List (List Int)) : (sortT ts).Perm ts := List.mergeSort_perm _ _
theorem cellsV_len {t : List (List Int × Rt)} (r : Rt) (h : t.length ≤ 90000) : (cellsV t r).length ≤ 90000 := by
  unfold cellsV
  rw [(sortT_perm _).length_eq, List.length_map]
  exact Nat.le_trans (List.length_filter_le _ _) h
theorem mem_cellsV {t : List (List Int × Rt)} {r : Rt} {c : List Int} : c ∈ cellsV t r ↔ ∃ e ∈ t, e.1 = c ∧ belowV r e.2 = false := by
  unfold cellsV
  rw [(sortT_perm _).mem_iff, List.mem_map]
  constructor
  · rintro ⟨e, he, rfl⟩
    have := List.mem_filter.mp he
    exact ⟨e, this.1, rfl, by simpa using this.2⟩
  · rintro ⟨e, he, rfl, hb⟩
    exact ⟨e, List.mem_filter.mpr ⟨he, by rw [hb]; rfl⟩, rfl⟩
theorem cellsV_nodup {t : List (List Int × Rt)} {r : Rt} (nd : (t.map (·.1)).Nodup) : (cellsV t r).Nodup := by
  unfold cellsV
  rw [(sortT_perm _).nodup_iff]
  exact List.Nodup.sublist (List.Sublist.map _ List.filter_sublist) nd
theorem c2V_nodup {cs : List (List Int)} (h : cs.Nodup) : (c2V cs).Nodup := by
  have h2 : (szV 2 cs).Nodup := List.Pairwise.filter _ h
  rw [sz2_eq] at h2
  rw [List.nodup_iff_pairwise_ne, List.pairwise_map] at h2
  exact List.Pairwise.imp (fun hne e => hne (by rw [e])) h2
theorem c3V_nodup {cs : List (List Int)} (h : cs.Nodup) : (c3V cs).Nodup := by
  have h2 : (szV 3 cs).Nodup := List.Pairwise.filter _ h
  rw [sz3_eq] at h2
  rw [List.nodup_iff_pairwise_ne, List.pairwise_map] at h2
  exact List.Pairwise.imp (fun hne e => hne (by rw [e])) h2
theorem mem_c2V {cs : List (List Int)} {p : Int × Int} : p ∈ c2V cs ↔ [p.1, p.2] ∈ cs := by
  have h : [p.1, p.2] ∈ cs ↔ prL p ∈ szV 2 cs := ⟨fun h => List.mem_filter.mpr ⟨h, rfl⟩, fun h => (List.mem_filter.mp h).1⟩
  rw [h, sz2_eq]
  constructor
  · exact fun h => List.mem_map.mpr ⟨p, h, rfl⟩
  · intro h
    obtain ⟨q, hq, e⟩ := List.mem_map.mp h
    have e1 := (List.cons.inj e).1
    have e2 := (List.cons.inj (List.cons.inj e).2).1
    rw [← show q = p from Prod.ext e1 e2]
    exact hq
theorem mem_c3V {cs : List (List Int)} {t : P3} : t ∈ c3V cs ↔ ptL t ∈ cs := by
  have h : ptL t ∈ cs ↔ ptL t ∈ szV 3 cs := ⟨fun h => List.mem_filter.mpr ⟨h, rfl⟩, fun h => (List.mem_filter.mp h).1⟩
  rw [h, sz3_eq]
  constructor
  · exact fun h => List.mem_map.mpr ⟨t, h, rfl⟩
  · intro h
    obtain ⟨q, hq, e⟩ := List.mem_map.mp h
    rw [← ptL_inj e]
    exact hq
structure Closed (n : Nat) (cs : List (List Int)) : Prop where
  p : ∀ p ∈ c2V cs, 0 ≤ p.1 ∧ p.1 < p.2 ∧ p.2 < n
  t : ∀ t ∈ c3V cs, t.1 < t.2.1 ∧ t.2.1 < t.2.2 ∧ (t.1, t.2.1) ∈ c2V cs ∧ (t.1, t.2.2) ∈ c2V cs ∧ (t.2.1, t.2.2) ∈ c2V cs
  nd : cs.Nodup
  len : cs.length ≤ 90000
def idxV (prs : List (Int × Int)) (p : Int × Int) : Nat := prs.idxOf p
theorem idxV_get {prs : List (Int × Int)} {p : Int × Int} (h : p ∈ prs) : prs[idxV prs p]? = some p ∧ idxV prs p < prs.length := by
  have hl : idxV prs p < prs.length := List.idxOf_lt_length_iff.mpr h
  exact ⟨by rw [List.getElem?_eq_getElem hl]; exact congrArg some (List.getElem_idxOf hl), hl⟩
theorem idxV_first {prs : List (Int × Int)} {p : Int × Int} : ∀ (m : Nat) (t : Int × Int), m < idxV prs p → prs[m]? = some t → t ≠ p := by
  intro m t hm ht
  have := List.not_of_lt_findIdx (p := fun x => x == p) (xs := prs) hm
  have hl := (List.getElem?_eq_some_iff.mp ht).1
  have he := (List.getElem?_eq_some_iff.mp ht).2
  rw [he] at this
  simpa using this
def rowI (prs : List (Int × Int)) (t : P3) : List Int := [(idxV prs (t.1, t.2.1) : Nat), (idxV prs (t.1, t.2.2) : Nat), (idxV prs (t.2.1, t.2.2) : Nat)]
def R_cells_at (ss : List Sl) (s : Sl) : Prop := ∃ ps r, (Gen ps ∧ TbOk (bornV ps)) ∧ BR 100000 r ∧ ss = [psS ps, rS r] ∧ s = .p (.list ((cellsV (bornV ps) r).map tupI))
def R_lcells (ss : List Sl) (s : Sl) : Prop := ∃ t r, TbOk t ∧ BR 100000 r ∧ ss = [.t (tbD t), rS r] ∧ s = .p (.list ((cellsV t r).map tupI))
structure AskOk (ps : List P3) (r : Rt) : Prop where
  g : Gen ps
  t : TbOk (bornV ps)
  rok : RtOk r
  br : BR 100000 r
  c : Closed ps.length (cellsV (bornV ps) r)
def R_ranks (ss : List Sl) (s : Sl) : Prop := ∃ ps r, AskOk ps r ∧ ss = [psS ps, rS r] ∧ s = .p (tupI [(rk ((c2V (cellsV (bornV ps) r)).map pv) : Nat), (rk (((c3V (cellsV (bornV ps) r)).map (rowI (c2V (cellsV (bornV ps) r)))).map vec) : Nat)])
def R_pcount (ss : List Sl) (s : Sl) : Prop := ∃ ps r, AskOk ps r ∧ ss = [psS ps, rS r] ∧ s = iS (distinct (partsL ps.length (c2V (cellsV (bornV ps) r))) : Nat)
def R_hcount (ss : List Sl) (s : Sl) : Prop := ∃ ps r, AskOk ps r ∧ ss = [psS ps, rS r] ∧ s = iS (((c2V (cellsV (bornV ps) r)).length : Nat) - ((c3V (cellsV (bornV ps) r)).length : Nat) - (ps.length : Nat) + (distinct (partsL ps.length (c2V (cellsV (bornV ps) r))) : Nat))
def R_alikeI (ss : List Sl) (s : Sl) : Prop := ∃ a b : Int, ss = [iS a, iS b] ∧ s = bS (decide (a = b))
def R_alikeT (ss : List Sl) (s : Sl) : Prop := ∃ a b : Int, ss = [.p (tupI [a, b]), .p (tupI [a, b])] ∧ s = bS true
theorem keys_src (t : List (List Int × Rt)) : ((tbD t).map (·.1)).map tupI = t.map fun e => tupI e.1 := by
  unfold tbD
  rw [List.map_map, List.map_map]
  rfl
theorem cells_nil {t : List (List Int × Rt)} {r : Rt} (h : ∀ e ∈ t, e.1 ≠ []) : ∀ c ∈ (t.filter fun e => !belowV r e.2).map (·.1), c ≠ [] := by
  intro c hc
  obtain ⟨e, he, rfl⟩ := List.mem_map.mp hc
  exact h e (List.mem_filter.mp he).1
section
variable {P : Program} {w : World} {K : PySem.W.Frag} {mg : Str → Option Value} {base : Heap}
theorem fn_cells_at (B : Blt mg) (D : DefAt K mg "cells_at" s_cells_at ["points", "r"]) (h_born : Fn P w K mg base "born" R_born 6) (h_is_below : Fn P w K mg base "is_below" R_below 1) : Fn P w K mg base "cells_at" R_cells_at 7 := by
  -- def cells_at
  refine fn_at D sc_cells_at (by rintro _ _ ⟨a, b, _, _, rfl, rfl⟩; rfl) ?_
  rintro _ _ ⟨ps, r, ⟨g, tok⟩, br, rfl, rfl⟩
  (refine pxb_seq (pxs_set (n := 2) sc_cells_at.nd rfl (by first | exact Or.inl rfl | exact Or.inr rfl) (.inl rfl) (px_call h_born (Nat.le_of_ble_eq_true rfl) rfl (pxa_cons (px_var (n := 0) rfl (by first | exact Or.inl rfl | exact Or.inr (Or.inl rfl) | exact Or.inr (Or.inr rfl)) rfl) pxa_nil (fun _ => rfl)) (r_born (by assumption)) rfl (fun _ => rfl) (fun _ => rfl)) rfl (fun _ => rfl)) ?_); (try conv => arg 3; simp only [slots, wipeD, List.map, List.length, List.append, List.replicate, List.set_cons_zero, List.set_cons_succ, List.cons_append, List.nil_append, Nat.add_sub_cancel])
  have hlen : ((bornV ps).filter fun e => !belowV r e.2).length ≤ 90000 := Nat.le_trans (List.length_filter_le _ _) tok.len
  have htl := tok.len
  refine pxb_one (pxs_ret (px_lock (n := 2) rfl (ownFree_of rfl) (by intro k tb' hk; rcases k with _ | _ | _ | _ | k <;> simp_all) (px_sorted (ts := ((bornV ps).filter fun e => !belowV r e.2).map (·.1)) B.sorted rfl ?_ (cells_nil tok.ne) (by rw [List.length_map]; omega) (fun _ => rfl))) rfl)
  (try conv => arg 3; simp only [slots, wipeD, List.map, List.length, List.append, List.replicate, List.set_cons_zero, List.set_cons_succ, List.cons_append, List.nil_append, Nat.add_sub_cancel])
  
  refine (px_lcE (enc := fun e : List Int × Rt => tupI e.1) (ts := bornV ps) (cond := fun e => !belowV r e.2) (y := fun e => tupI e.1) (own := [("cell", 3)]) sc_cells_at.nd ?_ rfl (fun _ _ => rfl) (fun e he => ?_) (by omega) (show lcOut _ _ _ = _ from lcOut_eq _ (fun e : List Int × Rt => e.1) tupI _))
  · rw [← keys_src]
    exact src_keys (px_var (n := 2) rfl (by first | exact Or.inl rfl | exact Or.inr (Or.inl rfl) | exact Or.inr (Or.inr rfl)) rfl) (fun _ => rfl) rfl
  · have hg := tbGet_of tok.nd he
    have hbr := tok.br e he
    exact ⟨_, _, ⟨(pxg_name (n := 3) sc_cells_at.nd rfl (by first | exact Or.inl rfl | exact Or.inr rfl) (by first | exact .inl rfl | exact .inr rfl)), (by decide), (pxi_one (pxt_not (pxt_val (px_call h_is_below (Nat.le_of_ble_eq_true rfl) rfl (pxa_cons (px_var (n := 1) rfl (by first | exact Or.inl rfl | exact Or.inr (Or.inl rfl) | exact Or.inr (Or.inr rfl)) rfl) (pxa_cons (px_dgetF (px_var (n := 2) rfl (by first | exact Or.inl rfl | exact Or.inr (Or.inl rfl) | exact Or.inr (Or.inr rfl)) rfl) (px_var (n := 3) rfl (by first | exact Or.inl rfl | exact Or.inr (Or.inl rfl) | exact Or.inr (Or.inr rfl)) rfl) (by assumption) (fun _ _ => rfl)) pxa_nil (fun _ => rfl)) (fun _ => rfl)) (r_below (by assumption) (by assumption)) rfl (fun _ => rfl) (fun _ => rfl)) (fun _ _ => rfl)))), fun hc => (px_var (n := 3) rfl (by first | exact Or.inl rfl | exact Or.inr (Or.inl rfl) | exact Or.inr (Or.inr rfl)) rfl)⟩⟩
theorem fn_L_cells (B : Blt mg) (D : DefAt K mg "_law_cells" s_L_cells ["_law_table", "_law_r"]) (h_L_less : Fn P w K mg base "_law_less" R_below 1) : Fn P w K mg base "_law_cells" R_lcells 2 := by
  -- def _law_cells
  refine fn_at D sc_L_cells (by rintro _ _ ⟨a, b, _, _, rfl, rfl⟩; rfl) ?_
  rintro _ _ ⟨t, r, tok, br, rfl, rfl⟩
  have hlen : (t.filter fun e => !belowV r e.2).length ≤ 90000 := Nat.le_trans (List.length_filter_le _ _) tok.len
  have htl := tok.len
  refine pxb_one (pxs_ret (px_lock (n := 0) rfl (ownFree_of rfl) (by intro k tb' hk; rcases k with _ | _ | _ | k <;> simp_all [slots]) (px_sorted (ts := (t.filter fun e => !belowV r e.2).map (·.1)) B.sorted rfl ?_ (cells_nil tok.ne) (by rw [List.length_map]; omega) (fun _ => rfl))) rfl)
  (try conv => arg 3; simp only [slots, wipeD, List.map, List.length, List.append, List.replicate, List.set_cons_zero, List.set_cons_succ, List.cons_append, List.nil_append, Nat.add_sub_cancel])
  
  refine (px_lcE (enc := fun e : List Int × Rt => tupI e.1) (ts := t) (cond := fun e => !belowV r e.2) (y := fun e => tupI e.1) (own := [("_law_cell", 2)]) sc_L_cells.nd ?_ rfl (fun _ _ => rfl) (fun e he => ?_) (by omega) (show lcOut _ _ _ = _ from lcOut_eq _ (fun e : List Int × Rt => e.1) tupI _))
  · rw [← keys_src]
    exact src_keys (px_var (n := 0) rfl (by first | exact Or.inl rfl | exact Or.inr (Or.inl rfl) | exact Or.inr (Or.inr rfl)) rfl) (fun _ => rfl) rfl
  · have hg := tbGet_of tok.nd he
    have hbr := tok.br e he
    exact ⟨_, _, ⟨(pxg_name (n := 2) sc_L_cells.nd rfl (by first | exact Or.inl rfl | exact Or.inr rfl) (by first | exact .inl rfl | exact .inr rfl)), (by decide), (pxi_one (pxt_not (pxt_val (px_call h_L_less (Nat.le_of_ble_eq_true rfl) rfl (pxa_cons (px_var (n := 1) rfl (by first | exact Or.inl rfl | exact Or.inr (Or.inl rfl) | exact Or.inr (Or.inr rfl)) rfl) (pxa_cons (px_dgetF (px_var (n := 0) rfl (by first | exact Or.inl rfl | exact Or.inr (Or.inl rfl) | exact Or.inr (Or.inr rfl)) rfl) (px_var (n := 2) rfl (by first | exact Or.inl rfl | exact Or.inr (Or.inl rfl) | exact Or.inr (Or.inr rfl)) rfl) (by assumption) (fun _ _ => rfl)) pxa_nil (fun _ => rfl)) (fun _ => rfl)) (r_below (by assumption) (by assumption)) rfl (fun _ => rfl) (fun _ => rfl)) (fun _ _ => rfl)))), fun hc => (px_var (n := 2) rfl (by first | exact Or.inl rfl | exact Or.inr (Or.inl rfl) | exact Or.inr (Or.inr rfl)) rfl)⟩⟩
theorem fn_ranks_at (B : Blt mg) (D : DefAt K mg "ranks_at" s_ranks_at ["points", "r"]) (h_need_disks : Fn P w K mg base "need_disks" R_need_disks 5) (h_need_radius : Fn P w K mg base "need_radius" R_need_radius 3) (h_cells_at : Fn P w K mg base "cells_at" R_cells_at 7) (h_of_size : Fn P w K mg base "of_size" R_of_size 1) (h_rank_of_rows : Fn P w K mg base "rank_of_rows" R_rank 1) : Fn P w K mg base "ranks_at" R_ranks 8 := by
  -- def ranks_at
  refine fn_at D sc_ranks_at (by rintro _ _ ⟨a, b, _, rfl, rfl⟩; rfl) ?_
  rintro _ _ ⟨ps, r, ⟨g, tok, rok, br, cl⟩, rfl, rfl⟩
  have hgt : Gen ps ∧ TbOk (bornV ps) := ⟨g, tok⟩
  have l2 := g.l2
  refine pxb_seq (pxs_expr (px_call h_need_disks (Nat.le_of_ble_eq_true rfl) rfl (pxa_cons (px_var (n := 0) rfl (by first | exact Or.inl rfl | exact Or.inr (Or.inl rfl) | exact Or.inr (Or.inr rfl)) rfl) pxa_nil (fun _ => rfl)) (r_need_disks (by assumption)) rfl (fun _ => rfl) (fun _ => rfl)) (fun _ => rfl)) ?_
  refine pxb_seq (pxs_expr (px_call h_need_radius (Nat.le_of_ble_eq_true rfl) rfl (pxa_cons (px_var (n := 1) rfl (by first | exact Or.inl rfl | exact Or.inr (Or.inl rfl) | exact Or.inr (Or.inr rfl)) rfl) pxa_nil (fun _ => rfl)) (r_need_radius (by assumption)) rfl (fun _ => rfl) (fun _ => rfl)) (fun _ => rfl)) ?_
  (refine pxb_seq (pxs_set (n := 2) sc_ranks_at.nd rfl (by first | exact Or.inl rfl | exact Or.inr rfl) (.inl rfl) (px_call h_cells_at (Nat.le_of_ble_eq_true rfl) rfl (pxa_cons (px_var (n := 0) rfl (by first | exact Or.inl rfl | exact Or.inr (Or.inl rfl) | exact Or.inr (Or.inr rfl)) rfl) (pxa_cons (px_var (n := 1) rfl (by first | exact Or.inl rfl | exact Or.inr (Or.inl rfl) | exact Or.inr (Or.inr rfl)) rfl) pxa_nil (fun _ => rfl)) (fun _ => rfl)) ⟨_, _, by assumption, by assumption, rfl, rfl⟩ rfl (fun _ => rfl) (fun _ => rfl)) rfl (fun _ => rfl)) ?_); (try conv => arg 3; simp only [slots, wipeD, List.map, List.length, List.append, List.replicate, List.set_cons_zero, List.set_cons_succ, List.cons_append, List.nil_append, Nat.add_sub_cancel])
  generalize cellsV (bornV ps) r = cs at *
  have hcl := cl.len
  have hnd2 := c2V_nodup cl.nd
  have hnd3 := c3V_nodup cl.nd
  have hp := cl.p
  have ht := cl.t
  have hl2 : (c2V cs).length ≤ 1600 := Nat.le_trans (len_le_sub hnd2 fun p h => mem_pairsV.mpr (hp p h)) (pairsV_length _ (by omega))
  have hl3 : (c3V cs).length ≤ 90000 := by
    unfold c3V szV
    rw [List.length_map]
    exact Nat.le_trans (List.length_filter_le _ _) hcl
  have hs2 := r_size2 hcl
  have hs3 := r_size3 hcl
  refine pxb_seq (pxs_set (n := 3) sc_ranks_at.nd rfl (by first | exact Or.inl rfl | exact Or.inr rfl) (.inl rfl) (px_call (s := .p (.list ((c2V cs).map prD))) h_of_size (Nat.le_of_ble_eq_true rfl) rfl (pxa_cons (px_var (n := 2) rfl (by first | exact Or.inl rfl | exact Or.inr (Or.inl rfl) | exact Or.inr (Or.inr rfl)) rfl) (pxa_cons px_int pxa_nil (fun _ => rfl)) (fun _ => rfl)) hs2 rfl (fun _ => rfl) (fun _ => rfl)) rfl (fun _ => rfl)) ?_
  (try conv => arg 3; simp only [slots, wipeD, List.map, List.length, List.append, List.replicate, List.set_cons_zero, List.set_cons_succ, List.cons_append, List.nil_append, Nat.add_sub_cancel])
  
  have hrk1 : R_rank [.p (.list ((c2V cs).map prD))] (iS (rk ((c2V cs).map pv) : Nat)) := by
    refine ⟨(c2V cs).map prL, ps.length, true, ⟨fun r hr x hx => ?_, fun r hr => ?_, ?_, by omega, by omega⟩, ?_, ?_⟩
    · obtain ⟨p, hp', rfl⟩ := List.mem_map.mp hr
      have := hp p hp'
      unfold prL at hx
      simp only [List.mem_cons, List.not_mem_nil, or_false] at hx
      omega
    · obtain ⟨p, hp', rfl⟩ := List.mem_map.mp hr
      have := hp p hp'
      unfold prL
      rw [List.nodup_cons]
      refine ⟨?_, by simp⟩
      rw [List.mem_singleton]
      omega
    · rw [List.length_map]; omega
    · rw [if_pos rfl, List.map_map]; rfl
    · rw [List.map_map]; rfl
  have hidx : ∀ p ∈ c2V cs, ∃ j : Nat, j = idxV (c2V cs) p ∧ (((c2V cs).map prL))[j]? = some (prL p) ∧ ∀ (m : Nat) (t : List Int), m < j → ((c2V cs).map prL)[m]? = some t → t ≠ prL p := by
    intro p hp'
    refine ⟨_, rfl, ?_, fun m t hm ht' e => ?_⟩
    · rw [List.getElem?_map, (idxV_get hp').1]; rfl
    · obtain ⟨q, hq, rfl⟩ := get_map ht'
      refine idxV_first m q hm hq ?_
      have e1 := (List.cons.inj e).1
      have e2 := (List.cons.inj (List.cons.inj e).2).1
      exact Prod.ext e1 e2
  have hpe : (c2V cs).map prD = ((c2V cs).map prL).map tupI := by rw [List.map_map]; rfl
  have hrk2 : R_rank [.p (.list (((c3V cs).map (rowI (c2V cs))).map lI))] (iS (rk (((c3V cs).map (rowI (c2V cs))).map vec) : Nat)) := by
    refine ⟨(c3V cs).map (rowI (c2V cs)), ((c2V cs).length : Nat), false, ⟨fun r hr x hx => ?_, fun r hr => ?_, ?_, by omega, by omega⟩, by rw [if_neg (by decide)], rfl⟩
    · obtain ⟨t, ht', rfl⟩ := List.mem_map.mp hr
      have h := ht t ht'
      have i1 := (idxV_get h.2.2.1).2
      have i2 := (idxV_get h.2.2.2.1).2
      have i3 := (idxV_get h.2.2.2.2).2
      unfold rowI at hx
      simp only [List.mem_cons, List.not_mem_nil, or_false] at hx
      omega
    · obtain ⟨t, ht', rfl⟩ := List.mem_map.mp hr
      have h := ht t ht'
      have i1 := (idxV_get h.2.2.1).1
      have i2 := (idxV_get h.2.2.2.1).1
      have i3 := (idxV_get h.2.2.2.2).1
      have ne : ∀ p q : Int × Int, (c2V cs)[idxV (c2V cs) p]? = some p → (c2V cs)[idxV (c2V cs) q]? = some q → p ≠ q → ((idxV (c2V cs) p : Nat) : Int) ≠ (idxV (c2V cs) q : Nat) := by
        intro p q hp hq hne e
        have e' : idxV (c2V cs) p = idxV (c2V cs) q := by omega
        rw [e', hq] at hp
        exact hne (Option.some.inj hp).symm
      have n12 := ne _ _ i1 i2 (fun e => by have := (Prod.mk.inj e).2; omega)
      have n13 := ne _ _ i1 i3 (fun e => by have := (Prod.mk.inj e).1; omega)
      have n23 := ne _ _ i2 i3 (fun e => by have := (Prod.mk.inj e).1; omega)
      unfold rowI
      simp only [List.nodup_cons, List.mem_cons, List.not_mem_nil, or_false, not_or, List.nodup_nil, and_true, not_false_eq_true]
      exact ⟨⟨n12, n13⟩, n23⟩
    · rw [List.length_map]; exact hl3
  refine pxb_seq (pxs_setLcE (n := 4) (enc := trD) (ts := c3V cs) (cond := fun _ => true) (y := fun t => lI (rowI (c2V cs) t)) (own := [("i", 5), ("j", 6), ("k", 7)]) sc_ranks_at.nd rfl rfl rfl (src_list (px_call (s := .p (.list ((c3V cs).map trD))) h_of_size (Nat.le_of_ble_eq_true rfl) rfl (pxa_cons (px_var (n := 2) rfl (by first | exact Or.inl rfl | exact Or.inr (Or.inl rfl) | exact Or.inr (Or.inr rfl)) rfl) (pxa_cons px_int pxa_nil (fun _ => rfl)) (fun _ => rfl)) hs3 rfl (fun _ => rfl) (fun _ => rfl))) rfl (fun _ _ => rfl) (fun t hm => ?_) (by omega) (by decide) (by decide) (show lcOut _ _ _ = ((c3V cs).map (rowI (c2V cs))).map lI from by rw [lcOut_true, List.map_map]; rfl)) ?_
  · obtain ⟨t1, t2, t3⟩ := t
    have h := ht _ hm
    obtain ⟨j1, e1, g1, f1⟩ := hidx _ h.2.2.1
    obtain ⟨j2, e2, g2, f2⟩ := hidx _ h.2.2.2.1
    obtain ⟨j3, e3, g3, f3⟩ := hidx _ h.2.2.2.2
    rw [hpe]
    refine ⟨_, _, ⟨(pxg_tup (pxgs_cons (pxg_name (n := 5) sc_ranks_at.nd rfl (by first | exact Or.inl rfl | exact Or.inr rfl) (by first | exact .inl rfl | exact .inr rfl)) (pxgs_cons (pxg_name (n := 6) sc_ranks_at.nd rfl (by first | exact Or.inl rfl | exact Or.inr rfl) (by first | exact .inl rfl | exact .inr rfl)) (pxgs_cons (pxg_name (n := 7) sc_ranks_at.nd rfl (by first | exact Or.inl rfl | exact Or.inr rfl) (by first | exact .inl rfl | exact .inr rfl)) pxgs_nil (fun _ => rfl)) (fun _ => rfl)) (fun _ => rfl)) (fun _ => rfl) (fun _ => rfl)), (by decide), pxi_nil, fun hc => ?_⟩⟩
    show PX _ _ _ (.p (.list ([((idxV (c2V cs) (t1, t2) : Nat) : Int), (idxV (c2V cs) (t1, t3) : Nat), (idxV (c2V cs) (t2, t3) : Nat)].map PyData.int)))
    rw [← e1, ← e2, ← e3]
    exact px_lstI (pxi1 (px_indexT (px_var (n := 3) rfl (by first | exact Or.inl rfl | exact Or.inr (Or.inl rfl) | exact Or.inr (Or.inr rfl)) rfl) (px_tupI (pxi1 (px_var (n := 5) rfl (by first | exact Or.inl rfl | exact Or.inr (Or.inl rfl) | exact Or.inr (Or.inr rfl)) rfl) (pxi1 (px_var (n := 6) rfl (by first | exact Or.inl rfl | exact Or.inr (Or.inl rfl) | exact Or.inr (Or.inr rfl)) rfl) pxi0 (fun _ => rfl)) (fun _ => rfl))) g1 f1 (fun _ => rfl) (fun _ => rfl) rfl (fun _ => rfl) (fun _ => rfl)) (pxi1 (px_indexT (px_var (n := 3) rfl (by first | exact Or.inl rfl | exact Or.inr (Or.inl rfl) | exact Or.inr (Or.inr rfl)) rfl) (px_tupI (pxi1 (px_var (n := 5) rfl (by first | exact Or.inl rfl | exact Or.inr (Or.inl rfl) | exact Or.inr (Or.inr rfl)) rfl) (pxi1 (px_var (n := 7) rfl (by first | exact Or.inl rfl | exact Or.inr (Or.inl rfl) | exact Or.inr (Or.inr rfl)) rfl) pxi0 (fun _ => rfl)) (fun _ => rfl))) g2 f2 (fun _ => rfl) (fun _ => rfl) rfl (fun _ => rfl) (fun _ => rfl)) (pxi1 (px_indexT (px_var (n := 3) rfl (by first | exact Or.inl rfl | exact Or.inr (Or.inl rfl) | exact Or.inr (Or.inr rfl)) rfl) (px_tupI (pxi1 (px_var (n := 6) rfl (by first | exact Or.inl rfl | exact Or.inr (Or.inl rfl) | exact Or.inr (Or.inr rfl)) rfl) (pxi1 (px_var (n := 7) rfl (by first | exact Or.inl rfl | exact Or.inr (Or.inl rfl) | exact Or.inr (Or.inr rfl)) rfl) pxi0 (fun _ => rfl)) (fun _ => rfl))) g3 f3 (fun _ => rfl) (fun _ => rfl) rfl (fun _ => rfl) (fun _ => rfl)) pxi0 (fun _ => rfl)) (fun _ => rfl)) (fun _ => rfl))
  (try conv => arg 3; simp only [slots, wipeD, List.map, List.length, List.append, List.replicate, List.set_cons_zero, List.set_cons_succ, List.cons_append, List.nil_append, Nat.add_sub_cancel])
  
  refine pxb_one (pxs_ret (px_tupI (pxi1 (px_call h_rank_of_rows (Nat.le_of_ble_eq_true rfl) rfl (pxa_cons (px_var (n := 3) rfl (by first | exact Or.inl rfl | exact Or.inr (Or.inl rfl) | exact Or.inr (Or.inr rfl)) rfl) pxa_nil (fun _ => rfl)) hrk1 rfl (fun _ => rfl) (fun _ => rfl)) (pxi1 (px_call h_rank_of_rows (Nat.le_of_ble_eq_true rfl) rfl (pxa_cons (px_var (n := 4) rfl (by first | exact Or.inl rfl | exact Or.inr (Or.inl rfl) | exact Or.inr (Or.inr rfl)) rfl) pxa_nil (fun _ => rfl)) hrk2 rfl (fun _ => rfl) (fun _ => rfl)) pxi0 (fun _ => rfl)) (fun _ => rfl))) rfl)
theorem fn_part_count (B : Blt mg) (D : DefAt K mg "part_count" s_part_count ["points", "r"]) (h_need_disks : Fn P w K mg base "need_disks" R_need_disks 5) (h_need_radius : Fn P w K mg base "need_radius" R_need_radius 3) (h_cells_at : Fn P w K mg base "cells_at" R_cells_at 7) (h_of_size : Fn P w K mg base "of_size" R_of_size 1) (h_parts_in : Fn P w K mg base "parts_in" R_parts 1) : Fn P w K mg base "part_count" R_pcount 8 := by
  -- def part_count
  refine fn_at D sc_part_count (by rintro _ _ ⟨a, b, _, rfl, rfl⟩; rfl) ?_
  rintro _ _ ⟨ps, r, ⟨g, tok, rok, br, cl⟩, rfl, rfl⟩
  have hgt : Gen ps ∧ TbOk (bornV ps) := ⟨g, tok⟩
  have l2 := g.l2
  refine pxb_seq (pxs_expr (px_call h_need_disks (Nat.le_of_ble_eq_true rfl) rfl (pxa_cons (px_var (n := 0) rfl (by first | exact Or.inl rfl | exact Or.inr (Or.inl rfl) | exact Or.inr (Or.inr rfl)) rfl) pxa_nil (fun _ => rfl)) (r_need_disks (by assumption)) rfl (fun _ => rfl) (fun _ => rfl)) (fun _ => rfl)) ?_
  refine pxb_seq (pxs_expr (px_call h_need_radius (Nat.le_of_ble_eq_true rfl) rfl (pxa_cons (px_var (n := 1) rfl (by first | exact Or.inl rfl | exact Or.inr (Or.inl rfl) | exact Or.inr (Or.inr rfl)) rfl) pxa_nil (fun _ => rfl)) (r_need_radius (by assumption)) rfl (fun _ => rfl) (fun _ => rfl)) (fun _ => rfl)) ?_
  have hcl := cl.len
  have hs2 := r_size2 hcl
  have hp : R_parts [iS ((ps.map ptD).length : Nat), .p (.list ((c2V (cellsV (bornV ps) r)).map prD))] (iS (distinct (partsL ps.length (c2V (cellsV (bornV ps) r))) : Nat)) := ⟨ps.length, _, by omega, cl.p, by rw [List.length_map], rfl⟩
  exact pxb_one (pxs_ret (px_call h_parts_in (Nat.le_of_ble_eq_true rfl) rfl (pxa_cons (px_lenT B.len rfl (px_var (n := 0) rfl (by first | exact Or.inl rfl | exact Or.inr (Or.inl rfl) | exact Or.inr (Or.inr rfl)) rfl) (fun _ => rfl)) (pxa_cons (px_call h_of_size (Nat.le_of_ble_eq_true rfl) rfl (pxa_cons (px_call h_cells_at (Nat.le_of_ble_eq_true rfl) rfl (pxa_cons (px_var (n := 0) rfl (by first | exact Or.inl rfl | exact Or.inr (Or.inl rfl) | exact Or.inr (Or.inr rfl)) rfl) (pxa_cons (px_var (n := 1) rfl (by first | exact Or.inl rfl | exact Or.inr (Or.inl rfl) | exact Or.inr (Or.inr rfl)) rfl) pxa_nil (fun _ => rfl)) (fun _ => rfl)) ⟨_, _, by assumption, by assumption, rfl, rfl⟩ rfl (fun _ => rfl) (fun _ => rfl)) (pxa_cons px_int pxa_nil (fun _ => rfl)) (fun _ => rfl)) hs2 rfl (fun _ => rfl) (fun _ => rfl)) pxa_nil (fun _ => rfl)) (fun _ => rfl)) hp rfl (fun _ => rfl) (fun _ => rfl)) rfl)
theorem fn_hole_count (B : Blt mg) (D : DefAt K mg "hole_count" s_hole_count ["points", "r"]) (h_need_disks : Fn P w K mg base "need_disks" R_need_disks 5) (h_need_radius : Fn P w K mg base "need_radius" R_need_radius 3) (h_cells_at : Fn P w K mg base "cells_at" R_cells_at 7) (h_of_size : Fn P w K mg base "of_size" R_of_size 1) (h_parts_in : Fn P w K mg base "parts_in" R_parts 1) : Fn P w K mg base "hole_count" R_hcount 8 := by
  -- def hole_count
  refine fn_at D sc_hole_count (by rintro _ _ ⟨a, b, _, rfl, rfl⟩; rfl) ?_
  rintro _ _ ⟨ps, r, ⟨g, tok, rok, br, cl⟩, rfl, rfl⟩
  have hgt : Gen ps ∧ TbOk (bornV ps) := ⟨g, tok⟩
  have l2 := g.l2
  refine pxb_seq (pxs_expr (px_call h_need_disks (Nat.le_of_ble_eq_true rfl) rfl (pxa_cons (px_var (n := 0) rfl (by first | exact Or.inl rfl | exact Or.inr (Or.inl rfl) | exact Or.inr (Or.inr rfl)) rfl) pxa_nil (fun _ => rfl)) (r_need_disks (by assumption)) rfl (fun _ => rfl) (fun _ => rfl)) (fun _ => rfl)) ?_
  refine pxb_seq (pxs_expr (px_call h_need_radius (Nat.le_of_ble_eq_true rfl) rfl (pxa_cons (px_var (n := 1) rfl (by first | exact Or.inl rfl | exact Or.inr (Or.inl rfl) | exact Or.inr (Or.inr rfl)) rfl) pxa_nil (fun _ => rfl)) (r_need_radius (by assumption)) rfl (fun _ => rfl) (fun _ => rfl)) (fun _ => rfl)) ?_
  have hcl := cl.len
  have hs2 := r_size2 hcl
  have hs3 := r_size3 hcl
  have hp : R_parts [iS ((ps.map ptD).length : Nat), .p (.list ((c2V (cellsV (bornV ps) r)).map prD))] (iS (distinct (partsL ps.length (c2V (cellsV (bornV ps) r))) : Nat)) := ⟨ps.length, _, by omega, cl.p, by rw [List.length_map], rfl⟩
  (refine pxb_seq (pxs_set (n := 2) sc_hole_count.nd rfl (by first | exact Or.inl rfl | exact Or.inr rfl) (.inl rfl) (px_call h_cells_at (Nat.le_of_ble_eq_true rfl) rfl (pxa_cons (px_var (n := 0) rfl (by first | exact Or.inl rfl | exact Or.inr (Or.inl rfl) | exact Or.inr (Or.inr rfl)) rfl) (pxa_cons (px_var (n := 1) rfl (by first | exact Or.inl rfl | exact Or.inr (Or.inl rfl) | exact Or.inr (Or.inr rfl)) rfl) pxa_nil (fun _ => rfl)) (fun _ => rfl)) ⟨_, _, by assumption, by assumption, rfl, rfl⟩ rfl (fun _ => rfl) (fun _ => rfl)) rfl (fun _ => rfl)) ?_); (try conv => arg 3; simp only [slots, wipeD, List.map, List.length, List.append, List.replicate, List.set_cons_zero, List.set_cons_succ, List.cons_append, List.nil_append, Nat.add_sub_cancel])
  refine pxb_seq (pxs_set (n := 3) sc_hole_count.nd rfl (by first | exact Or.inl rfl | exact Or.inr rfl) (.inl rfl) (px_call (s := .p (.list ((c2V (cellsV (bornV ps) r)).map prD))) h_of_size (Nat.le_of_ble_eq_true rfl) rfl (pxa_cons (px_var (n := 2) rfl (by first | exact Or.inl rfl | exact Or.inr (Or.inl rfl) | exact Or.inr (Or.inr rfl)) rfl) (pxa_cons px_int pxa_nil (fun _ => rfl)) (fun _ => rfl)) hs2 rfl (fun _ => rfl) (fun _ => rfl)) rfl (fun _ => rfl)) ?_
  (try conv => arg 3; simp only [slots, wipeD, List.map, List.length, List.append, List.replicate, List.set_cons_zero, List.set_cons_succ, List.cons_append, List.nil_append, Nat.add_sub_cancel])
  
  refine pxb_one (pxs_ret (px_add (px_sub (px_sub (px_lenL B.len rfl (px_var (n := 3) rfl (by first | exact Or.inl rfl | exact Or.inr (Or.inl rfl) | exact Or.inr (Or.inr rfl)) rfl) (fun _ => rfl)) (px_lenL B.len rfl (px_call h_of_size (Nat.le_of_ble_eq_true rfl) rfl (pxa_cons (px_var (n := 2) rfl (by first | exact Or.inl rfl | exact Or.inr (Or.inl rfl) | exact Or.inr (Or.inr rfl)) rfl) (pxa_cons px_int pxa_nil (fun _ => rfl)) (fun _ => rfl)) hs3 rfl (fun _ => rfl) (fun _ => rfl)) (fun _ => rfl))) (px_lenT B.len rfl (px_var (n := 0) rfl (by first | exact Or.inl rfl | exact Or.inr (Or.inl rfl) | exact Or.inr (Or.inr rfl)) rfl) (fun _ => rfl))) (px_call h_parts_in (Nat.le_of_ble_eq_true rfl) rfl (pxa_cons (px_lenT B.len rfl (px_var (n := 0) rfl (by first | exact Or.inl rfl | exact Or.inr (Or.inl rfl) | exact Or.inr (Or.inr rfl)) rfl) (fun _ => rfl)) (pxa_cons (px_var (n := 3) rfl (by first | exact Or.inl rfl | exact Or.inr (Or.inl rfl) | exact Or.inr (Or.inr rfl)) rfl) pxa_nil (fun _ => rfl)) (fun _ => rfl)) hp rfl (fun _ => rfl) (fun _ => rfl))) ?_)
  rw [List.length_map, List.length_map, List.length_map]
theorem fn_L_alikeI (B : Blt mg) (D : DefAt K mg "_law_alike" s_L_alike ["_law_found", "_law_due"]) : Fn P w K mg base "_law_alike" R_alikeI 1 := by
  -- def _law_alike
  refine fn_at D sc_L_alike (by rintro _ _ ⟨a, b, rfl, rfl⟩; rfl) ?_
  rintro _ _ ⟨a, b, rfl, rfl⟩
  refine pxb_cons (nx1 := fun δ' => δ' = [some (iS a), some (iS b), none]) (pxs_if (pxt_val (px_isi2 B.isi rfl (px_var (n := 1) rfl (by first | exact Or.inl rfl | exact Or.inr (Or.inl rfl) | exact Or.inr (Or.inr rfl)) rfl) (px_cls B.tuple rfl (by decide +kernel)) (px_cls B.list rfl (by decide +kernel)) (show kitB "int" "tuple" = some false by decide +kernel) (show kitB "int" "list" = some false by decide +kernel) (fun _ => rfl) (fun _ => rfl) (fun _ => rfl) (fun _ => rfl) (fun _ => rfl)) (fun _ _ => rfl)) (fun h => by cases h) fun h => pxb_nil rfl) ?_
  rintro _ rfl
  refine pxb_cons (nx1 := fun δ' => δ' = [some (iS a), some (iS b), none]) (pxs_if (PXW.pt (pxw_or (pxt_cmp (px_isN (px_var (n := 1) rfl (by first | exact Or.inl rfl | exact Or.inr (Or.inl rfl) | exact Or.inr (Or.inr rfl)) rfl)) (nomark _)) (fun _ => (pxw_or1 (pxt_val (px_isi B.isi rfl (px_var (n := 1) rfl (by first | exact Or.inl rfl | exact Or.inr (Or.inl rfl) | exact Or.inr (Or.inr rfl)) rfl) (px_cls B.str rfl (by decide +kernel)) (show kitB "int" "str" = some false by decide +kernel) (fun _ => rfl) (fun _ => rfl) (fun _ => rfl)) (fun _ _ => rfl)))))) (fun h => by cases h) fun h => pxb_nil rfl) ?_
  rintro _ rfl
  exact pxb_one (pxs_ret (px_and (px_isi B.isi rfl (px_var (n := 0) rfl (by first | exact Or.inl rfl | exact Or.inr (Or.inl rfl) | exact Or.inr (Or.inr rfl)) rfl) (px_cls B.int rfl (by decide +kernel)) (show kitB "int" "int" = some true by decide +kernel) (fun _ => rfl) (fun _ => rfl) (fun _ => rfl)) (fun _ => (px_and (px_cmp (px_eqB (px_isi B.isi rfl (px_var (n := 0) rfl (by first | exact Or.inl rfl | exact Or.inr (Or.inl rfl) | exact Or.inr (Or.inr rfl)) rfl) (px_cls B.bool rfl (by decide +kernel)) (show kitB "int" "bool" = some false by decide +kernel) (fun _ => rfl) (fun _ => rfl) (fun _ => rfl)) (px_isi B.isi rfl (px_var (n := 1) rfl (by first | exact Or.inl rfl | exact Or.inr (Or.inl rfl) | exact Or.inr (Or.inr rfl)) rfl) (px_cls B.bool rfl (by decide +kernel)) (show kitB "int" "bool" = some false by decide +kernel) (fun _ => rfl) (fun _ => rfl) (fun _ => rfl))) (nomark _)) (fun _ => (px_one (px_cmp (px_eqI (px_var (n := 0) rfl (by first | exact Or.inl rfl | exact Or.inr (Or.inl rfl) | exact Or.inr (Or.inr rfl)) rfl) (px_var (n := 1) rfl (by first | exact Or.inl rfl | exact Or.inr (Or.inl rfl) | exact Or.inr (Or.inr rfl)) rfl)) (nomark _))))))) rfl)
theorem fn_L_alikeT (B : Blt mg) (D : DefAt K mg "_law_alike" s_L_alike ["_law_found", "_law_due"]) : Fn P w K mg base "_law_alike" R_alikeT 2 := by
  -- def _law_alike
  have h_L_alike := fn_L_alikeI (P := P) (w := w) (K := K) (mg := mg) (base := base) B D
  refine fn_at D sc_L_alike (by rintro _ _ ⟨a, b, rfl, rfl⟩; rfl) ?_
  rintro _ _ ⟨a, b, rfl, rfl⟩
  have h0 : atI ([a, b].map PyData.int) 0 = some (.int a) := rfl
  have h1 : atI ([a, b].map PyData.int) 1 = some (.int b) := rfl
  refine pxb_cons (nx1 := fun _ => False) (pxs_if (pxt_val (px_isi2 B.isi rfl (px_var (n := 1) rfl (by first | exact Or.inl rfl | exact Or.inr (Or.inl rfl) | exact Or.inr (Or.inr rfl)) rfl) (px_cls B.tuple rfl (by decide +kernel)) (px_cls B.list rfl (by decide +kernel)) (show kitB "tuple" "tuple" = some true by decide +kernel) (show kitB "tuple" "list" = some false by decide +kernel) (fun _ => rfl) (fun _ => rfl) (fun _ => rfl) (fun _ => rfl) (fun _ => rfl)) (fun _ _ => rfl)) (fun h => ?_) fun h => by cases h) (fun _ h => h.elim)
  refine pxb_cons (nx1 := fun δ' => δ' = [some (.p (tupI [a, b])), some (.p (tupI [a, b])), none]) (pxs_if (PXW.pt (pxw_or (pxt_not (pxt_val (px_isi2 B.isi rfl (px_var (n := 0) rfl (by first | exact Or.inl rfl | exact Or.inr (Or.inl rfl) | exact Or.inr (Or.inr rfl)) rfl) (px_cls B.tuple rfl (by decide +kernel)) (px_cls B.list rfl (by decide +kernel)) (show kitB "tuple" "tuple" = some true by decide +kernel) (show kitB "tuple" "list" = some false by decide +kernel) (fun _ => rfl) (fun _ => rfl) (fun _ => rfl) (fun _ => rfl) (fun _ => rfl)) (fun _ _ => rfl))) (fun _ => (pxw_or1 (pxt_cmp (px_neB (px_isi B.isi rfl (px_var (n := 0) rfl (by first | exact Or.inl rfl | exact Or.inr (Or.inl rfl) | exact Or.inr (Or.inr rfl)) rfl) (px_cls B.list rfl (by decide +kernel)) (show kitB "tuple" "list" = some false by decide +kernel) (fun _ => rfl) (fun _ => rfl) (fun _ => rfl)) (px_isi B.isi rfl (px_var (n := 1) rfl (by first | exact Or.inl rfl | exact Or.inr (Or.inl rfl) | exact Or.inr (Or.inr rfl)) rfl) (px_cls B.list rfl (by decide +kernel)) (show kitB "tuple" "list" = some false by decide +kernel) (fun _ => rfl) (fun _ => rfl) (fun _ => rfl))) (nomark _)))))) (fun h => by cases h) fun h => pxb_nil rfl) ?_
  rintro _ rfl
  refine pxb_cons (nx1 := fun δ' => δ' = [some (.p (tupI [a, b])), some (.p (tupI [a, b])), none]) (pxs_if (pxt_cmp (px_neI (px_lenT B.len rfl (px_var (n := 0) rfl (by first | exact Or.inl rfl | exact Or.inr (Or.inl rfl) | exact Or.inr (Or.inr rfl)) rfl) (fun _ => rfl)) (px_lenT B.len rfl (px_var (n := 1) rfl (by first | exact Or.inl rfl | exact Or.inr (Or.inl rfl) | exact Or.inr (Or.inr rfl)) rfl) (fun _ => rfl))) (nomark _)) (fun h => by simp at h) fun h => pxb_nil rfl) ?_
  rintro _ rfl
  have hsh := shaped_listI ((rgV 0 2).filter fun k => !decide (([a, b] : List Int).getD k.toNat 0 = ([a, b] : List Int).getD k.toNat 0))
  refine pxb_one (pxs_ret (px_cmp (px_eqNil (px_lcE (enc := PyData.int) (ts := rgV 0 2) (cond := fun k => !decide (([a, b] : List Int).getD k.toNat 0 = ([a, b] : List Int).getD k.toNat 0)) (y := PyData.int) (own := [("_law_k", 2)]) sc_L_alike.nd ?_ rfl (fun _ _ => rfl) (fun k hk => ?_) (by rw [rgV_length]; omega) (show lcOut _ _ _ = List.map PyData.int _ from rfl)) hsh) (nomark _)) ?_)
  · show Src _ _ _ _ ((rgV 0 ([a, b].map PyData.int).length).map PyData.int)
    have h2 : ([a, b].map PyData.int).length ≤ 100000 := by simp
    exact (src_range1V B.range rfl (px_lenT B.len rfl (px_var (n := 1) rfl (by first | exact Or.inl rfl | exact Or.inr (Or.inl rfl) | exact Or.inr (Or.inr rfl)) rfl) (fun _ => rfl)) (by omega) (fun _ => rfl))
  · have hm := mem_rgV.mp hk
    have hk2 : k = 0 ∨ k = 1 := by omega
    have ha : atI ([a, b].map PyData.int) k = some (.int (([a, b] : List Int).getD k.toNat 0)) := by
      rcases hk2 with rfl | rfl <;> rfl
    exact ⟨_, _, ⟨(pxg_name (n := 2) sc_L_alike.nd rfl (by first | exact Or.inl rfl | exact Or.inr rfl) (by first | exact .inl rfl | exact .inr rfl)), (by decide), (pxi_one (pxt_not (pxt_val (px_call h_L_alike (Nat.le_of_ble_eq_true rfl) rfl (pxa_cons (px_ixT (px_var (n := 0) rfl (by first | exact Or.inl rfl | exact Or.inr (Or.inl rfl) | exact Or.inr (Or.inr rfl)) rfl) (px_var (n := 2) rfl (by first | exact Or.inl rfl | exact Or.inr (Or.inl rfl) | exact Or.inr (Or.inr rfl)) rfl) (by first | assumption | rfl) (fun _ _ => rfl)) (pxa_cons (px_ixT (px_var (n := 1) rfl (by first | exact Or.inl rfl | exact Or.inr (Or.inl rfl) | exact Or.inr (Or.inr rfl)) rfl) (px_var (n := 2) rfl (by first | exact Or.inl rfl | exact Or.inr (Or.inl rfl) | exact Or.inr (Or.inr rfl)) rfl) (by first | assumption | rfl) (fun _ _ => rfl)) pxa_nil (fun _ => rfl)) (fun _ => rfl)) ⟨_, _, rfl, rfl⟩ rfl (fun _ => rfl) (fun _ => rfl)) (fun _ _ => rfl)))), fun hc => (px_var (n := 2) rfl (by first | exact Or.inl rfl | exact Or.inr (Or.inl rfl) | exact Or.inr (Or.inr rfl)) rfl)⟩⟩
  · rw [List.filter_eq_nil_iff.mpr fun k _ => by simp]
    rfl
end
end M
namespace M
open L2 PyProof.Rows PySem.Spec PySem
def rowL (l : Addr) (i s c : Int) : HO := .lst [.ref l, .int i, .int s, .int c]
def spTaken (K : PySem.W.Frag) : Sp := fun vs H Q _ => ∃ (a l : Addr) (ns : List Int) (i s c many : Int), vs = [.ref a, .int many] ∧ 0 < many ∧ many < 1000000 ∧ SqL K H l (ns.map V.int) ∧ H a = some (rowL l i s c) ∧ 0 ≤ i ∧ 0 ≤ s ∧ s < 2147483647 ∧ 0 ≤ c ∧
  ∀ t i' s' c' : Int, 0 ≤ t → t < many → 0 ≤ i' → 0 ≤ s' → s' < 2147483647 → 0 ≤ c' → Q (.int t) (upd H a (rowL l i' s' c'))
theorem sq_row {K : PySem.W.Frag} {H : Hp} {a l l' : Addr} {ns : List Int} {i s c : Int} {u : HO} (h : SqL K H l (ns.map V.int)) (ha : H a = some (rowL l' i s c)) : SqL K (upd H a u) l (ns.map V.int) := by
  rcases h with h | h
  · have hne : l ≠ a := by
      rintro rfl
      rcases h with h | ⟨o, h⟩
      · rw [ha] at h
        have h := Option.some.inj h
        unfold rowL at h
        cases ns with
        | nil => cases h
        | cons x r => injection h with h; injection h with h; cases h
      · rw [ha] at h
        cases h
    refine .inl ?_
    unfold Rd at *
    rw [upd_ne hne]
    exact h
  · exact .inr h
theorem upd_upd (H : Hp) (a : Addr) (u v : HO) : upd (upd H a u) a v = upd H a v := by
  funext b
  by_cases z : b = a
  · rw [z, upd_same, upd_same]
  · rw [upd_ne z, upd_ne z, upd_ne z]
theorem rd_row {K : PySem.W.Frag} {H : Hp} {a : Addr} {xs : List V} {k : Int} {v : V} {Q : VK} (h : H a = some (.lst xs)) (hv : atI xs k = some v) (q : Q v H) : rIxL K (.ref a) (.int k) H Q := ⟨a, xs, k, v, rfl, rfl, .inl (.inl h), hv, q⟩
theorem fmod_ok {x m : Int} (h : 0 < m) : 0 ≤ x.fmod m ∧ x.fmod m < m := ⟨Int.fmod_nonneg_of_pos x h, Int.fmod_lt_of_pos x h⟩
theorem fdiv_nn {x m : Int} (h : 0 < m) (hx : 0 ≤ x) : 0 ≤ x.fdiv m := by
  rw [Int.fdiv_eq_ediv_of_nonneg x (by omega)]
  exact Int.ediv_nonneg hx (by omega)
theorem divM {x m : Int} (h : 0 < m) (h2 : m < 1000000) : CDivX x m := divX (n := 64) (by unfold Bd; have : (2 : Nat) ^ 64 = 18446744073709551616 := by decide
                                                                                          omega) (by omega) (by decide)
theorem bd40 {s : Int} (h1 : 0 ≤ s) (h2 : s < 2147483647) : Bd 40 s := by
  unfold Bd
  have : (2 : Nat) ^ 40 = 1099511627776 := by decide
  omega
section
variable {P : Program} {w : World} {K : PySem.W.Frag} {mg : Str → Option Value} {base : Heap}
theorem ok_taken (B : Blt mg) {f : Addr} {fd : FuncData} (F : L2.Fun K "_law_taken" "_law_taken" s_L_taken f fd) : FnOk P w K mg base CX0 1 f fd ["_law_row", "_law_many"] (spTaken K) := by
  refine F.ok sc_L_taken (fun vs H Q E h => ?_) (fun cdv A outer s H vs Q E hr h => ?_)
  · obtain ⟨a, l, ns, i, s, c, m, rfl, _⟩ := h
    rfl
  · obtain ⟨a, l, ns, i, s, c, m, rfl, hm, hm2, hS, hA, h0, h1, h2, h3, q⟩ := h
    have hm0 : m ≠ 0 := by omega
    refine ⟨_, pss_cons (ps_if (pt_cmpR op_gt (pe_ix ix_list (pe_var (i := 0) rfl (.inl rfl)) pe_int (fun _ _ => rfl)) pe_int (nomark _))
        (pss_cons (ps_set (i := 2) sc_L_taken.nd rfl (.inl rfl) (pe_op op_modN (pe_callTy call_int1 (by rfl) B.int (by decide +kernel) (pa_cons (pe_ix ix_list (pe_var (i := 0) rfl (.inl rfl)) pe_int (fun _ _ => rfl)) pa_nil)) (pe_var (i := 1) rfl (.inl rfl))))
        (pss_cons (ps_asg (pe_op op_fdivX (pe_ix ix_list (pe_var (i := 0) rfl (.inl rfl)) pe_int (fun _ _ => rfl)) (pe_var (i := 1) rfl (.inl rfl))) (pg_sub (pe_var (i := 0) rfl (.inl rfl)) pe_int set_list))
        (pss_one (ps_ret (pe_var (i := 2) rfl (.inl rfl)))))) pss_nil)
      (pss_cons (ps_asg (pe_op op_add (pe_ix ix_list (pe_var (i := 0) rfl (.inl rfl)) pe_int (fun _ _ => rfl)) pe_int) (pg_sub (pe_var (i := 0) rfl (.inl rfl)) pe_int set_list))
      (pss_cons (ps_if (pt_cmpR op_gt (pe_ix ix_list (pe_var (i := 0) rfl (.inl rfl)) pe_int (fun _ _ => rfl)) (pe_callB call_len_seq (by rfl) B.len boot_len (pa_cons (pe_ix ix_list (pe_var (i := 0) rfl (.inl rfl)) pe_int (fun _ _ => rfl)) pa_nil)) (nomark _))
        (pss_cons (ps_asg (pe_op op_modN (pe_callTy call_int1 (by rfl) B.int (by decide +kernel) (pa_cons (pe_op op_add (pe_op op_mulW (pe_ix ix_list (pe_var (i := 0) rfl (.inl rfl)) pe_int (fun _ _ => rfl)) pe_int) pe_int) pa_nil)) pe_int) (pg_sub (pe_var (i := 0) rfl (.inl rfl)) pe_int set_list))
        (pss_one (ps_ret (pe_op op_modN (pe_callTy call_int1 (by rfl) B.int (by decide +kernel) (pa_cons (pe_op op_fdivX (pe_ix ix_list (pe_var (i := 0) rfl (.inl rfl)) pe_int (fun _ _ => rfl)) pe_int) pa_nil)) (pe_var (i := 1) rfl (.inl rfl)))))) pss_nil)
      (pss_cons (ps_set (i := 3) sc_L_taken.nd rfl (.inl rfl) (pe_ix ix_list (pe_ix ix_list (pe_var (i := 0) rfl (.inl rfl)) pe_int (fun _ _ => rfl)) (pe_op op_sub (pe_ix ix_list (pe_var (i := 0) rfl (.inl rfl)) pe_int (fun _ _ => rfl)) pe_int) (fun _ _ => rfl)))
      (pss_cons (ps_asg (pe_op op_modN (pe_callTy call_int1 (by rfl) B.int (by decide +kernel) (pa_cons (pe_op op_add (pe_op op_add (pe_op op_mulW (pe_ix ix_list (pe_var (i := 0) rfl (.inl rfl)) pe_int (fun _ _ => rfl)) pe_int) (pe_var (i := 3) rfl (.inl rfl))) pe_int) pa_nil)) pe_int) (pg_sub (pe_var (i := 0) rfl (.inl rfl)) pe_int set_list))
      (pss_cons (ps_if (pt_cmpR op_ge (pe_var (i := 3) rfl (.inl rfl)) (pe_op op_pow pe_int pe_int) (nomark _))
        (pss_one (ps_asg (pe_op op_fdivX (pe_var (i := 3) rfl (.inl rfl)) (pe_var (i := 1) rfl (.inl rfl))) (pg_sub (pe_var (i := 0) rfl (.inl rfl)) pe_int set_list))) pss_nil)
      (pss_one (ps_ret (pe_op op_modN (pe_callTy call_int1 (by rfl) B.int (by decide +kernel) (pa_cons (pe_var (i := 3) rfl (.inl rfl)) pa_nil)) (pe_var (i := 1) rfl (.inl rfl)))))))))), ?_⟩
    have at3 : ∀ i s c : Int, atI [V.ref l, .int i, .int s, .int c] 3 = some (.int c) := fun _ _ _ => rfl
    have at2 : ∀ i s c : Int, atI [V.ref l, .int i, .int s, .int c] 2 = some (.int s) := fun _ _ _ => rfl
    have at1 : ∀ i s c : Int, atI [V.ref l, .int i, .int s, .int c] 1 = some (.int i) := fun _ _ _ => rfl
    have at0 : ∀ i s c : Int, atI [V.ref l, .int i, .int s, .int c] 0 = some (.ref l) := fun _ _ _ => rfl
    refine ⟨_, rfl, a, _, _, _, rfl, rfl, .inl (.inl hA), (at3 i s c), c, 0, rfl, rfl, _, rfl, ite2 (fun e => ?_) (fun e => ?_)⟩
    · have hc : 0 < c := of_decide_eq_true e
      refine ⟨_, rfl, a, _, _, _, rfl, rfl, .inl (.inl hA), (at3 i s c), .inl ⟨c, rfl, _, rfl, c, m, rfl, rfl, hm0, ?_⟩⟩
      refine ⟨_, rfl, a, _, _, _, rfl, rfl, .inl (.inl hA), (at3 i s c), _, rfl, c, m, rfl, rfl, divM hm hm2, ?_⟩
      refine ⟨_, rfl, a, _, 3, 3, rfl, rfl, hA, rfl, ?_⟩
      exact ⟨_, rfl, q _ i s _ (fmod_ok hm).1 (fmod_ok hm).2 h0 h1 h2 (fdiv_nn hm h3)⟩
    · refine ⟨_, rfl, a, _, _, _, rfl, rfl, .inl (.inl hA), (at1 i s c), i, 1, rfl, rfl, _, rfl, a, _, 1, 1, rfl, rfl, hA, rfl, ?_⟩
      have hA1 : (upd H a (rowL l (i + 1) s c)) a = some (rowL l (i + 1) s c) := upd_same
      have hS1 : SqL K (upd H a (rowL l (i + 1) s c)) l (ns.map V.int) := sq_row hS hA
      refine ⟨_, rfl, a, _, _, _, rfl, rfl, .inl (.inl hA1), (at1 _ _ _), _, rfl, a, _, _, _, rfl, rfl, .inl (.inl hA1), (at0 _ _ _), l, _, rfl, .inl hS1, _, _, rfl, rfl, _, rfl, ite2 (fun e => ?_) (fun e => ?_)⟩
      · have bs : CMulW s 48271 := mulW (n := 40) (m := 40) (bd40 h1 h2) (by decide) (by decide)
        refine ⟨_, rfl, a, _, _, _, rfl, rfl, .inl (.inl hA1), (at2 _ _ _), s, 48271, rfl, rfl, bs, _, 11, rfl, rfl, .inl ⟨_, rfl, _, 2147483647, rfl, rfl, (by show (2147483647 : Int) ≠ 0; decide), ?_⟩⟩
        refine ⟨_, rfl, a, _, 2, 2, rfl, rfl, hA1, rfl, ?_⟩
        have hA2 : (upd (upd H a (rowL l (i + 1) s c)) a (rowL l (i + 1) ((s * 48271 + 11).fmod 2147483647) c)) a = some (rowL l (i + 1) ((s * 48271 + 11).fmod 2147483647) c) := upd_same
        refine ⟨_, rfl, a, _, _, _, rfl, rfl, .inl (.inl hA2), (at2 _ _ _), _, 7, rfl, rfl, divM (by decide) (by decide), .inl ⟨_, rfl, _, rfl, _, m, rfl, rfl, hm0, ?_⟩⟩
        have := q (((s * 48271 + 11).fmod 2147483647).fdiv 7 |>.fmod m) (i + 1) ((s * 48271 + 11).fmod 2147483647) c (fmod_ok hm).1 (fmod_ok hm).2 (by omega) (fmod_ok (by decide)).1 (fmod_ok (by decide)).2 h3
        rw [← upd_upd H a (rowL l (i + 1) s c)] at this
        exact this
      · have hlt : ¬ ((ns.map V.int).length : Int) < i + 1 := fun z => e (decide_eq_true z)
        have hi : i < ns.length := by rw [List.length_map] at hlt; omega
        obtain ⟨z, hz⟩ : ∃ z, ns[i.toNat]? = some z := ⟨_, List.getElem?_eq_getElem (by omega)⟩
        have hzi : atI (ns.map V.int) (i + 1 - 1) = some (.int z) := by
          unfold atI ixN
          rw [Int.add_sub_cancel, if_pos h0, List.length_map, if_pos hi]
          show (ns.map V.int)[i.toNat]? = _
          rw [List.getElem?_map, hz]
          rfl
        refine ⟨_, rfl, a, _, _, _, rfl, rfl, .inl (.inl hA1), (at0 _ _ _), _, rfl, a, _, _, _, rfl, rfl, .inl (.inl hA1), (at1 _ _ _), _, 1, rfl, rfl, l, _, _, _, rfl, rfl, hS1, hzi, ?_⟩
        have bs : CMulW s 48271 := mulW (n := 40) (m := 40) (bd40 h1 h2) (by decide) (by decide)
        refine ⟨_, rfl, a, _, _, _, rfl, rfl, .inl (.inl hA1), (at2 _ _ _), s, 48271, rfl, rfl, bs, _, rfl, _, z, rfl, rfl, _, 11, rfl, rfl, .inl ⟨_, rfl, _, 2147483647, rfl, rfl, (by show (2147483647 : Int) ≠ 0; decide), ?_⟩⟩
        refine ⟨_, rfl, a, _, 2, 2, rfl, rfl, hA1, rfl, ?_⟩
        have hA2 : (upd (upd H a (rowL l (i + 1) s c)) a (rowL l (i + 1) ((s * 48271 + z + 11).fmod 2147483647) c)) a = some (rowL l (i + 1) ((s * 48271 + z + 11).fmod 2147483647) c) := upd_same
        refine ⟨_, rfl, 10, 18, rfl, rfl, ⟨by decide, by decide, by decide⟩, z, _, rfl, rfl, _, rfl, ite2 (fun e => ?_) (fun e => ?_)⟩
        · have hz0 : 0 ≤ z := by
            have := of_decide_eq_true e
            have e2 : (10 : Int) ^ (18 : Int).toNat = 1000000000000000000 := by decide
            omega
          refine ⟨_, rfl, _, rfl, z, m, rfl, rfl, divM hm hm2, ?_⟩
          refine ⟨_, rfl, a, _, 3, 3, rfl, rfl, hA2, rfl, ?_⟩
          refine ⟨_, rfl, .inl ⟨z, rfl, _, rfl, z, m, rfl, rfl, hm0, ?_⟩⟩
          have := q (z.fmod m) (i + 1) ((s * 48271 + z + 11).fmod 2147483647) (z.fdiv m) (fmod_ok hm).1 (fmod_ok hm).2 (by omega) (fmod_ok (by decide)).1 (fmod_ok (by decide)).2 (fdiv_nn hm hz0)
          rw [← upd_upd H a (rowL l (i + 1) s c), ← upd_upd _ a (rowL l (i + 1) ((s * 48271 + z + 11).fmod 2147483647) c)] at this
          exact this
        · refine ⟨_, rfl, .inl ⟨z, rfl, _, rfl, z, m, rfl, rfl, hm0, ?_⟩⟩
          have := q (z.fmod m) (i + 1) ((s * 48271 + z + 11).fmod 2147483647) c (fmod_ok hm).1 (fmod_ok hm).2 (by omega) (fmod_ok (by decide)).1 (fmod_ok (by decide)).2 h3
          rw [← upd_upd H a (rowL l (i + 1) s c)] at this
          exact this
end
end M
namespace M
open L2 PyProof.Rows PySem.Spec PySem
def fit1 (ps : List P3) (p : P3) (i j : Int) : Bool :=
  (!(decide (lturnV (ptAt ps i) (ptAt ps j) p = 0) || decide (lDiamV (ptAt ps i) (ptAt ps j) p = 0)) && !(decide (lDiamV (ptAt ps i) p (ptAt ps j) = 0) || decide (lDiamV (ptAt ps j) p (ptAt ps i) = 0))) && ((rgV 0 j.toNat).filter fun k => decide (lcircV (ptAt ps i) (ptAt ps j) (ptAt ps k) p = 0)).isEmpty
def fitsV (ps : List P3) (p : P3) : Bool := !decide (p ∈ ps) && (rgV 0 ps.length).all fun i => (rgV 0 i.toNat).all fun j => fit1 ps p i j
theorem fitsV_not {ps : List P3} {p : P3} {i j : Int} (h0 : 0 ≤ j) (h1 : j < i) (h2 : i < ps.length) (h : fit1 ps p i j = false) : fitsV ps p = false := by
  unfold fitsV
  rw [Bool.and_eq_false_iff]
  right
  rw [List.all_eq_false]
  refine ⟨i, mem_rgV.mpr (by omega), ?_⟩
  rw [Bool.not_eq_true, List.all_eq_false]
  exact ⟨j, mem_rgV.mpr (by omega), by rw [h]; decide⟩
def R_fits (ss : List Sl) (s : Sl) : Prop := ∃ ps p, (∀ q ∈ ps, GP q) ∧ GP p ∧ ps.length ≤ 100 ∧ ss = [.p (.list (ps.map ptD)), pS p] ∧ s = bS (fitsV ps p)
section
variable {P : Program} {w : World} {K : PySem.W.Frag} {mg : Str → Option Value} {base : Heap}
theorem fn_L_fits_disks (B : Blt mg) (D : DefAt K mg "_law_fits_disks" s_L_fits_disks ["_law_points", "_law_p"]) (h_L_turn : Fn P w K mg base "_law_turn" (R_p3w lturnV) 2) (h_L_in_diameter : Fn P w K mg base "_law_in_diameter" (R_p3 lDiamV) 2) (h_L_in_circle : Fn P w K mg base "_law_in_circle" (R_side lcircV) 3) : Fn P w K mg base "_law_fits_disks" R_fits 4 := by
  -- def _law_fits_disks
  refine fn_at D sc_L_fits_disks (by rintro _ _ ⟨a, b, _, _, _, rfl, rfl⟩; rfl) ?_
  rintro _ _ ⟨ps, p, hps, hp, hl, rfl, rfl⟩
  have bp := hp.bp
  (refine pxb_seq (pxs_set (n := 2) sc_L_fits_disks.nd rfl (by first | exact Or.inl rfl | exact Or.inr rfl) (.inl rfl) (px_lenL B.len rfl (px_var (n := 0) rfl (by first | exact Or.inl rfl | exact Or.inr (Or.inl rfl) | exact Or.inr (Or.inr rfl)) rfl) (fun _ => rfl)) rfl (fun _ => rfl)) ?_); (try conv => arg 3; simp only [slots, wipeD, List.map, List.length, List.append, List.replicate, List.set_cons_zero, List.set_cons_succ, List.cons_append, List.nil_append, Nat.add_sub_cancel])
  rw [List.length_map]
  refine pxb_cons (nx1 := fun δ' => p ∉ ps ∧ δ' = [some (.p (.list (ps.map ptD))), some (pS p), some (iS ps.length), none, none, none, none, none]) (pxs_if (pxt_cmp (px_inDLE (n := ptL p) (ts := ps.map ptL) (px_var (n := 1) rfl (by first | exact Or.inl rfl | exact Or.inr (Or.inl rfl) | exact Or.inr (Or.inr rfl)) rfl) (px_var (n := 0) rfl (by first | exact Or.inl rfl | exact Or.inr (Or.inl rfl) | exact Or.inr (Or.inr rfl)) rfl) (map_ptL ps)) rfl) (fun h => ?_) fun h => pxb_nil ⟨?_, rfl⟩) ?_
  · refine pxb_one (pxs_ret px_bl ?_)
    have hm := of_decide_eq_true h
    obtain ⟨q, hq, e⟩ := List.mem_map.mp hm
    have e := ptL_inj e
    subst e
    unfold fitsV
    rw [decide_eq_true hq]
    rfl
  · intro hm
    exact of_decide_eq_false h (List.mem_map.mpr ⟨p, hm, rfl⟩)
  rintro _ ⟨hnot, rfl⟩
  have atp : ∀ i : Int, 0 ≤ i → i < ps.length → atI (ps.map ptD) i = some (ptD (ptAt ps i)) ∧ GP (ptAt ps i) := fun i h0 h1 => ⟨at_pts h0 h1, hps _ (ptAt_mem h0 h1)⟩
  refine pxb_cons (nx1 := fun δ' => ((rgV 0 ps.length).all fun i => (rgV 0 i.toNat).all fun j => fit1 ps p i j) = true ∧ ∃ o1 o2 o3 o4, δ' = [some (.p (.list (ps.map ptD))), some (pS p), some (iS ps.length), o1, o2, o3, o4, none]) (pxs_forT (enc := PyData.int) (ts := rgV 0 ps.length) (fun k δ' => (((rgV 0 ps.length).take k).all fun i => (rgV 0 i.toNat).all fun j => fit1 ps p i j) = true ∧ ∃ o1 o2 o3 o4, δ' = [some (.p (.list (ps.map ptD))), some (pS p), some (iS ps.length), o1, o2, o3, o4, none]) (src_range1V B.range rfl (px_var (n := 2) rfl (by first | exact Or.inl rfl | exact Or.inr (Or.inl rfl) | exact Or.inr (Or.inr rfl)) rfl) (by omega) (fun _ => rfl)) ⟨rfl, _, _, _, _, rfl⟩ ?_ ?_ (fun _ _ => rfl)) ?_
  · rintro q i _ hi ⟨hq, o1, o2, o3, o4, rfl⟩
    rw [take_snoc hi, List.all_append, hq, Bool.true_and]
    obtain ⟨hi2, rfl⟩ := rgV_get hi
    rw [Int.zero_add]
    refine ⟨_, _, (pxg_name (n := 3) sc_L_fits_disks.nd rfl (by first | exact Or.inl rfl | exact Or.inr rfl) (.inl rfl)), ?_⟩
    (try conv => arg 3; simp only [slots, wipeD, List.map, List.length, List.append, List.replicate, List.set_cons_zero, List.set_cons_succ, List.cons_append, List.nil_append, Nat.add_sub_cancel])
    obtain ⟨a1, g1⟩ := atp (q : Int) (by omega) (by omega)
    refine pxb_one (pxs_forT (enc := PyData.int) (ts := rgV 0 q) (fun k δ' => (((rgV 0 q).take k).all fun j => fit1 ps p q j) = true ∧ ∃ o2 o3 o4, δ' = [some (.p (.list (ps.map ptD))), some (pS p), some (iS ps.length), some (iS q), o2, o3, o4, none]) (src_range1V B.range rfl (px_var (n := 3) rfl (by first | exact Or.inl rfl | exact Or.inr (Or.inl rfl) | exact Or.inr (Or.inr rfl)) rfl) (by omega) (fun _ => rfl)) ⟨rfl, _, _, _, rfl⟩ ?_ ?_ (fun _ _ => rfl))
    · rintro m j _ hj ⟨hm, o2, o3, o4, rfl⟩
      rw [take_snoc hj, List.all_append, hm, Bool.true_and]
      obtain ⟨hj2, rfl⟩ := rgV_get hj
      rw [Int.zero_add]
      obtain ⟨a2, g2⟩ := atp (m : Int) (by omega) (by omega)
      refine ⟨_, _, (pxg_name (n := 4) sc_L_fits_disks.nd rfl (by first | exact Or.inl rfl | exact Or.inr rfl) (.inl rfl)), ?_⟩
      (try conv => arg 3; simp only [slots, wipeD, List.map, List.length, List.append, List.replicate, List.set_cons_zero, List.set_cons_succ, List.cons_append, List.nil_append, Nat.add_sub_cancel])
      (refine pxb_seq (pxs_asg (px_tupD (pxd_cons (px_ixL (px_var (n := 0) rfl (by first | exact Or.inl rfl | exact Or.inr (Or.inl rfl) | exact Or.inr (Or.inr rfl)) rfl) (px_var (n := 3) rfl (by first | exact Or.inl rfl | exact Or.inr (Or.inl rfl) | exact Or.inr (Or.inr rfl)) rfl) (by first | assumption | rfl) (fun _ _ => rfl)) (pxd_cons (px_ixL (px_var (n := 0) rfl (by first | exact Or.inl rfl | exact Or.inr (Or.inl rfl) | exact Or.inr (Or.inr rfl)) rfl) (px_var (n := 4) rfl (by first | exact Or.inl rfl | exact Or.inr (Or.inl rfl) | exact Or.inr (Or.inr rfl)) rfl) (by first | assumption | rfl) (fun _ _ => rfl)) pxd_nil (fun _ => rfl)) (fun _ => rfl))) (pxg_tup (pxgs_cons (pxg_name (n := 5) sc_L_fits_disks.nd rfl (by first | exact Or.inl rfl | exact Or.inr rfl) (.inl rfl)) (pxgs_cons (pxg_name (n := 6) sc_L_fits_disks.nd rfl (by first | exact Or.inl rfl | exact Or.inr rfl) (.inl rfl)) pxgs_nil (fun _ => rfl)) (fun _ => rfl)) (fun _ => rfl) (fun _ => rfl)) (fun _ => rfl) rfl (fun _ => rfl)) ?_); (try conv => arg 3; simp only [slots, wipeD, List.map, List.length, List.append, List.replicate, List.set_cons_zero, List.set_cons_succ, List.cons_append, List.nil_append, Nat.add_sub_cancel])
      have b1 := g1.bp
      have b2 := g2.bp
      have w1 := g1.w0
      have w2 := g2.w0
      refine pxb_cons (nx1 := fun δ' => (decide (lturnV (ptAt ps q) (ptAt ps m) p = 0) || decide (lDiamV (ptAt ps q) (ptAt ps m) p = 0)) = false ∧ δ' = [some (.p (.list (ps.map ptD))), some (pS p), some (iS ps.length), some (iS q), some (iS m), some (pS (ptAt ps q)), some (pS (ptAt ps m)), none]) (pxs_if (PXW.pt (pxw_or (pxt_cmp (px_eqI (px_call h_L_turn (Nat.le_of_ble_eq_true rfl) rfl (pxa_cons (px_var (n := 5) rfl (by first | exact Or.inl rfl | exact Or.inr (Or.inl rfl) | exact Or.inr (Or.inr rfl)) rfl) (pxa_cons (px_var (n := 6) rfl (by first | exact Or.inl rfl | exact Or.inr (Or.inl rfl) | exact Or.inr (Or.inr rfl)) rfl) (pxa_cons (px_var (n := 1) rfl (by first | exact Or.inl rfl | exact Or.inr (Or.inl rfl) | exact Or.inr (Or.inr rfl)) rfl) pxa_nil (fun _ => rfl)) (fun _ => rfl)) (fun _ => rfl)) (r_p3w (by assumption) (by assumption) (by assumption) (by assumption)) rfl (fun _ => rfl) (fun _ => rfl)) px_int) (nomark _)) (fun _ => (pxw_or1 (pxt_cmp (px_eqI (px_call h_L_in_diameter (Nat.le_of_ble_eq_true rfl) rfl (pxa_cons (px_var (n := 5) rfl (by first | exact Or.inl rfl | exact Or.inr (Or.inl rfl) | exact Or.inr (Or.inr rfl)) rfl) (pxa_cons (px_var (n := 6) rfl (by first | exact Or.inl rfl | exact Or.inr (Or.inl rfl) | exact Or.inr (Or.inr rfl)) rfl) (pxa_cons (px_var (n := 1) rfl (by first | exact Or.inl rfl | exact Or.inr (Or.inl rfl) | exact Or.inr (Or.inr rfl)) rfl) pxa_nil (fun _ => rfl)) (fun _ => rfl)) (fun _ => rfl)) (r_p3 (by assumption) (by assumption) (by assumption)) rfl (fun _ => rfl) (fun _ => rfl)) px_int) (nomark _)))))) (fun h => pxb_one (pxs_ret px_bl ?_)) fun h => pxb_nil ⟨h, rfl⟩) ?_
      · rw [fitsV_not (i := q) (j := m) (by omega) (by omega) (by omega)]
        unfold fit1
        rw [h]
        rfl
      rintro _ ⟨t1, rfl⟩
      refine pxb_cons (nx1 := fun δ' => (decide (lDiamV (ptAt ps q) p (ptAt ps m) = 0) || decide (lDiamV (ptAt ps m) p (ptAt ps q) = 0)) = false ∧ δ' = [some (.p (.list (ps.map ptD))), some (pS p), some (iS ps.length), some (iS q), some (iS m), some (pS (ptAt ps q)), some (pS (ptAt ps m)), none]) (pxs_if (PXW.pt (pxw_or (pxt_cmp (px_eqI (px_call h_L_in_diameter (Nat.le_of_ble_eq_true rfl) rfl (pxa_cons (px_var (n := 5) rfl (by first | exact Or.inl rfl | exact Or.inr (Or.inl rfl) | exact Or.inr (Or.inr rfl)) rfl) (pxa_cons (px_var (n := 1) rfl (by first | exact Or.inl rfl | exact Or.inr (Or.inl rfl) | exact Or.inr (Or.inr rfl)) rfl) (pxa_cons (px_var (n := 6) rfl (by first | exact Or.inl rfl | exact Or.inr (Or.inl rfl) | exact Or.inr (Or.inr rfl)) rfl) pxa_nil (fun _ => rfl)) (fun _ => rfl)) (fun _ => rfl)) (r_p3 (by assumption) (by assumption) (by assumption)) rfl (fun _ => rfl) (fun _ => rfl)) px_int) (nomark _)) (fun _ => (pxw_or1 (pxt_cmp (px_eqI (px_call h_L_in_diameter (Nat.le_of_ble_eq_true rfl) rfl (pxa_cons (px_var (n := 6) rfl (by first | exact Or.inl rfl | exact Or.inr (Or.inl rfl) | exact Or.inr (Or.inr rfl)) rfl) (pxa_cons (px_var (n := 1) rfl (by first | exact Or.inl rfl | exact Or.inr (Or.inl rfl) | exact Or.inr (Or.inr rfl)) rfl) (pxa_cons (px_var (n := 5) rfl (by first | exact Or.inl rfl | exact Or.inr (Or.inl rfl) | exact Or.inr (Or.inr rfl)) rfl) pxa_nil (fun _ => rfl)) (fun _ => rfl)) (fun _ => rfl)) (r_p3 (by assumption) (by assumption) (by assumption)) rfl (fun _ => rfl) (fun _ => rfl)) px_int) (nomark _)))))) (fun h => pxb_one (pxs_ret px_bl ?_)) fun h => pxb_nil ⟨h, rfl⟩) ?_
      · rw [fitsV_not (i := q) (j := m) (by omega) (by omega) (by omega)]
        unfold fit1
        rw [h, t1]
        rfl
      rintro _ ⟨t2, rfl⟩
      have hsh := shaped_listI ((rgV 0 m).filter fun k => decide (lcircV (ptAt ps q) (ptAt ps m) (ptAt ps k) p = 0))
      refine pxb_one (pxs_if (pxt_cmp (px_neNil (px_lcE (enc := PyData.int) (ts := rgV 0 m) (cond := fun k => decide (lcircV (ptAt ps q) (ptAt ps m) (ptAt ps k) p = 0)) (y := PyData.int) (own := [("_law_k", 7)]) sc_L_fits_disks.nd (src_range1V B.range rfl (px_var (n := 4) rfl (by first | exact Or.inl rfl | exact Or.inr (Or.inl rfl) | exact Or.inr (Or.inr rfl)) rfl) (by omega) (fun _ => rfl)) rfl (fun _ _ => rfl) (fun k hk => ?_) (by rw [rgV_length]; omega) (show lcOut _ _ _ = List.map PyData.int _ from rfl)) hsh) (nomark _)) (fun h => pxb_one (pxs_ret px_bl ?_)) fun h => pxb_nil ⟨?_, _, _, _, rfl⟩)
      · have hk := mem_rgV.mp hk
        obtain ⟨a3, g3⟩ := atp k (by omega) (by omega)
        exact ⟨_, _, ⟨(pxg_name (n := 7) sc_L_fits_disks.nd rfl (by first | exact Or.inl rfl | exact Or.inr rfl) (by first | exact .inl rfl | exact .inr rfl)), (by decide), (pxi_one (pxt_cmp (px_eqI (px_call h_L_in_circle (Nat.le_of_ble_eq_true rfl) rfl (pxa_cons (px_var (n := 5) rfl (by first | exact Or.inl rfl | exact Or.inr (Or.inl rfl) | exact Or.inr (Or.inr rfl)) rfl) (pxa_cons (px_var (n := 6) rfl (by first | exact Or.inl rfl | exact Or.inr (Or.inl rfl) | exact Or.inr (Or.inr rfl)) rfl) (pxa_cons (px_ixL (px_var (n := 0) rfl (by first | exact Or.inl rfl | exact Or.inr (Or.inl rfl) | exact Or.inr (Or.inr rfl)) rfl) (px_var (n := 7) rfl (by first | exact Or.inl rfl | exact Or.inr (Or.inl rfl) | exact Or.inr (Or.inr rfl)) rfl) (by first | assumption | rfl) (fun _ _ => rfl)) (pxa_cons (px_var (n := 1) rfl (by first | exact Or.inl rfl | exact Or.inr (Or.inl rfl) | exact Or.inr (Or.inr rfl)) rfl) pxa_nil (fun _ => rfl)) (fun _ => rfl)) (fun _ => rfl)) (fun _ => rfl)) (r_side (by assumption) (by assumption) (by assumption) (by assumption)) rfl (fun _ => rfl) (fun _ => rfl)) px_int) (nomark _))), fun hc => (px_var (n := 7) rfl (by first | exact Or.inl rfl | exact Or.inr (Or.inl rfl) | exact Or.inr (Or.inr rfl)) rfl)⟩⟩
      · rw [fitsV_not (i := q) (j := m) (by omega) (by omega) (by omega)]
        unfold fit1
        rw [isEmpty_map, Bool.not_eq_true'] at h
        rw [t1, t2, Int.toNat_natCast, h]
        rfl
      · rw [isEmpty_map, Bool.not_eq_false'] at h
        rw [List.all_cons, List.all_nil, Bool.and_true]
        unfold fit1
        rw [t1, t2, Int.toNat_natCast, h]
        rfl
    · rintro _ ⟨hm, o2, o3, o4, rfl⟩
      rw [List.take_of_length_le (Nat.le_refl _)] at hm
      refine ⟨?_, _, _, _, _, rfl⟩
      rw [List.all_cons, List.all_nil, Bool.and_true, Int.toNat_natCast, hm]
  · rintro _ ⟨hq, o1, o2, o3, o4, rfl⟩
    rw [List.take_of_length_le (Nat.le_refl _)] at hq
    exact ⟨hq, _, _, _, _, rfl⟩
  · rintro _ ⟨hq, o1, o2, o3, o4, rfl⟩
    refine pxb_one (pxs_ret px_bl ?_)
    unfold fitsV
    rw [hq, decide_eq_false hnot]
    rfl
end
/-! ### the row's own defs -/
def PreT (ss : List Sl) : Prop := ∃ many : Int, ss = [iS many] ∧ 0 < many ∧ many < 1000000
def RT (ss : List Sl) (s : Sl) : Prop := ∃ many t : Int, ss = [iS many] ∧ 0 ≤ t ∧ t < many ∧ s = iS t
section
variable {P : Program} {w : World} {K : PySem.W.Frag} {mg : Str → Option Value} {base : Heap}
theorem fnm_taken (B : Blt mg) (D : DefAt K mg "_law_taken" s_L_taken ["_law_row", "_law_many"]) : Fnm P w K mg base "_law_taken" PreT RT 1 := by
  obtain ⟨f, fd, F, hm, hb⟩ := D.ex
  refine ⟨f, fd, _, (ok_taken B F).imp fun vs H Q E h => ?_, hm, F.kp, hb⟩
  obtain ⟨a, G, ws, ss, rfl, ex, row, r, ⟨many, rfl, m0, m1⟩, q⟩ := h
  obtain ⟨l, ns, i, s, c, hs, hA, h0, h1, h2, h3⟩ := row.ex
  cases r with
  | cons r1 r2 =>
    cases r2
    rw [rs_int r1]
    refine ⟨a, l, ns, i, s, c, many, rfl, m0, m1, sq_ex ex hs, hA, h0, h1, h2, h3, fun t i' s' c' t0 t1 i0 s0 s1 c0 => ?_⟩
    refine q _ (iS t) G _ ⟨Ex.refl _, fun b o hb e => by rw [upd_ne hb]; exact e, fun b o e => ?_, fun b _ g => g⟩ ⟨row.g, l, ns, i', s', c', hs, upd_same, i0, s0, s1, c0⟩ ⟨many, t, rfl, t0, t1, rfl⟩ (.int _)
    have hb : b ≠ a := fun z => by rw [z, row.g] at e; cases e
    rw [upd_ne hb]
    exact ex b o e
end
section
variable {c : CF} {a : Addr} {δ δ1 : Dl} {e e1 e2 t : Expr} {es : List Expr} {pos p2 p3 : Pos} {s : Sl} {S S1 S2 : Sl → Prop} {SS : List Sl → Prop} {nx nx1 : Dl → Prop} {rt : Sl → Prop} {st : Stmt} {sts : List Stmt} {n : Nat} {i j : Int} {ss : List Sl}
theorem pxa_m (h : PXA c es δ ss) : PXAm c a es δ (fun z => z = ss) := fun X f => PA.weak (h X f) fun σ H Q ⟨W, G, e, q⟩ => ⟨W, G, e.e, fun vs G1 H1 st r => q vs ss G1 H1 (st.toM a) (e.r.step st) rfl r⟩
theorem pxm_callP {x : Str} {Pre : List Sl → Prop} {R : List Sl → Sl → Prop} {k : Nat} {rest : List Sl} (F : Fnm c.P c.w c.K c.mg c.base x Pre R k) (hk : k ≤ c.k) (hg : GlN c x) (ha : PXA c (e :: es) δ (.x (.ref a) :: rest)) (hP : Pre rest) (no : rest.all (fun t => !t.own) = true) (post : ∀ s, R rest s → S s ∧ s.own = false)
    (he : ∀ env, starEach (e :: es) env = (false, eval e env) :: starEach es env) (hpl : ∀ env, (backTo pos (starEach es env)).any (·.1) = false) (hdb : (x == ("__debug__" : Str)) = false := by decide) : PXm c a (.Call (.Name x p2) (e :: es) [] pos) δ S :=
  pxm_call F hk hg (pxa_m ha) (fun ss h => ⟨rest, h, hP, noown_all no, post⟩) he hpl hdb
/-- taken(row, many) -/
theorem pxm_taken {k : Nat} (F : Fnm c.P c.w c.K c.mg c.base "_law_taken" PreT RT k) (hk : k ≤ c.k) (hg : GlN c "_law_taken") (ha : PXA c [e, e1] δ [.x (.ref a), iS i]) (h0 : 0 < i) (h1 : i < 1000000)
    (he : ∀ env, starEach [e, e1] env = (false, eval e env) :: starEach [e1] env) (hpl : ∀ env, (backTo pos (starEach [e1] env)).any (·.1) = false) : PXm c a (.Call (.Name "_law_taken" p2) [e, e1] [] pos) δ (fun s => ∃ t, (0 ≤ t ∧ t < i) ∧ s = iS t) :=
  pxm_callP F hk hg ha ⟨i, rfl, h0, h1⟩ rfl (fun s ⟨many, t, e, t0, t1, z⟩ => by
    have e' : i = many := by
      have := (List.cons.inj e).1
      injection this with this
      injection this
    subst e'
    exact ⟨⟨t, ⟨t0, t1⟩, z⟩, by rw [z]; rfl⟩) he hpl
theorem pxbm_freeze {ds : List PyData} (hn : δ[n]? = some (some (.o ds))) (h : PXBm c a sts (δ.set n (some (.p (.list ds)))) nx rt) : PXBm c a sts δ nx rt := fun X f => PSs.weak (h X f) fun D σ H ⟨W, G, e, q, r⟩ => by
  obtain ⟨G', x', e'⟩ := e.e.freeze hn
  have hm := e.e.w.m a ((e.m a).mpr rfl)
  refine ⟨W, G', ⟨e', e.m, e'.w.nw a hm.1 hm.2, ?_⟩, fun δ' G2 H2 σ2 e2 x2 n2 => q δ' G2 H2 σ2 e2 (x'.trans x2) n2, r⟩
  obtain ⟨l, ns, i, s, c, hs, z⟩ := e.r.ex
  exact ⟨l, ns, i, s, c, sq_ex x' hs, z⟩
end
end M
namespace M
open L2 PyProof.Rows PySem.Spec PySem
structure G1 (p : P3) : Prop where
  x : Bd 20 p.1
  y : Bd 20 p.2.1
  w : p.2.2 = 1
theorem G1.gp {p : P3} (h : G1 p) : GP p := ⟨h.x, h.y, .inl h.w⟩
def third (p : P3) : P3 := lowestV p.1 p.2.1 3
def FitsAll (ps : List P3) : Prop := ∀ (k : Nat) (p : P3), ps[k]? = some p → fitsV (ps.take k) p = true ∧ G1 p
def Made (ps : List P3) : Prop := ∃ qs, FitsAll qs ∧ 1 ≤ qs.length ∧ qs.length ≤ 9 ∧ (ps = qs ∨ ps = qs.map third)
theorem FitsAll.nil : FitsAll [] := fun k p h => by simp at h
theorem FitsAll.snoc {ps : List P3} {p : P3} (h : FitsAll ps) (hp : fitsV ps p = true) (g : G1 p) : FitsAll (ps ++ [p]) := by
  intro k q hk
  by_cases z : k < ps.length
  · rw [List.getElem?_append_left z] at hk
    rw [List.take_append_of_le_length (by omega)]
    exact h k q hk
  · have hl := lt_of_get hk
    rw [List.length_append, List.length_singleton] at hl
    have hkl : k = ps.length := by omega
    subst hkl
    rw [List.getElem?_append_right (Nat.le_refl _), Nat.sub_self] at hk
    have hk := Option.some.inj hk
    subst hk
    rw [List.take_left]
    exact ⟨hp, g⟩
theorem FitsAll.g {ps : List P3} (h : FitsAll ps) : ∀ p ∈ ps, G1 p := fun p hp => by
  obtain ⟨k, hk, rfl⟩ := List.getElem_of_mem hp
  exact (h k _ (List.getElem?_eq_getElem hk)).2
structure TbV (t : List (List Int × Rt)) : Prop where
  ok : TbOk t
  rt : ∀ e ∈ t, RtOk e.2
  br : ∀ e ∈ t, BR 1000 e.2
  pos : t ≠ []
def PreP (ss : List Sl) : Prop := ∃ ds : List PyData, ss = [.p (.list ds)] ∧ 0 < ds.length ∧ ds.length < 1000000
def RP (ss : List Sl) (s : Sl) : Prop := ∃ (ds : List PyData) (d : PyData), ss = [.p (.list ds)] ∧ d ∈ ds ∧ s = .p d
def PreS (ss : List Sl) : Prop := ∃ most : Int, ss = [iS most] ∧ 0 ≤ most ∧ most ≤ 100
def RSg (ss : List Sl) (s : Sl) : Prop := ∃ most v : Int, ss = [iS most] ∧ (-most ≤ v ∧ v ≤ most) ∧ s = iS v
def RGr (ss : List Sl) (s : Sl) : Prop := ∃ most x y : Int, ss = [iS most] ∧ (-most ≤ x ∧ x ≤ most) ∧ (-most ≤ y ∧ y ≤ most) ∧ s = pS (x, y, 1)
def PreD (ss : List Sl) : Prop := ∃ most : Int, ss = [iS 1, iS most] ∧ (most = 7 ∨ most = 9)
def RD (ss : List Sl) (s : Sl) : Prop := ∃ ps, Made ps ∧ s = psS ps
def PreR (ss : List Sl) : Prop := ∃ t, TbV t ∧ ss = [.t (tbD t)]
def RR (ss : List Sl) (s : Sl) : Prop := ∃ r, RtOk r ∧ BR 3000 r ∧ s = rS r
theorem src_range1I {c : CF} {δ : Dl} {tg a : Expr} {p2 pos : Pos} {i : Int} (hm : c.mg "range" = none) (hg : GlN c "range") (h : PX c a δ (.p (.int i))) (h0 : 0 ≤ i) (hn : i ≤ 100000) (hs : ∀ env, starEach [a] env = [(false, eval a env)]) : Src c tg (.Call (.Name "range" p2) [a] [] pos) δ ((rgV 0 i.toNat).map PyData.int) := by
  have e : i = (i.toNat : Nat) := by omega
  rw [e] at h
  exact src_range1V hm hg h (by omega) hs
theorem atI_some {ds : List PyData} {i : Int} (h0 : 0 ≤ i) (h1 : i < ds.length) : ∃ d, atI ds i = some d ∧ d ∈ ds := by
  have h : i.toNat < ds.length := by omega
  refine ⟨ds[i.toNat], ?_, List.getElem_mem _⟩
  unfold atI ixN
  rw [if_pos h0, if_pos h1]
  simp only [Option.bind_some]
  exact List.getElem?_eq_getElem h
section
variable {P : Program} {w : World} {K : PySem.W.Frag} {mg : Str → Option Value} {base : Heap}
theorem fnm_pick (B : Blt mg) (D : DefAt K mg "_law_pick" s_L_pick ["_law_row", "_law_things"]) (h_taken : Fnm P w K mg base "_law_taken" PreT RT 1) : Fnm P w K mg base "_law_pick" PreP RP 2 := by
  -- def _law_pick
  refine fnm_at D sc_L_pick (by rintro _ ⟨ds, rfl, _⟩; rfl) (by rintro _ ⟨ds, rfl, _⟩; simp [Sl.own]) ?_
  rintro a _ ⟨ds, rfl, h0, h1⟩
  refine pxbm_one (pxsm_ret (S := fun s => ∃ d, d ∈ ds ∧ s = .p d) (pxm_ix (px_var (n := 1) rfl (by first | exact Or.inl rfl | exact Or.inr (Or.inl rfl) | exact Or.inr (Or.inr rfl)) rfl) (pxm_taken h_taken (Nat.le_of_ble_eq_true rfl) rfl (pxa_cons (px_var (n := 0) rfl (by first | exact Or.inl rfl | exact Or.inr (Or.inl rfl) | exact Or.inr (Or.inr rfl)) rfl) (pxa_cons (px_lenL B.len rfl (px_var (n := 1) rfl (by first | exact Or.inl rfl | exact Or.inr (Or.inl rfl) | exact Or.inr (Or.inr rfl)) rfl) (fun _ => rfl)) pxa_nil (fun _ => rfl)) (fun _ => rfl)) (by omega) (by omega) (fun _ => rfl) (fun _ => rfl)) (fun i hi => ?_) (fun _ _ => rfl)) (fun s hs => ?_))
  · obtain ⟨d, hd, hm⟩ := atI_some hi.1 hi.2
    exact ⟨d, hd, d, hm, rfl⟩
  · obtain ⟨d, hm, rfl⟩ := hs
    exact ⟨ds, d, rfl, hm, rfl⟩
theorem fnm_signed (B : Blt mg) (D : DefAt K mg "_law_signed" s_L_signed ["_law_row", "_law_most"]) (h_taken : Fnm P w K mg base "_law_taken" PreT RT 1) : Fnm P w K mg base "_law_signed" PreS RSg 2 := by
  -- def _law_signed
  refine fnm_at D sc_L_signed (by rintro _ ⟨m, rfl, _⟩; rfl) (by rintro _ ⟨m, rfl, _⟩; simp [Sl.own]) ?_
  rintro a _ ⟨m, rfl, h0, h1⟩
  have bm : Bd 20 m := by
    unfold Bd
    have e : (2 : Nat) ^ 20 = 1048576 := by decide
    omega
  have b2 : Bd 20 (2 : Int) := by decide
  refine pxbm_one (pxsm_ret (pxm_sub (pxm_taken h_taken (Nat.le_of_ble_eq_true rfl) rfl (pxa_cons (px_var (n := 0) rfl (by first | exact Or.inl rfl | exact Or.inr (Or.inl rfl) | exact Or.inr (Or.inr rfl)) rfl) (pxa_cons (px_add (px_mul px_int (px_var (n := 1) rfl (by first | exact Or.inl rfl | exact Or.inr (Or.inl rfl) | exact Or.inr (Or.inr rfl)) rfl) (mulW (by repeat first | assumption | exact (by decide : Bd 64 _) | apply bd_mul | apply bd_add | apply bd_sub | apply bd_neg) (by repeat first | assumption | exact (by decide : Bd 64 _) | apply bd_mul | apply bd_add | apply bd_sub | apply bd_neg) (by decide))) px_int) pxa_nil (fun _ => rfl)) (fun _ => rfl)) (by omega) (by omega) (fun _ => rfl) (fun _ => rfl)) (px_var (n := 1) rfl (by first | exact Or.inl rfl | exact Or.inr (Or.inl rfl) | exact Or.inr (Or.inr rfl)) rfl)) (fun s hs => ?_))
  obtain ⟨i, hi, rfl⟩ := hs
  exact ⟨m, i - m, rfl, by omega, rfl⟩
theorem fnm_grid (B : Blt mg) (D : DefAt K mg "_law_grid" s_L_grid ["_law_row", "_law_size"]) (h_signed : Fnm P w K mg base "_law_signed" PreS RSg 2) : Fnm P w K mg base "_law_grid" PreS RGr 3 := by
  -- def _law_grid
  refine fnm_at D sc_L_grid (by rintro _ ⟨m, rfl, _⟩; rfl) (by rintro _ ⟨m, rfl, _⟩; simp [Sl.own]) ?_
  rintro a _ ⟨m, rfl, h0, h1⟩
  have post : ∀ s, RSg [iS m] s → (∃ v, (-m ≤ v ∧ v ≤ m) ∧ s = iS v) ∧ s.own = false := by
    rintro s ⟨m', v, e, hv, rfl⟩
    have e' : m = m' := by
      have := (List.cons.inj e).1
      injection this with this
      injection this
    subst e'
    exact ⟨⟨v, hv, rfl⟩, rfl⟩
  refine pxbm_one (pxsm_ret (S := fun s => ∃ x y : Int, (-m ≤ x ∧ x ≤ m) ∧ (-m ≤ y ∧ y ≤ m) ∧ s = pS (x, y, 1)) (pxm_tup (pxam_cons (pxm_callP h_signed (Nat.le_of_ble_eq_true rfl) rfl (pxa_cons (px_var (n := 0) rfl (by first | exact Or.inl rfl | exact Or.inr (Or.inl rfl) | exact Or.inr (Or.inr rfl)) rfl) (pxa_cons (px_var (n := 1) rfl (by first | exact Or.inl rfl | exact Or.inr (Or.inl rfl) | exact Or.inr (Or.inr rfl)) rfl) pxa_nil (fun _ => rfl)) (fun _ => rfl)) ⟨m, rfl, h0, h1⟩ rfl post (fun _ => rfl) (fun _ => rfl)) (pxam_cons (pxm_callP h_signed (Nat.le_of_ble_eq_true rfl) rfl (pxa_cons (px_var (n := 0) rfl (by first | exact Or.inl rfl | exact Or.inr (Or.inl rfl) | exact Or.inr (Or.inr rfl)) rfl) (pxa_cons (px_var (n := 1) rfl (by first | exact Or.inl rfl | exact Or.inr (Or.inl rfl) | exact Or.inr (Or.inr rfl)) rfl) pxa_nil (fun _ => rfl)) (fun _ => rfl)) ⟨m, rfl, h0, h1⟩ rfl post (fun _ => rfl) (fun _ => rfl)) (pxam_cons (px_m (S := fun s => s = iS 1) px_int rfl) pxam_nil (fun _ => rfl)) (fun _ => rfl)) (fun _ => rfl)) (fun ss hss => ?_)) (fun s hs => ?_))
  · obtain ⟨_, _, rfl, ⟨x, hx, rfl⟩, _, _, rfl, ⟨y, hy, rfl⟩, _, _, rfl, rfl, rfl⟩ := hss
    exact ⟨[.int x, .int y, .int 1], rfl, by simp, x, y, hx, hy, rfl⟩
  · obtain ⟨x, y, hx, hy, rfl⟩ := hs
    exact ⟨m, x, y, rfl, hx, hy, rfl⟩
theorem curve_bd : ∀ t : Nat, t < 67 → Bd 20 (17 * (t : Int) - 3 * t * t) ∧ Bd 20 ((t : Int) * t * t - 90 * t) := by decide
theorem fnm_disks (B : Blt mg) (D : DefAt K mg "_law_disks" s_L_disks ["_law_row", "_law_least", "_law_most"]) (h_taken : Fnm P w K mg base "_law_taken" PreT RT 1) (h_pick : Fnm P w K mg base "_law_pick" PreP RP 2) (h_grid : Fnm P w K mg base "_law_grid" PreS RGr 3) (h_L_fits_disks : Fn P w K mg base "_law_fits_disks" R_fits 4) (h_L_lowest : Fn P w K mg base "_law_lowest" R_lowest 2) : Fnm P w K mg base "_law_disks" PreD RD 5 := by
  -- def _law_disks
  refine fnm_at D sc_L_disks (by rintro _ ⟨m, rfl, _⟩; rfl) (by rintro _ ⟨m, rfl, _⟩; simp [Sl.own]) ?_
  rintro a _ ⟨most, rfl, hmost⟩
  refine pxbm_cons (pxsm_par3L (S1 := fun s => ∃ i, (0 ≤ i ∧ i < most - 1 + 1) ∧ s = .p (.int (1 + i))) (S2 := fun s => ∃ z : Int, (0 ≤ z ∧ z ≤ 100) ∧ s = iS z) (n1 := 3) (n2 := 4) (n3 := 5) sc_L_disks.nd rfl rfl rfl (by decide) (by decide) (by decide) rfl rfl rfl
    (pxm_add (px_var (n := 1) rfl (by first | exact Or.inl rfl | exact Or.inr (Or.inl rfl) | exact Or.inr (Or.inr rfl)) rfl) (pxm_taken h_taken (Nat.le_of_ble_eq_true rfl) rfl (pxa_cons (px_var (n := 0) rfl (by first | exact Or.inl rfl | exact Or.inr (Or.inl rfl) | exact Or.inr (Or.inr rfl)) rfl) (pxa_cons (px_add (px_sub (px_var (n := 2) rfl (by first | exact Or.inl rfl | exact Or.inr (Or.inl rfl) | exact Or.inr (Or.inr rfl)) rfl) (px_var (n := 1) rfl (by first | exact Or.inl rfl | exact Or.inr (Or.inl rfl) | exact Or.inr (Or.inr rfl)) rfl)) px_int) pxa_nil (fun _ => rfl)) (fun _ => rfl)) (by omega) (by omega) (fun _ => rfl) (fun _ => rfl)))
    (pxm_callP h_pick (Nat.le_of_ble_eq_true rfl) rfl (pxa_cons (px_var (n := 0) rfl (by first | exact Or.inl rfl | exact Or.inr (Or.inl rfl) | exact Or.inr (Or.inr rfl)) rfl) (pxa_cons (px_lstI (pxi1 px_int (pxi1 px_int (pxi1 px_int pxi0 (fun _ => rfl)) (fun _ => rfl)) (fun _ => rfl))) pxa_nil (fun _ => rfl)) (fun _ => rfl)) ⟨_, rfl, by decide, by decide⟩ rfl (fun s hs => ?_) (fun _ => rfl) (fun _ => rfl))
    (fun s ⟨_, _, hs⟩ => by rw [hs]; rfl) (fun s ⟨_, _, hs⟩ => by rw [hs]; rfl) (fun _ => rfl) (fun _ => rfl) (fun _ => rfl) rfl (fun _ => rfl)) ?_
  · obtain ⟨ds, d, e, hd, rfl⟩ := hs
    have e' : ds = [.int 6, .int 9, .int 15] := by
      have := (List.cons.inj e).1
      injection this with this
      injection this with this
      exact this.symm
    subst e'
    simp only [List.mem_cons, List.not_mem_nil, or_false] at hd
    rcases hd with rfl | rfl | rfl
    · exact ⟨⟨6, by decide, rfl⟩, rfl⟩
    · exact ⟨⟨9, by decide, rfl⟩, rfl⟩
    · exact ⟨⟨15, by decide, rfl⟩, rfl⟩
  rintro _ ⟨_, _, ⟨i, hi, rfl⟩, ⟨sz, hsz, rfl⟩, rfl⟩
  (try conv => arg 4; simp only [slots, wipeD, List.map, List.length, List.append, List.replicate, List.set_cons_zero, List.set_cons_succ, List.cons_append, List.nil_append, Nat.add_sub_cancel])
  
  obtain ⟨m, hm⟩ : ∃ m, 1 + i = m := ⟨_, rfl⟩
  rw [hm]
  have m0 : 1 ≤ m ∧ m ≤ 9 := by omega
  have bm : Bd 20 m := by
    unfold Bd
    have e : (2 : Nat) ^ 20 = 1048576 := by decide
    omega
  have b3 : Bd 20 (3 : Int) := by decide
  refine pxbm_cons (nx1 := fun δ' => ∃ qs o6 o7, FitsAll qs ∧ qs.length ≤ m ∧ qs ≠ [] ∧ δ' = [some (.x (.ref a)), some (iS 1), some (iS most), some (.o (qs.map ptD)), some (iS m), some (iS sz), o6, o7]) (pxsm_forT (enc := PyData.int) (ts := rgV 0 (3 * m + 40).toNat) (fun k δ' => ∃ qs o6 o7, FitsAll qs ∧ qs.length ≤ m ∧ (1 ≤ k → qs ≠ []) ∧ δ' = [some (.x (.ref a)), some (iS 1), some (iS most), some (.o (qs.map ptD)), some (iS m), some (iS sz), o6, o7]) (src_range1I B.range rfl (px_add (px_mul px_int (px_var (n := 4) rfl (by first | exact Or.inl rfl | exact Or.inr (Or.inl rfl) | exact Or.inr (Or.inr rfl)) rfl) (mulW (by repeat first | assumption | exact (by decide : Bd 64 _) | apply bd_mul | apply bd_add | apply bd_sub | apply bd_neg) (by repeat first | assumption | exact (by decide : Bd 64 _) | apply bd_mul | apply bd_add | apply bd_sub | apply bd_neg) (by decide))) px_int) (by omega) (by omega) (fun _ => rfl)) ⟨[], _, _, FitsAll.nil, by simp; omega, fun h => by omega, rfl⟩ ?_ ?_ (fun _ _ => rfl)) ?_
  · rintro k t _ ht ⟨qs, o6, o7, hf, hl, hk, rfl⟩
    obtain ⟨ht1, rfl⟩ := rgV_get ht
    rw [Int.zero_add]
    have ht67 : k < 67 := by omega
    obtain ⟨c1, c2⟩ := curve_bd k ht67
    refine ⟨_, _, (pxg_name (n := 6) sc_L_disks.nd rfl (by first | exact Or.inl rfl | exact Or.inr rfl) (.inl rfl)), ?_⟩
    (try conv => arg 4; simp only [slots, wipeD, List.map, List.length, List.append, List.replicate, List.set_cons_zero, List.set_cons_succ, List.cons_append, List.nil_append, Nat.add_sub_cancel])
    have bt : Bd 20 (k : Int) := by
      unfold Bd
      have e : (2 : Nat) ^ 20 = 1048576 := by decide
      omega
    have b17 : Bd 20 (17 : Int) := by decide
    have b90 : Bd 20 (90 : Int) := by decide
    refine pxbm_cons (pxsm_set (n := 7) (S := fun s => ∃ p, G1 p ∧ s = pS p) sc_L_disks.nd rfl (by first | exact Or.inl rfl | exact Or.inr rfl) (.inl rfl) (pxm_if (pxt_cmp (px_lt (px_var (n := 6) rfl (by first | exact Or.inl rfl | exact Or.inr (Or.inl rfl) | exact Or.inr (Or.inr rfl)) rfl) (px_mul px_int (px_var (n := 4) rfl (by first | exact Or.inl rfl | exact Or.inr (Or.inl rfl) | exact Or.inr (Or.inr rfl)) rfl) (mulW (by repeat first | assumption | exact (by decide : Bd 64 _) | apply bd_mul | apply bd_add | apply bd_sub | apply bd_neg) (by repeat first | assumption | exact (by decide : Bd 64 _) | apply bd_mul | apply bd_add | apply bd_sub | apply bd_neg) (by decide)))) (nomark _)) (fun _ => pxm_callP h_grid (Nat.le_of_ble_eq_true rfl) rfl (pxa_cons (px_var (n := 0) rfl (by first | exact Or.inl rfl | exact Or.inr (Or.inl rfl) | exact Or.inr (Or.inr rfl)) rfl) (pxa_cons (px_var (n := 5) rfl (by first | exact Or.inl rfl | exact Or.inr (Or.inl rfl) | exact Or.inr (Or.inr rfl)) rfl) pxa_nil (fun _ => rfl)) (fun _ => rfl)) ⟨sz, rfl, hsz.1, hsz.2⟩ rfl (fun s hs => ?_) (fun _ => rfl) (fun _ => rfl)) (fun _ => px_m (px_tupI (pxi1 (px_sub (px_mul px_int (px_var (n := 6) rfl (by first | exact Or.inl rfl | exact Or.inr (Or.inl rfl) | exact Or.inr (Or.inr rfl)) rfl) (mulW (by repeat first | assumption | exact (by decide : Bd 64 _) | apply bd_mul | apply bd_add | apply bd_sub | apply bd_neg) (by repeat first | assumption | exact (by decide : Bd 64 _) | apply bd_mul | apply bd_add | apply bd_sub | apply bd_neg) (by decide))) (px_mul (px_mul px_int (px_var (n := 6) rfl (by first | exact Or.inl rfl | exact Or.inr (Or.inl rfl) | exact Or.inr (Or.inr rfl)) rfl) (mulW (by repeat first | assumption | exact (by decide : Bd 64 _) | apply bd_mul | apply bd_add | apply bd_sub | apply bd_neg) (by repeat first | assumption | exact (by decide : Bd 64 _) | apply bd_mul | apply bd_add | apply bd_sub | apply bd_neg) (by decide))) (px_var (n := 6) rfl (by first | exact Or.inl rfl | exact Or.inr (Or.inl rfl) | exact Or.inr (Or.inr rfl)) rfl) (mulW (by repeat first | assumption | exact (by decide : Bd 64 _) | apply bd_mul | apply bd_add | apply bd_sub | apply bd_neg) (by repeat first | assumption | exact (by decide : Bd 64 _) | apply bd_mul | apply bd_add | apply bd_sub | apply bd_neg) (by decide)))) (pxi1 (px_sub (px_mul (px_mul (px_var (n := 6) rfl (by first | exact Or.inl rfl | exact Or.inr (Or.inl rfl) | exact Or.inr (Or.inr rfl)) rfl) (px_var (n := 6) rfl (by first | exact Or.inl rfl | exact Or.inr (Or.inl rfl) | exact Or.inr (Or.inr rfl)) rfl) (mulW (by repeat first | assumption | exact (by decide : Bd 64 _) | apply bd_mul | apply bd_add | apply bd_sub | apply bd_neg) (by repeat first | assumption | exact (by decide : Bd 64 _) | apply bd_mul | apply bd_add | apply bd_sub | apply bd_neg) (by decide))) (px_var (n := 6) rfl (by first | exact Or.inl rfl | exact Or.inr (Or.inl rfl) | exact Or.inr (Or.inr rfl)) rfl) (mulW (by repeat first | assumption | exact (by decide : Bd 64 _) | apply bd_mul | apply bd_add | apply bd_sub | apply bd_neg) (by repeat first | assumption | exact (by decide : Bd 64 _) | apply bd_mul | apply bd_add | apply bd_sub | apply bd_neg) (by decide))) (px_mul px_int (px_var (n := 6) rfl (by first | exact Or.inl rfl | exact Or.inr (Or.inl rfl) | exact Or.inr (Or.inr rfl)) rfl) (mulW (by repeat first | assumption | exact (by decide : Bd 64 _) | apply bd_mul | apply bd_add | apply bd_sub | apply bd_neg) (by repeat first | assumption | exact (by decide : Bd 64 _) | apply bd_mul | apply bd_add | apply bd_sub | apply bd_neg) (by decide)))) (pxi1 px_int pxi0 (fun _ => rfl)) (fun _ => rfl)) (fun _ => rfl))) ⟨(_, _, _), ⟨c1, c2, rfl⟩, rfl⟩)) (fun s ⟨_, _, hs⟩ => by rw [hs]; rfl) (fun _ => rfl)) ?_
    · obtain ⟨z, x, y, e, hx, hy, rfl⟩ := hs
      have e' : sz = z := by
        have := (List.cons.inj e).1
        injection this with this
        injection this
      subst e'
      refine ⟨⟨(x, y, 1), ⟨?_, ?_, rfl⟩, rfl⟩, rfl⟩
      · show x.natAbs < 2 ^ 20
        have e : (2 : Nat) ^ 20 = 1048576 := by decide
        omega
      · show y.natAbs < 2 ^ 20
        have e : (2 : Nat) ^ 20 = 1048576 := by decide
        omega
    rintro _ ⟨_, ⟨p, gp, rfl⟩, rfl⟩
    (try conv => arg 4; simp only [slots, wipeD, List.map, List.length, List.append, List.replicate, List.set_cons_zero, List.set_cons_succ, List.cons_append, List.nil_append, Nat.add_sub_cancel])
    
    have hgq : ∀ q ∈ qs, GP q := fun q hq => (hf.g q hq).gp
    have hgp : GP p := gp.gp
    have hl100 : qs.length ≤ 100 := by omega
    refine pxbm_one (pxs_m ?_)
    
    refine pxs_if (pxt_lend (n := 3) rfl (PXW.pt (pxw_and (pxt_cmp (px_lt (px_lenL B.len rfl (px_var (n := 3) rfl (by first | exact Or.inl rfl | exact Or.inr (Or.inl rfl) | exact Or.inr (Or.inr rfl)) rfl) (fun _ => rfl)) (px_var (n := 4) rfl (by first | exact Or.inl rfl | exact Or.inr (Or.inl rfl) | exact Or.inr (Or.inr rfl)) rfl)) (nomark _)) (fun _ => (pxw_and1 (pxt_val (px_call h_L_fits_disks (Nat.le_of_ble_eq_true rfl) rfl (pxa_cons (px_var (n := 3) rfl (by first | exact Or.inl rfl | exact Or.inr (Or.inl rfl) | exact Or.inr (Or.inr rfl)) rfl) (pxa_cons (px_var (n := 7) rfl (by first | exact Or.inl rfl | exact Or.inr (Or.inl rfl) | exact Or.inr (Or.inr rfl)) rfl) pxa_nil (fun _ => rfl)) (fun _ => rfl)) ⟨_, _, by assumption, by assumption, by assumption, rfl, rfl⟩ rfl (fun _ => rfl) (fun _ => rfl)) (fun _ _ => rfl))))))) (fun h => ?_) fun h => ?_
    · rw [Bool.and_eq_true] at h
      have hlt := of_decide_eq_true h.1
      rw [List.length_map] at hlt
      have hlen : (qs.map ptD).length < 100000 := by rw [List.length_map]; omega
      refine pxb_one (PXS.weak (pxs_append (n := 3) rfl (by first | exact Or.inl rfl | exact Or.inr (Or.inl rfl) | exact Or.inr (Or.inr rfl)) rfl (px_var (n := 7) rfl (by first | exact Or.inl rfl | exact Or.inr (Or.inl rfl) | exact Or.inr (Or.inr rfl)) rfl) (by first | assumption | omega) (fun _ => rfl) (fun _ => rfl) rfl (fun _ => rfl) (fun _ => rfl) (fun _ => rfl)) ?_)
      rintro _ rfl
      have happ : qs.map ptD ++ [ptD p] = (qs ++ [p]).map ptD := by rw [List.map_append]; rfl
      rw [happ]
      exact ⟨qs ++ [p], _, _, hf.snoc h.2 gp, by rw [List.length_append, List.length_singleton]; omega, fun _ => by simp, rfl⟩
    · refine pxb_nil ⟨qs, _, _, hf, hl, fun _ hq => ?_, rfl⟩
      subst hq
      rw [Bool.and_eq_false_iff] at h
      rcases h with h | h
      · have := of_decide_eq_false h
        simp at this
        omega
      · cases h
  · rintro _ ⟨qs, o6, o7, hf, hl, hk, rfl⟩
    rw [rgV_length] at hk
    exact ⟨qs, o6, o7, hf, hl, hk (by omega), rfl⟩
  rintro _ ⟨qs, o6, o7, hf, hl, hk, rfl⟩
  have hl1 : 1 ≤ qs.length := by
    cases qs with
    | nil => exact absurd rfl hk
    | cons q qs => simp
  refine pxbm_freeze (n := 3) (ds := qs.map ptD) rfl ?_
  (try conv => arg 4; simp only [slots, wipeD, List.map, List.length, List.append, List.replicate, List.set_cons_zero, List.set_cons_succ, List.cons_append, List.nil_append, Nat.add_sub_cancel])
  
  refine pxbm_cons (nx1 := fun δ' => ∃ ps, Made ps ∧ δ' = [some (.x (.ref a)), some (iS 1), some (iS most), some (.p (.list (ps.map ptD))), some (iS m), some (iS sz), o6, o7]) (pxsm_ifEq (pxm_taken h_taken (Nat.le_of_ble_eq_true rfl) rfl (pxa_cons (px_var (n := 0) rfl (by first | exact Or.inl rfl | exact Or.inr (Or.inl rfl) | exact Or.inr (Or.inr rfl)) rfl) (pxa_cons px_int pxa_nil (fun _ => rfl)) (fun _ => rfl)) (by decide) (by decide) (fun _ => rfl) (fun _ => rfl)) px_int (nomark _) (pxb_m ?_) (pxbm_nil ⟨qs, ⟨qs, hf, hl1, by omega, .inl rfl⟩, rfl⟩)) ?_
  · refine pxb_one (PXS.weak (pxs_setLcE (n := 3) (enc := ptD) (ts := qs) (cond := fun _ => true) (y := fun p => ptD (third p)) (own := [("_law_p", 7)]) sc_L_disks.nd rfl rfl rfl (src_list (px_var (n := 3) rfl (by first | exact Or.inl rfl | exact Or.inr (Or.inl rfl) | exact Or.inr (Or.inr rfl)) rfl)) rfl (fun _ _ => rfl) (fun p hp => ?_) (by omega) (by decide) (by decide) (show lcOut _ _ _ = (qs.map third).map ptD from by rw [lcOut_true, List.map_map]; rfl)) ?_)
    · have n3 : (3 : Int) ≠ 0 := by decide
      have b38 : Bd 8000 (3 : Int) := bd_mono (n := 3) (by decide) (by decide)
      exact ⟨_, _, ⟨(pxg_name (n := 7) sc_L_disks.nd rfl (by first | exact Or.inl rfl | exact Or.inr rfl) (by first | exact .inl rfl | exact .inr rfl)), (by decide), pxi_nil, fun hc => (px_call h_L_lowest (Nat.le_of_ble_eq_true rfl) rfl (pxa_cons (px_ixT (px_var (n := 7) rfl (by first | exact Or.inl rfl | exact Or.inr (Or.inl rfl) | exact Or.inr (Or.inr rfl)) rfl) px_int (by first | assumption | rfl) (fun _ _ => rfl)) (pxa_cons (px_ixT (px_var (n := 7) rfl (by first | exact Or.inl rfl | exact Or.inr (Or.inl rfl) | exact Or.inr (Or.inr rfl)) rfl) px_int (by first | assumption | rfl) (fun _ _ => rfl)) (pxa_cons px_int pxa_nil (fun _ => rfl)) (fun _ => rfl)) (fun _ => rfl)) (r_lowest (by assumption) (by assumption)) rfl (fun _ => rfl) (fun _ => rfl))⟩⟩
    · rintro _ rfl
      exact ⟨qs.map third, ⟨qs, hf, hl1, by omega, .inr rfl⟩, rfl⟩
  rintro _ ⟨ps, hps, rfl⟩
  exact pxbm_one (pxsm_ret (px_m (S := fun s => s = psS ps) (px_tupleL B.tuple rfl (px_var (n := 3) rfl (by first | exact Or.inl rfl | exact Or.inr (Or.inl rfl) | exact Or.inr (Or.inr rfl)) rfl) (fun _ => rfl)) rfl) (fun s hs => ⟨ps, hps, hs⟩))
end
end M
namespace M
open L2 PyProof.Rows PySem.Spec PySem
/-! ### ratios in lowest terms -/
theorem gcdV_pos {n d : Int} (h : d ≠ 0) : 0 < gcdV n d := by
  have h1 : gcdV n d ≠ 0 := (gcd_le_right (n := n) (k := d.natAbs + 1) h (by unfold Bd; exact Nat.lt_of_lt_of_le (Nat.lt_succ_self _) (Nat.le_of_lt Nat.lt_two_pow_self))).2
  unfold gcdV at *
  omega
theorem redV_ok {n d : Int} (hn : 0 ≤ n) (hd : 0 < d) : RtOk (redV n d) := by
  have hp := gcdV_pos (n := n) (d := d) (by omega)
  have hc : comV n d = gcdV n d := by unfold comV; rw [if_neg (by omega)]
  have e1 : (redV n d).1 = n / gcdV n d := by
    unfold redV
    rw [hc]
    exact Int.fdiv_eq_ediv_of_nonneg n (by omega)
  have e2 : (redV n d).2 = d / gcdV n d := by
    unfold redV
    rw [hc]
    exact Int.fdiv_eq_ediv_of_nonneg d (by omega)
  refine ⟨redV_pos (by omega), ?_, ?_⟩
  · rw [e1, e2]
    unfold gcdV at *
    have h2 : 0 < Int.gcd n d := by omega
    have := Int.gcd_ediv_gcd_ediv_gcd h2
    rw [this]
    rfl
  · rw [e1]
    exact Int.ediv_nonneg hn (by omega)
theorem plusV_ok {a b : Rt} (ha : RtOk a) (hb : 0 < b.2) (h : 0 ≤ a.1 * b.2 + b.1 * a.2) : RtOk (plusV a b) := redV_ok h (Int.mul_pos ha.d hb)
theorem plus_bd {n m : Nat} {a b : Rt} (ha : BR n a) (hb : BR m b) : BR (n + m + 1) (plusV a b) := by
  unfold plusV
  exact (redV_bd (bd_add (bd_mul ha.1 hb.2) (bd_mul hb.1 ha.2)) (bd_mul ha.2 hb.2)).mono (by omega)
theorem mem_sortT {ts : List (List Int)} {k : List Int} : k ∈ sortT ts ↔ k ∈ ts := (sortT_perm ts).mem_iff
/-- a plain def's call with args from the row -/
theorem pxm_callF {c : CF} {a : Addr} {δ : Dl} {e : Expr} {es : List Expr} {pos p2 : Pos} {S : Sl → Prop} {SS : List Sl → Prop} {x : Str} {R : List Sl → Sl → Prop} {k : Nat} (F : Fn c.P c.w c.K c.mg c.base x R k) (hk : k ≤ c.k) (hg : GlN c x) (ha : PXAm c a (e :: es) δ SS) (hR : ∀ ss, SS ss → (∀ t ∈ ss, Sl.own t = false) ∧ ∃ s, R ss s ∧ S s ∧ s.own = false)
    (he : ∀ env, starEach (e :: es) env = (false, eval e env) :: starEach es env) (hpl : ∀ env, (backTo pos (starEach es env)).any (·.1) = false) (hdb : (x == ("__debug__" : Str)) = false := by decide) : PXm c a (.Call (.Name x p2) (e :: es) [] pos) δ S := fun X f => by
  obtain ⟨fa, fd, ps, F, hm, kp, hb⟩ := F.ex
  have F' : FnOk X.prog X.w X.K X.mg X.base CX0 k fa fd ps (FR R) := by rw [f.P, f.w, f.K, f.mg, f.base]; exact F
  refine PE.weak (pe_call F' (f.room.mono hk) (show X.env.scope.names.lookup x = _ by rw [f.sc]; exact hg) (by rw [f.mg]; exact hm) (by rw [f.K]; exact kp) (by rw [f.K]; exact hb) .nil pass0 (ha X f) hdb (he X.env) (hpl X.env)) fun σ H Q ⟨W, G, e, q⟩ => ⟨W, G, e, fun vs ss G1 H1 st r hSS hv => ?_⟩
  obtain ⟨no, s, hRs, hS, so⟩ := hR ss hSS
  rw [List.append_nil]
  exact ⟨G1, ss, s, st.gh, hv.re no, hRs, fun v G2 H2 st2 hv2 => q v s G2 H2 (st.trans (st2.toM a) r (r.step st2)) (r.step st2) hS (hv2.re so)⟩
/-- ratio(taken(row, 200), 1 + taken(row, 4)) -/
theorem h_rat {c : CF} {a : Addr} {δ : Dl} {e1 e2 : Expr} {pos p2 : Pos} {k : Nat} (F : Fn c.P c.w c.K c.mg c.base "_law_ratio" R_red k) (hk : k ≤ c.k) (hg : GlN c "_law_ratio") (h1 : PXm c a e1 δ (fun s => ∃ t, (0 ≤ t ∧ t < 200) ∧ s = iS t)) (h2 : PXm c a e2 δ (fun s => ∃ t, (0 ≤ t ∧ t < 4) ∧ s = .p (.int (1 + t))))
    (hs1 : ∀ env, starEach [e1, e2] env = (false, eval e1 env) :: starEach [e2] env) (hs2 : ∀ env, starEach [e2] env = (false, eval e2 env) :: starEach [] env) (hpl : ∀ env, (backTo pos (starEach [e2] env)).any (·.1) = false) (hdb : (("_law_ratio" : Str) == ("__debug__" : Str)) = false) : PXm c a (.Call (.Name "_law_ratio" p2) [e1, e2] [] pos) δ (fun s => ∃ q, (RtOk q ∧ BR 3000 q) ∧ s = rS q) := by
  refine pxm_callF F hk hg (pxam_cons h1 (pxam_cons h2 pxam_nil hs2) hs1) (fun ss hss => ?_) hs1 hpl hdb
  obtain ⟨_, _, rfl, ⟨t, ht, rfl⟩, _, _, rfl, ⟨u, hu, rfl⟩, rfl⟩ := hss
  have bt : Bd 20 t := by
    unfold Bd
    have e : (2 : Nat) ^ 20 = 1048576 := by decide
    omega
  have bu : Bd 20 (1 + u) := by
    unfold Bd
    have e : (2 : Nat) ^ 20 = 1048576 := by decide
    omega
  refine ⟨by simp [Sl.own], rS (redV t (1 + u)), ⟨t, 1 + u, by omega, bd_mono bu (by decide), rfl, rfl⟩, ⟨_, ⟨redV_ok ht.1 (by omega), (redV_bd bt bu).mono (by decide)⟩, rfl⟩, rfl⟩
section
variable {P : Program} {w : World} {K : PySem.W.Frag} {mg : Str → Option Value} {base : Heap}
theorem fnm_radius (B : Blt mg) (D : DefAt K mg "_law_radius" s_L_radius ["_law_row", "_law_table"]) (h_taken : Fnm P w K mg base "_law_taken" PreT RT 1) (h_pick : Fnm P w K mg base "_law_pick" PreP RP 2) (h_L_plus : Fn P w K mg base "_law_plus" (fun ss s => ∃ a b, a.2 ≠ 0 ∧ b.2 ≠ 0 ∧ BR 3000 a ∧ BR 3000 b ∧ ss = [rS a, rS b] ∧ s = rS (plusV a b)) 3) (h_L_ratio : Fn P w K mg base "_law_ratio" R_red 2) (h_L_less : Fn P w K mg base "_law_less" R_below 1) : Fnm P w K mg base "_law_radius" PreR RR 4 := by
  -- def _law_radius
  refine fnm_at D sc_L_radius (by rintro _ ⟨m, _, rfl⟩; rfl) (by rintro _ ⟨m, _, rfl⟩; simp [Sl.own]) ?_
  rintro a _ ⟨t, tv, rfl⟩
  have htl := tv.ok.len
  -- the values, by the sorted keys
  have hkeys : ∃ es : List (List Int × Rt), (∀ e ∈ es, e ∈ t) ∧ es.length = t.length ∧ sortT (t.map (·.1)) = es.map (·.1) := by
    have : ∀ ks : List (List Int), (∀ k ∈ ks, k ∈ t.map (·.1)) → ∃ es : List (List Int × Rt), (∀ e ∈ es, e ∈ t) ∧ ks = es.map (·.1) := by
      intro ks
      induction ks with
      | nil => exact fun _ => ⟨[], by simp, rfl⟩
      | cons k ks ih =>
        intro h
        obtain ⟨es, h1, h2⟩ := ih fun k hk => h k (List.mem_cons_of_mem _ hk)
        obtain ⟨e, he, rfl⟩ := List.mem_map.mp (h k List.mem_cons_self)
        exact ⟨e :: es, fun x hx => by rcases List.mem_cons.mp hx with z | hx; · rw [z]; exact he
                                       · exact h1 x hx, by rw [h2]; rfl⟩
    obtain ⟨es, h1, h2⟩ := this (sortT (t.map (·.1))) fun k hk => mem_sortT.mp hk
    refine ⟨es, h1, ?_, h2⟩
    have := congrArg List.length h2
    rw [(sortT_perm _).length_eq, List.length_map, List.length_map] at this
    exact this.symm
  obtain ⟨es, hes, hel, hks⟩ := hkeys
  have hne : es ≠ [] := by
    intro e
    rw [e] at hel
    exact tv.pos (List.length_eq_zero_iff.mp hel.symm)
  have htk : ((tbD t).map (·.1)) = t.map (·.1) := by unfold tbD; rw [List.map_map]; rfl
  have hkn : ∀ k ∈ (tbD t).map (·.1), k ≠ [] := fun k hk => by
    rw [htk] at hk
    obtain ⟨e, he, rfl⟩ := List.mem_map.mp hk
    exact tv.ok.ne e he
  have hsrt : (sortT ((tbD t).map (·.1))).map tupI = es.map fun e => tupI e.1 := by rw [htk, hks, List.map_map]; rfl
  refine pxbm_cons (pxs_m (pxs_setLcE (n := 2) (enc := fun e : List Int × Rt => tupI e.1) (ts := es) (cond := fun _ => true) (y := fun e => rtD e.2) (own := [("_law_cell", 5)]) sc_L_radius.nd rfl rfl rfl (by rw [← hsrt]; exact src_list (px_sortedKeys B.sorted rfl (px_var (n := 1) rfl (by first | exact Or.inl rfl | exact Or.inr (Or.inl rfl) | exact Or.inr (Or.inr rfl)) rfl) hkn (by unfold tbD; rw [List.length_map]; omega) (fun _ => rfl) rfl (fun _ => rfl))) rfl (fun _ _ => rfl) (fun e he => ?_) (by omega) (by decide) (by decide) (show lcOut _ _ _ = (es.map (·.2)).map rtD from by rw [lcOut_true, List.map_map]; rfl))) ?_
  · have hg := tbGet_of tv.ok.nd (hes e he)
    exact ⟨_, _, ⟨(pxg_name (n := 5) sc_L_radius.nd rfl (by first | exact Or.inl rfl | exact Or.inr rfl) (by first | exact .inl rfl | exact .inr rfl)), (by decide), pxi_nil, fun hc => (px_dgetT (px_var (n := 1) rfl (by first | exact Or.inl rfl | exact Or.inr (Or.inl rfl) | exact Or.inr (Or.inr rfl)) rfl) (px_var (n := 5) rfl (by first | exact Or.inl rfl | exact Or.inr (Or.inl rfl) | exact Or.inr (Or.inr rfl)) rfl) (by assumption) (fun _ _ => rfl))⟩⟩
  rintro _ rfl
  (try conv => arg 4; simp only [slots, wipeD, List.map, List.length, List.append, List.replicate, List.set_cons_zero, List.set_cons_succ, List.cons_append, List.nil_append, Nat.add_sub_cancel])
  
  have hpos : 0 < ((es.map (·.2)).map rtD).length := by
    rw [List.length_map, List.length_map, hel]
    cases t with
    | nil => exact absurd rfl tv.pos
    | cons x t => simp
  have hlt : ((es.map (·.2)).map rtD).length < 1000000 := by rw [List.length_map, List.length_map, hel]; omega
  refine pxbm_cons (pxsm_set (n := 3) (S := fun s => ∃ r, (RtOk r ∧ BR 1000 r) ∧ s = rS r) sc_L_radius.nd rfl (by first | exact Or.inl rfl | exact Or.inr rfl) (.inl rfl) (pxm_callP h_pick (Nat.le_of_ble_eq_true rfl) rfl (pxa_cons (px_var (n := 0) rfl (by first | exact Or.inl rfl | exact Or.inr (Or.inl rfl) | exact Or.inr (Or.inr rfl)) rfl) (pxa_cons (px_var (n := 2) rfl (by first | exact Or.inl rfl | exact Or.inr (Or.inl rfl) | exact Or.inr (Or.inr rfl)) rfl) pxa_nil (fun _ => rfl)) (fun _ => rfl)) ⟨_, rfl, hpos, hlt⟩ rfl (fun s hs => ?_) (fun _ => rfl) (fun _ => rfl)) (fun s ⟨_, _, hs⟩ => by rw [hs]; rfl) (fun _ => rfl)) ?_
  · obtain ⟨ds, d, e, hd, rfl⟩ := hs
    have e' : (es.map (·.2)).map rtD = ds := by
      have := (List.cons.inj e).1
      injection this with this
      injection this
    rw [← e'] at hd
    obtain ⟨r, hr, rfl⟩ := List.mem_map.mp hd
    obtain ⟨x, hx, rfl⟩ := List.mem_map.mp hr
    exact ⟨⟨x.2, ⟨tv.rt x (hes x hx), tv.br x (hes x hx)⟩, rfl⟩, rfl⟩
  rintro _ ⟨_, ⟨r, ⟨rok, rbr⟩, rfl⟩, rfl⟩
  (try conv => arg 4; simp only [slots, wipeD, List.map, List.length, List.append, List.replicate, List.set_cons_zero, List.set_cons_succ, List.cons_append, List.nil_append, Nat.add_sub_cancel])
  
  have r0 : r.2 ≠ 0 := by have := rok.d; omega
  have r3 : BR 3000 r := rbr.mono (by decide)
  have b1 : BR 20 ((1, 1000) : Rt) := ⟨by decide, by decide⟩
  have b1' : BR 3000 ((1, 1000) : Rt) := b1.mono (by decide)
  have b2 : BR 20 ((-1, 1000) : Rt) := ⟨by decide, by decide⟩
  have b2' : BR 3000 ((-1, 1000) : Rt) := b2.mono (by decide)
  have rn := rok.n
  have rd := rok.d
  have ok1 : RtOk (plusV r (1, 1000)) := plusV_ok rok (by decide) (by dsimp only; omega)
  have br1 : BR 3000 (plusV r (1, 1000)) := (plus_bd rbr b1).mono (by decide)
  refine pxbm_cons (pxsm_setL (n := 4) (S := fun s => ∃ qs : List Rt, qs ≠ [] ∧ qs.length ≤ 10 ∧ (∀ q ∈ qs, RtOk q ∧ BR 3000 q) ∧ s = .o (qs.map rtD)) sc_L_radius.nd rfl (by first | exact Or.inl rfl | exact Or.inr rfl) (.inl rfl)
    (pxam_cons (px_m (S := fun s => s = rS r) (px_var (n := 3) rfl (by first | exact Or.inl rfl | exact Or.inr (Or.inl rfl) | exact Or.inr (Or.inr rfl)) rfl) rfl) (pxam_cons (px_m (S := fun s => s = rS r) (px_var (n := 3) rfl (by first | exact Or.inl rfl | exact Or.inr (Or.inl rfl) | exact Or.inr (Or.inr rfl)) rfl) rfl) (pxam_cons (px_m (S := fun s => s = rS (plusV r (1, 1000))) (px_call (s := rS (plusV r (1, 1000))) h_L_plus (Nat.le_of_ble_eq_true rfl) rfl (pxa_cons (px_var (n := 3) rfl (by first | exact Or.inl rfl | exact Or.inr (Or.inl rfl) | exact Or.inr (Or.inr rfl)) rfl) (pxa_cons (px_tupI (pxi1 px_int (pxi1 px_int pxi0 (fun _ => rfl)) (fun _ => rfl))) pxa_nil (fun _ => rfl)) (fun _ => rfl)) ⟨r, (1, 1000), r0, by decide, r3, b1', rfl, rfl⟩ rfl (fun _ => rfl) (fun _ => rfl)) rfl) (pxam_cons (h_rat h_L_ratio (Nat.le_of_ble_eq_true rfl) rfl (pxm_taken h_taken (Nat.le_of_ble_eq_true rfl) rfl (pxa_cons (px_var (n := 0) rfl (by first | exact Or.inl rfl | exact Or.inr (Or.inl rfl) | exact Or.inr (Or.inr rfl)) rfl) (pxa_cons px_int pxa_nil (fun _ => rfl)) (fun _ => rfl)) (by decide) (by decide) (fun _ => rfl) (fun _ => rfl)) (pxm_add px_int (pxm_taken h_taken (Nat.le_of_ble_eq_true rfl) rfl (pxa_cons (px_var (n := 0) rfl (by first | exact Or.inl rfl | exact Or.inr (Or.inl rfl) | exact Or.inr (Or.inr rfl)) rfl) (pxa_cons px_int pxa_nil (fun _ => rfl)) (fun _ => rfl)) (by decide) (by decide) (fun _ => rfl) (fun _ => rfl))) (fun _ => rfl) (fun _ => rfl) (fun _ => rfl) rfl) pxam_nil (fun _ => rfl)) (fun _ => rfl)) (fun _ => rfl)) (fun _ => rfl)) (fun ss hss => ?_) (fun _ => rfl)) ?_
  · obtain ⟨_, _, rfl, rfl, _, _, rfl, rfl, _, _, rfl, rfl, _, _, rfl, ⟨q, ⟨q1, q2⟩, rfl⟩, rfl⟩ := hss
    refine ⟨[r, r, plusV r (1, 1000), q].map rtD, rfl, by simp, [r, r, plusV r (1, 1000), q], by simp, by simp, ?_, rfl⟩
    intro z hz
    simp only [List.mem_cons, List.not_mem_nil, or_false] at hz
    rcases hz with rfl | rfl | rfl | rfl
    · exact ⟨rok, r3⟩
    · exact ⟨rok, r3⟩
    · exact ⟨ok1, br1⟩
    · exact ⟨q1, q2⟩
  rintro _ ⟨_, ⟨qs, q0, ql, qok, hqs⟩, rfl⟩
  injection hqs with hqs
  subst hqs
  (try conv => arg 4; simp only [slots, wipeD, List.map, List.length, List.append, List.replicate, List.set_cons_zero, List.set_cons_succ, List.cons_append, List.nil_append, Nat.add_sub_cancel])
  
  have hlen : (qs.map rtD).length < 100000 := by rw [List.length_map]; omega
  have rb1 : BR 100000 r := rbr.mono (by decide)
  have b1c : BR 100000 ((1, 1000) : Rt) := b1.mono (by decide)
  refine pxbm_cons (nx1 := fun δ' => ∃ qs : List Rt, qs ≠ [] ∧ qs.length ≤ 11 ∧ (∀ q ∈ qs, RtOk q ∧ BR 3000 q) ∧ δ' = [some (.x (.ref a)), some (.t (tbD t)), some (.p (.list ((es.map (·.2)).map rtD))), some (rS r), some (.o (qs.map rtD)), none]) (pxs_m (pxs_if (pxt_val (px_call (s := bS (belowV (1, 1000) r)) h_L_less (Nat.le_of_ble_eq_true rfl) rfl (pxa_cons (px_tupI (pxi1 px_int (pxi1 px_int pxi0 (fun _ => rfl)) (fun _ => rfl))) (pxa_cons (px_var (n := 3) rfl (by first | exact Or.inl rfl | exact Or.inr (Or.inl rfl) | exact Or.inr (Or.inr rfl)) rfl) pxa_nil (fun _ => rfl)) (fun _ => rfl)) ⟨(1, 1000), r, b1c, rb1, rfl, rfl⟩ rfl (fun _ => rfl) (fun _ => rfl)) (fun _ _ => rfl)) (fun h => ?_) fun h => pxb_nil ⟨qs, q0, by omega, qok, rfl⟩)) ?_
  · have hb := of_decide_eq_true h
    dsimp only at hb
    have ok2 : RtOk (plusV r (-1, 1000)) := plusV_ok rok (by decide) (by dsimp only; omega)
    have br2 : BR 3000 (plusV r (-1, 1000)) := (plus_bd rbr b2).mono (by decide)
    refine pxb_one (PXS.weak (pxs_append (n := 4) (d := rtD (plusV r (-1, 1000))) rfl (by first | exact Or.inl rfl | exact Or.inr (Or.inl rfl) | exact Or.inr (Or.inr rfl)) rfl (px_call (s := rS (plusV r (-1, 1000))) h_L_plus (Nat.le_of_ble_eq_true rfl) rfl (pxa_cons (px_var (n := 3) rfl (by first | exact Or.inl rfl | exact Or.inr (Or.inl rfl) | exact Or.inr (Or.inr rfl)) rfl) (pxa_cons (px_tupI (pxi1 (px_neg px_int) (pxi1 px_int pxi0 (fun _ => rfl)) (fun _ => rfl))) pxa_nil (fun _ => rfl)) (fun _ => rfl)) ⟨r, (-1, 1000), r0, by decide, r3, b2', rfl, rfl⟩ rfl (fun _ => rfl) (fun _ => rfl)) hlen (fun _ => rfl) (fun _ => rfl) rfl (fun _ => rfl) (fun _ => rfl) (fun _ => rfl)) ?_)
    rintro _ rfl
    have happ : qs.map rtD ++ [rtD (plusV r (-1, 1000))] = (qs ++ [plusV r (-1, 1000)]).map rtD := by rw [List.map_append]; rfl
    rw [happ]
    refine ⟨qs ++ [plusV r (-1, 1000)], by simp, by simp; omega, fun q hq => ?_, rfl⟩
    rcases List.mem_append.mp hq with z | z
    · exact qok q z
    · rw [List.mem_singleton.mp z]; exact ⟨ok2, br2⟩
  rintro _ ⟨qs, q0, ql, qok, rfl⟩
  refine pxbm_freeze (n := 4) (ds := qs.map rtD) rfl ?_
  (try conv => arg 4; simp only [slots, wipeD, List.map, List.length, List.append, List.replicate, List.set_cons_zero, List.set_cons_succ, List.cons_append, List.nil_append, Nat.add_sub_cancel])
  
  have hp2 : 0 < (qs.map rtD).length := by
    rw [List.length_map]
    cases qs with
    | nil => exact absurd rfl q0
    | cons x qs => simp
  refine pxbm_one (pxsm_ret (S := fun s => ∃ r, RtOk r ∧ BR 3000 r ∧ s = rS r) (pxm_callP h_pick (Nat.le_of_ble_eq_true rfl) rfl (pxa_cons (px_var (n := 0) rfl (by first | exact Or.inl rfl | exact Or.inr (Or.inl rfl) | exact Or.inr (Or.inr rfl)) rfl) (pxa_cons (px_var (n := 4) rfl (by first | exact Or.inl rfl | exact Or.inr (Or.inl rfl) | exact Or.inr (Or.inr rfl)) rfl) pxa_nil (fun _ => rfl)) (fun _ => rfl)) ⟨_, rfl, hp2, by rw [List.length_map]; omega⟩ rfl (fun s hs => ?_) (fun _ => rfl) (fun _ => rfl)) (fun s hs => hs))
  obtain ⟨ds, d, e, hd, rfl⟩ := hs
  have e' : qs.map rtD = ds := by
    have := (List.cons.inj e).1
    injection this with this
    injection this
  rw [← e'] at hd
  obtain ⟨q, hq, rfl⟩ := List.mem_map.mp hd
  exact ⟨⟨q, (qok q hq).1, (qok q hq).2, rfl⟩, rfl⟩
end
end M
namespace M
open L2 PyProof.Rows PySem.Spec PySem
def prAt (prs : List (Int × Int)) (k : Int) : Int × Int := prs.getD k.toNat (0, 0)
def lrowI (prs : List (Int × Int)) (t : P3) : List Int := (rgV 0 prs.length).filter fun k => (ptL t).contains (prAt prs k).1 && (ptL t).contains (prAt prs k).2
/-- the plain law: what is asked of the values -/
structure Plain : Prop where
  gen : ∀ ps, Made ps → Gen ps
  same : ∀ ps, Made ps → bornV ps = lbornV ps
  tb : ∀ ps, Made ps → TbV (lbornV ps)
  closed : ∀ ps r, Made ps → RtOk r → Closed ps.length (cellsV (lbornV ps) r)
  rows : ∀ ps r, Made ps → RtOk r → rk (((c3V (cellsV (lbornV ps) r)).map (lrowI (c2V (cellsV (lbornV ps) r)))).map vec) = rk (((c3V (cellsV (lbornV ps) r)).map (rowI (c2V (cellsV (lbornV ps) r)))).map vec)
  free : ∀ ps r, Made ps → RtOk r → rk (((c3V (cellsV (lbornV ps) r)).map (rowI (c2V (cellsV (lbornV ps) r)))).map vec) = (c3V (cellsV (lbornV ps) r)).length
theorem at_prs {prs : List (Int × Int)} {k : Int} (h0 : 0 ≤ k) (h1 : k < prs.length) : atI (prs.map prD) k = some (prD (prAt prs k)) := by
  unfold atI ixN
  rw [if_pos h0, List.length_map, if_pos h1]
  simp only [Option.bind_some]
  rw [List.getElem?_map, List.getElem?_eq_getElem (by omega)]
  unfold prAt
  rw [List.getD_eq_getElem?_getD, List.getElem?_eq_getElem (by omega), Option.getD_some]
  rfl
def spLaw (K : PySem.W.Frag) : Sp := fun vs H Q _ => ∃ (l : Addr) (ns : List Int), vs = [.ref l] ∧ SqL K H l (ns.map V.int) ∧ ∀ H', Q (.bl true) H'
section
variable {P : Program} {w : World} {K : PySem.W.Frag} {mg : Str → Option Value} {base : Heap}
/-- one turn of the law's loop, behind the radius -/
theorem law_turn (PL : Plain) (B : Blt mg) {a l : Addr} {ps : List P3} {r : Rt} (mk : Made ps) (rok : RtOk r) (rbr : BR 3000 r) {i : Int} {o6 o7 o8 o9 o10 : Option Sl}
    (h_L_cells : Fn P w K mg base "_law_cells" R_lcells 2) (h_L_rank2 : Fn P w K mg base "_law_rank2" R_rank2 2) (h_ranks_at : Fn P w K mg base "ranks_at" R_ranks 8) (h_part_count : Fn P w K mg base "part_count" R_pcount 8) (h_hole_count : Fn P w K mg base "hole_count" R_hcount 8) (h_L_alike : Fn P w K mg base "_law_alike" R_alikeT 2) :
    PXB ⟨P, w, K, mg, base, N_L_law, defScope s_L_law, 8, fun _ => true⟩ ((match (defBody s_L_law).getD 3 (.Pass ⟨0, 0, 0, 0⟩) with | .For _ _ b _ _ => b | _ => []).drop 1) [some (.x (.ref l)), some (.x (.ref a)), some (psS ps), some (.t (tbD (lbornV ps))), some (iS i), some (rS r), o6, o7, o8, o9, o10, none, none]
      (fun δ' => ∃ i5 o6 o7 o8 o9 o10, δ' = [some (.x (.ref l)), some (.x (.ref a)), some (psS ps), some (.t (tbD (lbornV ps))), some (iS i), i5, o6, o7, o8, o9, o10, none, none]) (fun s => s = bS true) := by
  -- def law
  have g := PL.gen ps mk
  have sm := PL.same ps mk
  have tv := PL.tb ps mk
  have cl := PL.closed ps r mk rok
  have rws := PL.rows ps r mk rok
  have fre := PL.free ps r mk rok
  have tok := tv.ok
  have rb := rbr.mono (show 3000 ≤ 100000 by decide)
  have l2 := g.l2
  have ask : AskOk ps r := ⟨g, by rw [sm]; exact tok, rok, rb, by rw [sm]; exact cl⟩
  (refine pxb_seq (pxs_set (n := 6) sc_L_law.nd rfl (by first | exact Or.inl rfl | exact Or.inr rfl) (.inl rfl) (px_call h_L_cells (Nat.le_of_ble_eq_true rfl) rfl (pxa_cons (px_var (n := 3) rfl (by first | exact Or.inl rfl | exact Or.inr (Or.inl rfl) | exact Or.inr (Or.inr rfl)) rfl) (pxa_cons (px_var (n := 5) rfl (by first | exact Or.inl rfl | exact Or.inr (Or.inl rfl) | exact Or.inr (Or.inr rfl)) rfl) pxa_nil (fun _ => rfl)) (fun _ => rfl)) ⟨_, _, by assumption, by assumption, rfl, rfl⟩ rfl (fun _ => rfl) (fun _ => rfl)) rfl (fun _ => rfl)) ?_); (try conv => arg 3; simp only [slots, wipeD, List.map, List.length, List.append, List.replicate, List.set_cons_zero, List.set_cons_succ, List.cons_append, List.nil_append, Nat.add_sub_cancel])
  have hra : R_ranks [psS ps, rS r] (.p (tupI [(rk ((c2V (cellsV (lbornV ps) r)).map pv) : Nat), (rk (((c3V (cellsV (lbornV ps) r)).map (rowI (c2V (cellsV (lbornV ps) r)))).map vec) : Nat)])) := ⟨ps, r, ask, rfl, by rw [sm]⟩
  have hpc : R_pcount [psS ps, rS r] (iS (distinct (partsL ps.length (c2V (cellsV (lbornV ps) r))) : Nat)) := ⟨ps, r, ask, rfl, by rw [sm]⟩
  have hhc : R_hcount [psS ps, rS r] (iS (((c2V (cellsV (lbornV ps) r)).length : Nat) - ((c3V (cellsV (lbornV ps) r)).length : Nat) - (ps.length : Nat) + (distinct (partsL ps.length (c2V (cellsV (lbornV ps) r))) : Nat))) := ⟨ps, r, ask, rfl, by rw [sm]⟩
  generalize cellsV (lbornV ps) r = cs at *
  have hcl := cl.len
  have hnd2 := c2V_nodup cl.nd
  have hp := cl.p
  have hprk := parts_rank ps.length (c2V cs) hp
  have hl2 : (c2V cs).length ≤ 1600 := Nat.le_trans (len_le_sub hnd2 fun p h => mem_pairsV.mpr (hp p h)) (pairsV_length _ (by omega))
  have hl3 : (c3V cs).length ≤ 90000 := by
    unfold c3V szV
    rw [List.length_map]
    exact Nat.le_trans (List.length_filter_le _ _) hcl
  have hsz2 : (szV 2 cs).map tupI = (c2V cs).map prD := by rw [sz2_eq, List.map_map]; rfl
  have hsz3 : (szV 3 cs).map tupI = (c3V cs).map trD := by rw [sz3_eq, List.map_map]; rfl
  refine pxb_seq (pxs_setS (n := 7) sc_L_law.nd rfl (by first | exact Or.inl rfl | exact Or.inr rfl) (.inl rfl) (px_lcE (enc := tupI) (ts := cs) (cond := fun c => decide ((c.length : Int) = 2)) (y := tupI) (own := [("_law_cell", 9)]) sc_L_law.nd (src_list (px_var (n := 6) rfl (by first | exact Or.inl rfl | exact Or.inr (Or.inl rfl) | exact Or.inr (Or.inr rfl)) rfl)) rfl (fun _ _ => rfl) (fun c hc => ?_) (by omega) (show lcOut _ _ _ = (c2V cs).map prD from hsz2)) rfl rfl) ?_
  · have e : (c.map PyData.int).length = c.length := List.length_map _
    rw [← e]
    exact ⟨_, _, ⟨(pxg_name (n := 9) sc_L_law.nd rfl (by first | exact Or.inl rfl | exact Or.inr rfl) (by first | exact .inl rfl | exact .inr rfl)), (by decide), (pxi_one (pxt_cmp (px_eqI (px_lenT B.len rfl (px_var (n := 9) rfl (by first | exact Or.inl rfl | exact Or.inr (Or.inl rfl) | exact Or.inr (Or.inr rfl)) rfl) (fun _ => rfl)) px_int) (nomark _))), fun hc => (px_var (n := 9) rfl (by first | exact Or.inl rfl | exact Or.inr (Or.inl rfl) | exact Or.inr (Or.inr rfl)) rfl)⟩⟩
  (try conv => arg 3; simp only [slots, wipeD, List.map, List.length, List.append, List.replicate, List.set_cons_zero, List.set_cons_succ, List.cons_append, List.nil_append, Nat.add_sub_cancel])
  
  generalize hprs : c2V cs = prs at *
  (refine pxb_seq (pxs_setN (n := 8) sc_L_law.nd rfl (by first | exact Or.inl rfl | exact Or.inr rfl) (.inl rfl) (pxn_lst (ds := []) pxa_nil) (fun _ => rfl)) ?_); (try conv => arg 3; simp only [slots, wipeD, List.map, List.length, List.append, List.replicate, List.set_cons_zero, List.set_cons_succ, List.cons_append, List.nil_append, Nat.add_sub_cancel])
  refine pxb_cons (nx1 := fun δ' => ∃ o9, δ' = [some (.x (.ref l)), some (.x (.ref a)), some (psS ps), some (.t (tbD (lbornV ps))), some (iS i), some (rS r), some (.p (.list (cs.map tupI))), some (.p (.list (prs.map prD))), some (.o (((c3V cs).map (lrowI prs)).map lI)), o9, o10, none, none]) (pxs_forT (enc := trD) (ts := c3V cs) (fun q δ' => ∃ o9, δ' = [some (.x (.ref l)), some (.x (.ref a)), some (psS ps), some (.t (tbD (lbornV ps))), some (iS i), some (rS r), some (.p (.list (cs.map tupI))), some (.p (.list (prs.map prD))), some (.o ((((c3V cs).take q).map (lrowI prs)).map lI)), o9, o10, none, none])
    (src_list (px_lcE (enc := tupI) (ts := cs) (cond := fun c => decide ((c.length : Int) = 3)) (y := tupI) (own := [("_law_cell", 9)]) sc_L_law.nd (src_list (px_var (n := 6) rfl (by first | exact Or.inl rfl | exact Or.inr (Or.inl rfl) | exact Or.inr (Or.inr rfl)) rfl)) rfl (fun _ _ => rfl) (fun c hc => ?_) (by omega) (show lcOut _ _ _ = (c3V cs).map trD from hsz3))) ⟨_, rfl⟩ ?_ ?_ (fun _ _ => rfl)) ?_
  · have e : (c.map PyData.int).length = c.length := List.length_map _
    rw [← e]
    exact ⟨_, _, ⟨(pxg_name (n := 9) sc_L_law.nd rfl (by first | exact Or.inl rfl | exact Or.inr rfl) (by first | exact .inl rfl | exact .inr rfl)), (by decide), (pxi_one (pxt_cmp (px_eqI (px_lenT B.len rfl (px_var (n := 9) rfl (by first | exact Or.inl rfl | exact Or.inr (Or.inl rfl) | exact Or.inr (Or.inr rfl)) rfl) (fun _ => rfl)) px_int) (nomark _))), fun hc => (px_var (n := 9) rfl (by first | exact Or.inl rfl | exact Or.inr (Or.inl rfl) | exact Or.inr (Or.inr rfl)) rfl)⟩⟩
  · rintro q ⟨t1, t2, t3⟩ _ ht ⟨o9, rfl⟩
    have hq := lt_of_get ht
    have hlen : ((((c3V cs).take q).map (lrowI prs)).map lI).length < 100000 := by
      rw [List.length_map, List.length_map, List.length_take]; omega
    refine ⟨_, _, (pxg_name (n := 9) sc_L_law.nd rfl (by first | exact Or.inl rfl | exact Or.inr rfl) (.inl rfl)), ?_⟩
    (try conv => arg 3; simp only [slots, wipeD, List.map, List.length, List.append, List.replicate, List.set_cons_zero, List.set_cons_succ, List.cons_append, List.nil_append, Nat.add_sub_cancel])
    refine pxb_one (PXS.weak (pxs_append (n := 8) (d := lI (lrowI prs (t1, t2, t3))) rfl (by first | exact Or.inl rfl | exact Or.inr (Or.inl rfl) | exact Or.inr (Or.inr rfl)) rfl (px_lcE (enc := PyData.int) (ts := rgV 0 prs.length) (cond := fun k => (ptL (t1, t2, t3)).contains (prAt prs k).1 && (ptL (t1, t2, t3)).contains (prAt prs k).2) (y := PyData.int) (own := [("_law_k", 11)]) sc_L_law.nd ?_ rfl (fun _ _ => rfl) (fun k hk => ?_) (by rw [rgV_length]; omega) (show lcOut _ _ _ = (lrowI prs (t1, t2, t3)).map PyData.int from rfl)) hlen (fun _ => rfl) (fun _ => rfl) rfl (fun _ => rfl) (fun _ => rfl) (fun _ => rfl)) ?_)
    · have e : (prs.map prD).length = prs.length := List.length_map _
      have e2 : (prs.map prD).length ≤ 100000 := by omega
      rw [← e]
      exact (src_range1V B.range rfl (px_lenL B.len rfl (px_var (n := 7) rfl (by first | exact Or.inl rfl | exact Or.inr (Or.inl rfl) | exact Or.inr (Or.inr rfl)) rfl) (fun _ => rfl)) (by omega) (fun _ => rfl))
    · have hk := mem_rgV.mp hk
      have ha := at_prs (prs := prs) (k := k) (by omega) (by omega)
      exact ⟨_, _, ⟨(pxg_name (n := 11) sc_L_law.nd rfl (by first | exact Or.inl rfl | exact Or.inr rfl) (by first | exact .inl rfl | exact .inr rfl)), (by decide), (pxi_one (PXW.pt (pxw_and (pxt_cmp (px_inT (px_ixT (px_ixL (px_var (n := 7) rfl (by first | exact Or.inl rfl | exact Or.inr (Or.inl rfl) | exact Or.inr (Or.inr rfl)) rfl) (px_var (n := 11) rfl (by first | exact Or.inl rfl | exact Or.inr (Or.inl rfl) | exact Or.inr (Or.inr rfl)) rfl) (by first | assumption | rfl) (fun _ _ => rfl)) px_int (by first | assumption | rfl) (fun _ _ => rfl)) (px_var (n := 9) rfl (by first | exact Or.inl rfl | exact Or.inr (Or.inl rfl) | exact Or.inr (Or.inr rfl)) rfl)) rfl) (fun _ => (pxw_and1 (pxt_cmp (px_inT (px_ixT (px_ixL (px_var (n := 7) rfl (by first | exact Or.inl rfl | exact Or.inr (Or.inl rfl) | exact Or.inr (Or.inr rfl)) rfl) (px_var (n := 11) rfl (by first | exact Or.inl rfl | exact Or.inr (Or.inl rfl) | exact Or.inr (Or.inr rfl)) rfl) (by first | assumption | rfl) (fun _ _ => rfl)) px_int (by first | assumption | rfl) (fun _ _ => rfl)) (px_var (n := 9) rfl (by first | exact Or.inl rfl | exact Or.inr (Or.inl rfl) | exact Or.inr (Or.inr rfl)) rfl)) rfl)))))), fun hc => (px_var (n := 11) rfl (by first | exact Or.inl rfl | exact Or.inr (Or.inl rfl) | exact Or.inr (Or.inr rfl)) rfl)⟩⟩
    · rintro _ rfl
      rw [take_snoc ht, List.map_append, List.map_append]
      exact ⟨_, rfl⟩
  · rintro _ ⟨o9, rfl⟩
    rw [List.take_of_length_le (Nat.le_refl _)]
    exact ⟨_, rfl⟩
  rintro _ ⟨o9, rfl⟩
  refine pxb_freeze (n := 8) (ds := ((c3V cs).map (lrowI prs)).map lI) rfl ?_
  (try conv => arg 3; simp only [slots, wipeD, List.map, List.length, List.append, List.replicate, List.set_cons_zero, List.set_cons_succ, List.cons_append, List.nil_append, Nat.add_sub_cancel])
  
  have hr1 : R_rank2 [.p (.list ((prs.map prL).map lI)), iS ((ps.map ptD).length : Nat)] (iS (rk (prs.map pv) : Nat)) := by
    refine ⟨prs.map prL, (ps.map ptD).length, ⟨fun z hz x hx => ?_, fun z hz => ?_, ?_, by omega, by rw [List.length_map]; omega⟩, rfl, ?_⟩
    · obtain ⟨p, hp', rfl⟩ := List.mem_map.mp hz
      have := hp p hp'
      unfold prL at hx
      simp only [List.mem_cons, List.not_mem_nil, or_false] at hx
      rw [List.length_map]
      omega
    · obtain ⟨p, hp', rfl⟩ := List.mem_map.mp hz
      have := hp p hp'
      unfold prL
      rw [List.nodup_cons]
      refine ⟨?_, by simp⟩
      rw [List.mem_singleton]
      omega
    · rw [List.length_map]; omega
    · rw [List.map_map]; rfl
  have hr2 : R_rank2 [.p (.list (((c3V cs).map (lrowI prs)).map lI)), iS ((prs.map prD).length : Nat)] (iS (rk (((c3V cs).map (rowI prs)).map vec) : Nat)) := by
    refine ⟨(c3V cs).map (lrowI prs), (prs.map prD).length, ⟨fun z hz x hx => ?_, fun z hz => ?_, ?_, by omega, by rw [List.length_map]; omega⟩, rfl, by rw [rws]⟩
    · obtain ⟨t, ht', rfl⟩ := List.mem_map.mp hz
      have := mem_rgV.mp (List.mem_filter.mp hx).1
      rw [List.length_map]
      omega
    · obtain ⟨t, ht', rfl⟩ := List.mem_map.mp hz
      exact List.Pairwise.filter _ (rgV_nodup _ _)
    · rw [List.length_map]; exact hl3
  refine pxb_seq (pxs_set (n := 10) sc_L_law.nd rfl (by first | exact Or.inl rfl | exact Or.inr rfl) (.inl rfl) (px_tupI (pxi1 (px_call h_L_rank2 (Nat.le_of_ble_eq_true rfl) rfl (pxa_cons (px_lcE (enc := prD) (ts := prs) (cond := fun _ => true) (y := fun p => lI (prL p)) (own := [("_law_pair", 12)]) sc_L_law.nd (src_list (px_var (n := 7) rfl (by first | exact Or.inl rfl | exact Or.inr (Or.inl rfl) | exact Or.inr (Or.inr rfl)) rfl)) rfl (fun _ _ => rfl) (fun p hp => ?_) (by omega) (show lcOut _ _ _ = (prs.map prL).map lI from by rw [lcOut_true, List.map_map]; rfl)) (pxa_cons (px_lenT B.len rfl (px_var (n := 2) rfl (by first | exact Or.inl rfl | exact Or.inr (Or.inl rfl) | exact Or.inr (Or.inr rfl)) rfl) (fun _ => rfl)) pxa_nil (fun _ => rfl)) (fun _ => rfl)) hr1 rfl (fun _ => rfl) (fun _ => rfl)) (pxi1 (px_call h_L_rank2 (Nat.le_of_ble_eq_true rfl) rfl (pxa_cons (px_var (n := 8) rfl (by first | exact Or.inl rfl | exact Or.inr (Or.inl rfl) | exact Or.inr (Or.inr rfl)) rfl) (pxa_cons (px_lenL B.len rfl (px_var (n := 7) rfl (by first | exact Or.inl rfl | exact Or.inr (Or.inl rfl) | exact Or.inr (Or.inr rfl)) rfl) (fun _ => rfl)) pxa_nil (fun _ => rfl)) (fun _ => rfl)) hr2 rfl (fun _ => rfl) (fun _ => rfl)) pxi0 (fun _ => rfl)) (fun _ => rfl))) rfl (fun _ => rfl)) ?_
  · exact ⟨_, _, ⟨(pxg_name (n := 12) sc_L_law.nd rfl (by first | exact Or.inl rfl | exact Or.inr rfl) (by first | exact .inl rfl | exact .inr rfl)), (by decide), pxi_nil, fun hc => (px_listT B.list rfl (px_var (n := 12) rfl (by first | exact Or.inl rfl | exact Or.inr (Or.inl rfl) | exact Or.inr (Or.inr rfl)) rfl) (fun _ => rfl))⟩⟩
  (try conv => arg 3; simp only [slots, wipeD, List.map, List.length, List.append, List.replicate, List.set_cons_zero, List.set_cons_succ, List.cons_append, List.nil_append, Nat.add_sub_cancel])
  
  generalize hA : rk (prs.map pv) = A at *
  generalize hB : rk (((c3V cs).map (rowI prs)).map vec) = Bn at *
  refine pxb_cons (nx1 := fun δ' => δ' = [some (.x (.ref l)), some (.x (.ref a)), some (psS ps), some (.t (tbD (lbornV ps))), some (iS i), some (rS r), some (.p (.list (cs.map tupI))), some (.p (.list (prs.map prD))), some (.p (.list (((c3V cs).map (lrowI prs)).map lI))), o9, some (.p (tupI [(A : Int), (Bn : Int)])), none, none]) (pxs_if (PXW.pt (pxw_or (pxt_not (pxt_val (px_call (s := bS true) h_L_alike (Nat.le_of_ble_eq_true rfl) rfl (pxa_cons (px_call h_ranks_at (Nat.le_of_ble_eq_true rfl) rfl (pxa_cons (px_var (n := 2) rfl (by first | exact Or.inl rfl | exact Or.inr (Or.inl rfl) | exact Or.inr (Or.inr rfl)) rfl) (pxa_cons (px_var (n := 5) rfl (by first | exact Or.inl rfl | exact Or.inr (Or.inl rfl) | exact Or.inr (Or.inr rfl)) rfl) pxa_nil (fun _ => rfl)) (fun _ => rfl)) hra rfl (fun _ => rfl) (fun _ => rfl)) (pxa_cons (px_var (n := 10) rfl (by first | exact Or.inl rfl | exact Or.inr (Or.inl rfl) | exact Or.inr (Or.inr rfl)) rfl) pxa_nil (fun _ => rfl)) (fun _ => rfl)) ⟨A, Bn, rfl, rfl⟩ rfl (fun _ => rfl) (fun _ => rfl)) (fun _ _ => rfl))) (fun _ => pxw_or1 (pxt_cmp (px_neI (px_call h_part_count (Nat.le_of_ble_eq_true rfl) rfl (pxa_cons (px_var (n := 2) rfl (by first | exact Or.inl rfl | exact Or.inr (Or.inl rfl) | exact Or.inr (Or.inr rfl)) rfl) (pxa_cons (px_var (n := 5) rfl (by first | exact Or.inl rfl | exact Or.inr (Or.inl rfl) | exact Or.inr (Or.inr rfl)) rfl) pxa_nil (fun _ => rfl)) (fun _ => rfl)) hpc rfl (fun _ => rfl) (fun _ => rfl)) (px_sub (px_lenT B.len rfl (px_var (n := 2) rfl (by first | exact Or.inl rfl | exact Or.inr (Or.inl rfl) | exact Or.inr (Or.inr rfl)) rfl) (fun _ => rfl)) (px_ixT (px_var (n := 10) rfl (by first | exact Or.inl rfl | exact Or.inr (Or.inl rfl) | exact Or.inr (Or.inr rfl)) rfl) px_int (by first | assumption | rfl) (fun _ _ => rfl)))) (nomark _))))) (fun h => ?_) fun h => pxb_nil rfl) ?_
  · rw [List.length_map, decide_eq_true (by omega)] at h
    cases h
  rintro _ rfl
  refine pxb_one (pxs_if (pxt_cmp (px_neI (px_call h_hole_count (Nat.le_of_ble_eq_true rfl) rfl (pxa_cons (px_var (n := 2) rfl (by first | exact Or.inl rfl | exact Or.inr (Or.inl rfl) | exact Or.inr (Or.inr rfl)) rfl) (pxa_cons (px_var (n := 5) rfl (by first | exact Or.inl rfl | exact Or.inr (Or.inl rfl) | exact Or.inr (Or.inr rfl)) rfl) pxa_nil (fun _ => rfl)) (fun _ => rfl)) hhc rfl (fun _ => rfl) (fun _ => rfl)) (px_sub (px_sub (px_lenL B.len rfl (px_var (n := 7) rfl (by first | exact Or.inl rfl | exact Or.inr (Or.inl rfl) | exact Or.inr (Or.inr rfl)) rfl) (fun _ => rfl)) (px_ixT (px_var (n := 10) rfl (by first | exact Or.inl rfl | exact Or.inr (Or.inl rfl) | exact Or.inr (Or.inr rfl)) rfl) px_int (by first | assumption | rfl) (fun _ _ => rfl))) (px_ixT (px_var (n := 10) rfl (by first | exact Or.inl rfl | exact Or.inr (Or.inl rfl) | exact Or.inr (Or.inr rfl)) rfl) px_int (by first | assumption | rfl) (fun _ _ => rfl)))) (nomark _)) (fun h => ?_) fun h => pxb_nil ⟨_, _, _, _, _, _, rfl⟩)
  rw [List.length_map, decide_eq_true (by omega)] at h
  cases h
end
end M
namespace M
open PySem
/-! ### reduced ratios -/
theorem gcdV_scale (k n d : Int) : gcdV (k * n) (k * d) = (k.natAbs : Int) * gcdV n d := by
  unfold gcdV
  rw [Int.gcd_mul_left]
  rfl
theorem comV_scale {k : Int} (n : Int) {d : Int} (hk : k ≠ 0) (hd : d ≠ 0) : comV (k * n) (k * d) = k * comV n d := by
  unfold comV
  rw [gcdV_scale]
  rcases Int.lt_or_gt_of_ne hk with h | h
  · have e : (k.natAbs : Int) = -k := by omega
    rw [e]
    rcases Int.lt_or_gt_of_ne hd with h2 | h2
    · have := Int.mul_pos_of_neg_of_neg h h2
      rw [if_neg (by omega), if_pos h2, Int.neg_mul, Int.mul_neg]
    · have := Int.mul_neg_of_neg_of_pos h h2
      rw [if_pos this, if_neg (by omega), Int.neg_mul, Int.neg_neg]
  · have e : (k.natAbs : Int) = k := by omega
    rw [e]
    rcases Int.lt_or_gt_of_ne hd with h2 | h2
    · have := Int.mul_neg_of_pos_of_neg h h2
      rw [if_pos this, if_pos h2, Int.mul_neg]
    · have := Int.mul_pos h h2
      rw [if_neg (by omega), if_neg (by omega)]
theorem comV_ne {n d : Int} (h : d ≠ 0) : comV n d ≠ 0 := by
  have := com_ok (n := n) (d := d) h (k := d.natAbs + 1) (by unfold Bd; exact Nat.lt_of_lt_of_le (Nat.lt_succ_self _) (Nat.le_of_lt Nat.lt_two_pow_self))
  exact this.2
theorem fdiv_scale {k n c : Int} (hk : k ≠ 0) (hc : c ≠ 0) (h : c ∣ n) : (k * n).fdiv (k * c) = n.fdiv c := by
  obtain ⟨m, rfl⟩ := h
  rw [← Int.mul_assoc, Int.mul_fdiv_cancel_left _ (Int.mul_ne_zero hk hc), Int.mul_fdiv_cancel_left _ hc]
theorem redV_scale {k n d : Int} (hk : k ≠ 0) (hd : d ≠ 0) : redV (k * n) (k * d) = redV n d := by
  unfold redV
  rw [comV_scale n hk hd, fdiv_scale hk (comV_ne hd) (comV_dvd n d).1, fdiv_scale hk (comV_ne hd) (comV_dvd n d).2]
theorem redV_eq {n d n' d' : Int} (hd : d ≠ 0) (hd' : d' ≠ 0) (h : n * d' = n' * d) : redV n d = redV n' d' := by
  rw [← redV_scale hd' hd, ← redV_scale (n := n') hd hd', Int.mul_comm d' n, h, Int.mul_comm n' d, Int.mul_comm d d']
/-- n / d as redV has it -/
theorem redV_val {n d : Int} (hd : d ≠ 0) : ∃ g : Int, g ≠ 0 ∧ n = g * (redV n d).1 ∧ d = g * (redV n d).2 := by
  refine ⟨comV n d, comV_ne hd, ?_, ?_⟩
  · obtain ⟨m, h⟩ := (comV_dvd n d).1
    unfold redV
    dsimp only
    conv => rhs; rw [h]
    rw [← h]
    generalize comV n d = c at *
    rw [h, Int.mul_comm c m]
    by_cases hc : c = 0
    · rw [hc]; simp
    · rw [Int.mul_fdiv_cancel _ hc, Int.mul_comm]
  · obtain ⟨m, h⟩ := (comV_dvd n d).2
    unfold redV
    dsimp only
    have hc := comV_ne (n := n) hd
    generalize comV n d = c at *
    rw [h, Int.mul_comm c m, Int.mul_fdiv_cancel _ hc, Int.mul_comm]
theorem times_red {n d n' d' : Int} (hd : d ≠ 0) (hd' : d' ≠ 0) : timesV (redV n d) (redV n' d') = redV (n * n') (d * d') := by
  obtain ⟨g, g0, e1, e2⟩ := redV_val (n := n) hd
  obtain ⟨g', g0', e1', e2'⟩ := redV_val (n := n') hd'
  have p := redV_pos (n := n) hd
  have p' := redV_pos (n := n') hd'
  unfold timesV
  generalize redV n d = r at *
  generalize redV n' d' = r' at *
  refine redV_eq (Int.mul_ne_zero (by omega) (by omega)) (Int.mul_ne_zero hd hd') ?_
  rw [e1, e2, e1', e2']
  grind
theorem div_red {n d n' d' : Int} (hd : d ≠ 0) (hd' : d' ≠ 0) (hn' : n' ≠ 0) : redV ((redV n d).1 * (redV n' d').2) ((redV n d).2 * (redV n' d').1 * 4) = redV (n * d') (d * n' * 4) := by
  obtain ⟨g, g0, e1, e2⟩ := redV_val (n := n) hd
  obtain ⟨g', g0', e1', e2'⟩ := redV_val (n := n') hd'
  have p := redV_pos (n := n) hd
  have m := red1_ne (d := d') hn'
  generalize redV n d = r at *
  generalize redV n' d' = r' at *
  refine redV_eq (Int.mul_ne_zero (Int.mul_ne_zero (by omega) m) (by decide)) (Int.mul_ne_zero (Int.mul_ne_zero hd hn') (by decide)) ?_
  rw [e1, e2, e1', e2']
  grind
/-! ### a point in thirds -/
def kk (p : P3) : Int := (3 : Int).fdiv p.2.2
def sX (p : P3) : Int := p.1 * kk p
def sY (p : P3) : Int := p.2.1 * kk p
theorem kk_w {p : P3} (h : GP p) : kk p * p.2.2 = 3 ∧ 0 < kk p := by
  unfold kk
  rcases h.w with e | e <;> (rw [e]; decide)
/-- the area, the product of two sides, the circle -/
def dD (ax ay bx b_y cx cy : Int) : Int := (bx - ax) * (cy - ay) - (cx - ax) * (b_y - ay)
def dt (ax ay bx b_y px py : Int) : Int := (ax - px) * (bx - px) + (ay - py) * (b_y - py)
def dM (ax ay bx b_y cx cy dx dy : Int) : Int :=
  let x1 := ax - dx; let y1 := ay - dy; let x2 := bx - dx; let y2 := b_y - dy; let x3 := cx - dx; let y3 := cy - dy
  x1 * (y2 * (x3 * x3 + y3 * y3) - (x2 * x2 + y2 * y2) * y3) - y1 * (x2 * (x3 * x3 + y3 * y3) - (x2 * x2 + y2 * y2) * x3) + (x1 * x1 + y1 * y1) * (x2 * y3 - y2 * x3)
def D3 (a b c : P3) : Int := dD (sX a) (sY a) (sX b) (sY b) (sX c) (sY c)
def T3 (a b p : P3) : Int := dt (sX a) (sY a) (sX b) (sY b) (sX p) (sY p)
def M4 (a b c d : P3) : Int := dM (sX a) (sY a) (sX b) (sY b) (sX c) (sY c) (sX d) (sY d)
theorem lsign_eq (n : Int) : lsignV n = signV n := by
  unfold lsignV signV bV
  by_cases h1 : 0 < n
  · have h2 : ¬ n < 0 := by omega
    simp [h1, h2]
  · by_cases h2 : n < 0
    · simp [h1, h2]
    · simp [h1, h2]
theorem sign_pos {n : Int} (h : 0 < n) : signV n = 1 := by
  have h2 : ¬ n < 0 := by omega
  unfold signV bV; simp [h, h2]
theorem sign_neg {n : Int} (h : n < 0) : signV n = -1 := by
  have h2 : ¬ 0 < n := by omega
  unfold signV bV; simp [h, h2]
theorem sign_zero : signV 0 = 0 := by decide
theorem sign_scale {k m : Int} {n n' : Int} (hk : 0 < k) (hm : 0 < m) (h : k * n = m * n') : signV n = signV n' := by
  rcases Int.lt_trichotomy n 0 with c | c | c
  · have h1 := Int.mul_neg_of_pos_of_neg hk c
    have : n' < 0 := by
      rcases Int.lt_trichotomy n' 0 with z | z | z
      · exact z
      · rw [z] at h; simp at h; omega
      · have := Int.mul_pos hm z; omega
    rw [sign_neg c, sign_neg this]
  · rw [c, Int.mul_zero] at h
    have : n' = 0 := by
      have := Int.mul_eq_zero.mp h.symm
      omega
    rw [c, this]
  · have h1 := Int.mul_pos hk c
    have : 0 < n' := by
      rcases Int.lt_trichotomy n' 0 with z | z | z
      · have := Int.mul_neg_of_pos_of_neg hm z; omega
      · rw [z] at h; simp at h; omega
      · exact z
    rw [sign_pos c, sign_pos this]
theorem turn_sign {a b c : P3} (ha : GP a) (hb : GP b) (hc : GP c) : turnV a b c = signV (D3 a b c) := by
  obtain ⟨ka, pa⟩ := kk_w ha
  obtain ⟨kb, pb⟩ := kk_w hb
  obtain ⟨kc, pc⟩ := kk_w hc
  unfold turnV D3 dD sX sY doubledV
  refine sign_scale (k := kk a * kk b * kk c) (m := 3) (Int.mul_pos (Int.mul_pos pa pb) pc) (by decide) ?_
  generalize kk a = u at *
  generalize kk b = v at *
  generalize kk c = w at *
  obtain ⟨ax, ay, aw⟩ := a
  obtain ⟨bx, b_y, bw⟩ := b
  obtain ⟨cx, cy, cw⟩ := c
  dsimp only at *
  grind
theorem lturn_sign {a b c : P3} (ha : GP a) (hb : GP b) (hc : GP c) : lturnV a b c = signV (D3 a b c) := by
  unfold lturnV
  rw [lsign_eq, ldoubled_eq ha.w0]
  exact turn_sign ha hb hc
theorem diam_sum {a b p : P3} (ha : GP a) (hb : GP b) (hp : GP p) : (kk a * kk b * kk p * kk p) * (diamX a b p + diamY a b p) = 9 * T3 a b p := by
  obtain ⟨ka, pa⟩ := kk_w ha
  obtain ⟨kb, pb⟩ := kk_w hb
  obtain ⟨kp, pp⟩ := kk_w hp
  unfold diamX diamY T3 dt sX sY
  generalize kk a = u at *
  generalize kk b = v at *
  generalize kk p = w at *
  obtain ⟨ax, ay, aw⟩ := a
  obtain ⟨bx, b_y, bw⟩ := b
  obtain ⟨cx, cy, cw⟩ := p
  dsimp only at *
  have e1 : u * w * (ax * cw - cx * aw) = 3 * (ax * u - cx * w) := by grind
  have e2 : v * w * (bx * cw - cx * bw) = 3 * (bx * v - cx * w) := by grind
  have e3 : u * w * (ay * cw - cy * aw) = 3 * (ay * u - cy * w) := by grind
  have e4 : v * w * (b_y * cw - cy * bw) = 3 * (b_y * v - cy * w) := by grind
  have f1 : (u * w * (ax * cw - cx * aw)) * (v * w * (bx * cw - cx * bw)) = 9 * ((ax * u - cx * w) * (bx * v - cx * w)) := by rw [e1, e2]; grind
  have f2 : (u * w * (ay * cw - cy * aw)) * (v * w * (b_y * cw - cy * bw)) = 9 * ((ay * u - cy * w) * (b_y * v - cy * w)) := by rw [e3, e4]; grind
  grind
theorem diam_sign {a b p : P3} (ha : GP a) (hb : GP b) (hp : GP p) : inDiamV a b p = - signV (T3 a b p) := by
  have pa := (kk_w ha).2
  have pb := (kk_w hb).2
  have pp := (kk_w hp).2
  have h := sign_scale (Int.mul_pos (Int.mul_pos (Int.mul_pos pa pb) pp) pp) (by decide) (diam_sum ha hb hp)
  rw [← h]
  unfold inDiamV signV
  omega
theorem ldiam_sign {a b p : P3} (ha : GP a) (hb : GP b) (hp : GP p) : lDiamV a b p = - signV (T3 a b p) := by
  rw [← diam_sign ha hb hp]
  unfold lDiamV inDiamV
  rw [lsign_eq]
  unfold signV
  omega
theorem minor_scale {a b c : P3} (s1 s2 s3 t1 t2 t3 : Int) (x1 y1 x2 y2 x3 y3 : Int) (h1 : a = (s1 * x1, s1 * y1, t1 * (x1 * x1 + y1 * y1))) (h2 : b = (s2 * x2, s2 * y2, t2 * (x2 * x2 + y2 * y2))) (h3 : c = (s3 * x3, s3 * y3, t3 * (x3 * x3 + y3 * y3)))
    (k : Int) (e1 : s1 * s2 * t3 = k) (e2 : s1 * s3 * t2 = k) (e3 : s2 * s3 * t1 = k) :
    minorV a b c = k * (x1 * (y2 * (x3 * x3 + y3 * y3) - (x2 * x2 + y2 * y2) * y3) - y1 * (x2 * (x3 * x3 + y3 * y3) - (x2 * x2 + y2 * y2) * x3) + (x1 * x1 + y1 * y1) * (x2 * y3 - y2 * x3)) := by
  subst h1 h2 h3
  unfold minorV
  dsimp only
  generalize x1 * x1 + y1 * y1 = q1
  generalize x2 * x2 + y2 * y2 = q2
  generalize x3 * x3 + y3 * y3 = q3
  have : s1 * x1 * (s2 * y2 * (t3 * q3) - t2 * q2 * (s3 * y3)) - s1 * y1 * (s2 * x2 * (t3 * q3) - t2 * q2 * (s3 * x3)) + t1 * q1 * (s2 * x2 * (s3 * y3) - s2 * y2 * (s3 * x3))
      = (s1 * s2 * t3) * (x1 * y2 * q3 - y1 * x2 * q3) - (s1 * s3 * t2) * (x1 * q2 * y3 - y1 * q2 * x3) + (s2 * s3 * t1) * (q1 * (x2 * y3 - y2 * x3)) := by grind
  rw [this, e1, e2, e3]
  grind
end M
namespace M
open PySem
theorem minor_mul (m1 m2 m3 : Int) (a b c : P3) : minorV (m1 * a.1, m1 * a.2.1, m1 * a.2.2) (m2 * b.1, m2 * b.2.1, m2 * b.2.2) (m3 * c.1, m3 * c.2.1, m3 * c.2.2) = m1 * m2 * m3 * minorV a b c := by
  obtain ⟨ax, ay, aw⟩ := a
  obtain ⟨bx, b_y, bw⟩ := b
  obtain ⟨cx, cy, cw⟩ := c
  unfold minorV
  dsimp only
  grind
theorem M4_eq (a b c d : P3) : M4 a b c d = (sX a - sX d) * ((sY b - sY d) * ((sX c - sX d) * (sX c - sX d) + (sY c - sY d) * (sY c - sY d)) - ((sX b - sX d) * (sX b - sX d) + (sY b - sY d) * (sY b - sY d)) * (sY c - sY d)) - (sY a - sY d) * ((sX b - sX d) * ((sX c - sX d) * (sX c - sX d) + (sY c - sY d) * (sY c - sY d)) - ((sX b - sX d) * (sX b - sX d) + (sY b - sY d) * (sY b - sY d)) * (sX c - sX d)) + ((sX a - sX d) * (sX a - sX d) + (sY a - sY d) * (sY a - sY d)) * ((sX b - sX d) * (sY c - sY d) - (sY b - sY d) * (sX c - sX d)) := rfl
/-- the law's row -/
theorem lrow_eq {p d : P3} (hp : GP p) (hd : GP d) : let m := kk p * kk d * (kk p * kk d)
    0 < m ∧ (m * (lrowV d p).1, m * (lrowV d p).2.1, m * (lrowV d p).2.2) = (27 * (sX p - sX d), 27 * (sY p - sY d), 9 * ((sX p - sX d) * (sX p - sX d) + (sY p - sY d) * (sY p - sY d))) := by
  obtain ⟨kp, pp⟩ := kk_w hp
  obtain ⟨kd, pd⟩ := kk_w hd
  unfold lrowV sX sY
  generalize kk p = u at *
  generalize kk d = v at *
  obtain ⟨ax, ay, aw⟩ := p
  obtain ⟨dx, dy, dw⟩ := d
  dsimp only at *
  refine ⟨Int.mul_pos (Int.mul_pos pp pd) (Int.mul_pos pp pd), ?_⟩
  have e1 : u * v * (ax * dw - dx * aw) = 3 * (ax * u - dx * v) := by grind
  have e2 : u * v * (ay * dw - dy * aw) = 3 * (ay * u - dy * v) := by grind
  have e3 : u * v * (aw * dw) = 9 := by grind
  have f1 : u * v * (u * v) * ((ax * dw - dx * aw) * (aw * dw)) = 27 * (ax * u - dx * v) := by
    have : u * v * (u * v) * ((ax * dw - dx * aw) * (aw * dw)) = (u * v * (ax * dw - dx * aw)) * (u * v * (aw * dw)) := by grind
    rw [this, e1, e3]; grind
  have f2 : u * v * (u * v) * ((ay * dw - dy * aw) * (aw * dw)) = 27 * (ay * u - dy * v) := by
    have : u * v * (u * v) * ((ay * dw - dy * aw) * (aw * dw)) = (u * v * (ay * dw - dy * aw)) * (u * v * (aw * dw)) := by grind
    rw [this, e2, e3]; grind
  have f3 : u * v * (u * v) * ((ax * dw - dx * aw) * (ax * dw - dx * aw) + (ay * dw - dy * aw) * (ay * dw - dy * aw)) = 9 * ((ax * u - dx * v) * (ax * u - dx * v) + (ay * u - dy * v) * (ay * u - dy * v)) := by
    have : u * v * (u * v) * ((ax * dw - dx * aw) * (ax * dw - dx * aw) + (ay * dw - dy * aw) * (ay * dw - dy * aw)) = (u * v * (ax * dw - dx * aw)) * (u * v * (ax * dw - dx * aw)) + (u * v * (ay * dw - dy * aw)) * (u * v * (ay * dw - dy * aw)) := by grind
    rw [this, e1, e2]; grind
  rw [f1, f2, f3]
theorem minor_q (s t x1 y1 q1 x2 y2 q2 x3 y3 q3 : Int) : minorV (s * x1, s * y1, t * q1) (s * x2, s * y2, t * q2) (s * x3, s * y3, t * q3) = s * s * t * (x1 * (y2 * q3 - q2 * y3) - y1 * (x2 * q3 - q2 * x3) + q1 * (x2 * y3 - y2 * x3)) := by
  unfold minorV
  dsimp only
  grind
theorem lcirc_sign {a b c d : P3} (ha : GP a) (hb : GP b) (hc : GP c) (hd : GP d) : lcircV a b c d = signV (M4 a b c d) * signV (D3 a b c) := by
  unfold lcircV
  rw [lturn_sign ha hb hc, lsign_eq]
  congr 1
  obtain ⟨p1, r1⟩ := lrow_eq ha hd
  obtain ⟨p2, r2⟩ := lrow_eq hb hd
  obtain ⟨p3, r3⟩ := lrow_eq hc hd
  refine sign_scale (Int.mul_pos (Int.mul_pos p1 p2) p3) (show 0 < (27 : Int) * 27 * 9 by decide) ?_
  rw [← minor_mul, r1, r2, r3, minor_q, M4_eq]
theorem row_eq {W : Int} {p d : P3} (hp : GP p) (hd : GP d) (dp : p.2.2 ∣ W) (dd : d.2.2 ∣ W) :
    (9 * (rowV W d p).1, 9 * (rowV W d p).2.1, 9 * (rowV W d p).2.2) = (3 * W * (sX p - sX d), 3 * W * (sY p - sY d), W * W * ((sX p - sX d) * (sX p - sX d) + (sY p - sY d) * (sY p - sY d))) := by
  obtain ⟨kp, pp⟩ := kk_w hp
  obtain ⟨kd, pd⟩ := kk_w hd
  have ep := fdiv_mul dp hp.w0
  have ed := fdiv_mul dd hd.w0
  have p0 := hp.w0
  have d0 := hd.w0
  unfold rowV scaleV sX sY
  obtain ⟨ax, ay, aw⟩ := p
  obtain ⟨dx, dy, dw⟩ := d
  dsimp only at *
  generalize W.fdiv aw = k1 at *
  generalize W.fdiv dw = k2 at *
  generalize kk (ax, ay, aw) = u at *
  generalize kk (dx, dy, dw) = v at *
  have h1 : 3 * k1 = W * u := by
    have : aw * (3 * k1) = aw * (W * u) := by grind
    exact Int.eq_of_mul_eq_mul_left p0 this
  have h2 : 3 * k2 = W * v := by
    have : dw * (3 * k2) = dw * (W * v) := by grind
    exact Int.eq_of_mul_eq_mul_left d0 this
  have e1 : 3 * (ax * k1 - dx * k2) = W * (ax * u - dx * v) := by grind
  have e2 : 3 * (ay * k1 - dy * k2) = W * (ay * u - dy * v) := by grind
  have f1 : 9 * (ax * k1 - dx * k2) = 3 * W * (ax * u - dx * v) := by grind
  have f2 : 9 * (ay * k1 - dy * k2) = 3 * W * (ay * u - dy * v) := by grind
  have f3 : 9 * ((ax * k1 - dx * k2) * (ax * k1 - dx * k2) + (ay * k1 - dy * k2) * (ay * k1 - dy * k2)) = W * W * ((ax * u - dx * v) * (ax * u - dx * v) + (ay * u - dy * v) * (ay * u - dy * v)) := by
    have : 9 * ((ax * k1 - dx * k2) * (ax * k1 - dx * k2) + (ay * k1 - dy * k2) * (ay * k1 - dy * k2)) = (3 * (ax * k1 - dx * k2)) * (3 * (ax * k1 - dx * k2)) + (3 * (ay * k1 - dy * k2)) * (3 * (ay * k1 - dy * k2)) := by grind
    rw [this, e1, e2]; grind
  rw [f1, f2, f3]
theorem side_sign {a b c d : P3} (ha : GP a) (hb : GP b) (hc : GP c) (hd : GP d) : sideV a b c d = signV (M4 a b c d) * signV (D3 a b c) := by
  have hall : ∀ p ∈ [a, b, c, d], GP p := by intro p hp; simp only [List.mem_cons, List.not_mem_nil, or_false] at hp; rcases hp with e | e | e | e <;> (rw [e]; assumption)
  have h13 := weight_13 _ hall
  have hdv := weight_dvd _ hall
  unfold sideV
  rw [turn_sign ha hb hc]
  dsimp only
  generalize weightV [a, b, c, d] = W at *
  have pW : 0 < W := by omega
  congr 1
  have r1 := row_eq ha hd (hdv a (by simp)) (hdv d (by simp))
  have r2 := row_eq hb hd (hdv b (by simp)) (hdv d (by simp))
  have r3 := row_eq hc hd (hdv c (by simp)) (hdv d (by simp))
  have p3 : 0 < 3 * W := by omega
  refine sign_scale (show 0 < (9 : Int) * 9 * 9 by decide) (Int.mul_pos (Int.mul_pos p3 p3) (Int.mul_pos pW pW)) ?_
  rw [← minor_mul, r1, r2, r3, minor_q, M4_eq]
theorem circ_side {a b c d : P3} (ha : GP a) (hb : GP b) (hc : GP c) (hd : GP d) : sideV a b c d = lcircV a b c d := by rw [side_sign ha hb hc hd, lcirc_sign ha hb hc hd]
theorem diam_ldiam {a b p : P3} (ha : GP a) (hb : GP b) (hp : GP p) : inDiamV a b p = lDiamV a b p := by rw [diam_sign ha hb hp, ldiam_sign ha hb hp]
theorem far_lfar (a b : P3) : far2V a b = lfar2V a b := by
  unfold far2V lfar2V farX farY farW
  dsimp only
  rw [show a.2.2 * b.2.2 * (a.2.2 * b.2.2) = a.2.2 * a.2.2 * b.2.2 * b.2.2 by grind]
/-! ### the two births of a triple -/
def dd2 (W : Int) (a b : P3) : Int := ((scaleV W a).1 - (scaleV W b).1) * ((scaleV W a).1 - (scaleV W b).1) + ((scaleV W a).2 - (scaleV W b).2) * ((scaleV W a).2 - (scaleV W b).2)
def cr2 (W : Int) (a b c : P3) : Int := ((scaleV W a).1 - (scaleV W c).1) * ((scaleV W b).2 - (scaleV W c).2) - ((scaleV W b).1 - (scaleV W c).1) * ((scaleV W a).2 - (scaleV W c).2)
theorem scale_w {W : Int} {p : P3} (hp : GP p) (dp : p.2.2 ∣ W) : (scaleV W p).1 * p.2.2 = p.1 * W ∧ (scaleV W p).2 * p.2.2 = p.2.1 * W := by
  have e := fdiv_mul dp hp.w0
  unfold scaleV
  dsimp only
  constructor
  · rw [Int.mul_assoc, e]
  · rw [Int.mul_assoc, e]
theorem lfar_red {W : Int} {a b : P3} (ha : GP a) (hb : GP b) (da : a.2.2 ∣ W) (db : b.2.2 ∣ W) (hW : W ≠ 0) : lfar2V a b = redV (dd2 W a b) (W * W) := by
  obtain ⟨a1, a2⟩ := scale_w ha da
  obtain ⟨b1, b2⟩ := scale_w hb db
  have a0 := ha.w0
  have b0 := hb.w0
  unfold lfar2V dd2
  dsimp only
  refine redV_eq (Int.mul_ne_zero (Int.mul_ne_zero (Int.mul_ne_zero a0 a0) b0) b0) (Int.mul_ne_zero hW hW) ?_
  generalize scaleV W a = A at *
  generalize scaleV W b = B at *
  obtain ⟨ax, ay, aw⟩ := a
  obtain ⟨bx, b_y, bw⟩ := b
  obtain ⟨X, Y⟩ := A
  obtain ⟨Z, U⟩ := B
  dsimp only at *
  have e1 : (ax * bw - bx * aw) * W = (X - Z) * (aw * bw) := by grind
  have e2 : (ay * bw - b_y * aw) * W = (Y - U) * (aw * bw) := by grind
  have : ((ax * bw - bx * aw) * (ax * bw - bx * aw) + (ay * bw - b_y * aw) * (ay * bw - b_y * aw)) * (W * W) = ((ax * bw - bx * aw) * W) * ((ax * bw - bx * aw) * W) + ((ay * bw - b_y * aw) * W) * ((ay * bw - b_y * aw) * W) := by grind
  rw [this, e1, e2]
  grind
theorem area_red {W : Int} {a b c : P3} (ha : GP a) (hb : GP b) (hc : GP c) (da : a.2.2 ∣ W) (db : b.2.2 ∣ W) (dc : c.2.2 ∣ W) (hW : W ≠ 0) : larea2V a b c = redV (cr2 W a b c) (W * W) := by
  obtain ⟨a1, a2⟩ := scale_w ha da
  obtain ⟨b1, b2⟩ := scale_w hb db
  obtain ⟨c1, c2⟩ := scale_w hc dc
  have a0 := ha.w0
  have b0 := hb.w0
  have c0 := hc.w0
  unfold larea2V
  rw [ldoubled_eq a0]
  refine redV_eq (Int.mul_ne_zero (Int.mul_ne_zero a0 b0) c0) (Int.mul_ne_zero hW hW) ?_
  unfold cr2 doubledV
  generalize scaleV W a = A at *
  generalize scaleV W b = B at *
  generalize scaleV W c = C at *
  obtain ⟨ax, ay, aw⟩ := a
  obtain ⟨bx, b_y, bw⟩ := b
  obtain ⟨cx, cy, cw⟩ := c
  obtain ⟨X, Y⟩ := A
  obtain ⟨Z, U⟩ := B
  obtain ⟨S, T⟩ := C
  dsimp only at *
  have t1 : (ax * (b_y * cw - cy * bw)) * (W * W) = X * aw * (U * bw * cw - T * cw * bw) := by
    have : (ax * (b_y * cw - cy * bw)) * (W * W) = (ax * W) * ((b_y * W) * cw - (cy * W) * bw) := by grind
    rw [this, ← a1, ← b2, ← c2]
  have t2 : (ay * (bx * cw - cx * bw)) * (W * W) = Y * aw * (Z * bw * cw - S * cw * bw) := by
    have : (ay * (bx * cw - cx * bw)) * (W * W) = (ay * W) * ((bx * W) * cw - (cx * W) * bw) := by grind
    rw [this, ← a2, ← b1, ← c1]
  have t3 : (aw * (bx * cy - cx * b_y)) * (W * W) = aw * ((Z * bw) * (T * cw) - (S * cw) * (U * bw)) := by
    have : (aw * (bx * cy - cx * b_y)) * (W * W) = aw * ((bx * W) * (cy * W) - (cx * W) * (b_y * W)) := by grind
    rw [this, ← b1, ← c2, ← c1, ← b2]
  have : (ax * (b_y * cw - cy * bw) - ay * (bx * cw - cx * bw) + aw * (bx * cy - cx * b_y)) * (W * W) = (ax * (b_y * cw - cy * bw)) * (W * W) - (ay * (bx * cw - cx * bw)) * (W * W) + (aw * (bx * cy - cx * b_y)) * (W * W) := by grind
  rw [this, t1, t2, t3]
  grind
theorem lbirth_red {W : Int} {a b c : P3} (ha : GP a) (hb : GP b) (hc : GP c) (da : a.2.2 ∣ W) (db : b.2.2 ∣ W) (dc : c.2.2 ∣ W) (hW : W ≠ 0) (hn : cr2 W a b c ≠ 0) :
    lbirth3 a b c = redV (dd2 W a b * dd2 W b c * dd2 W c a) (4 * (cr2 W a b c * cr2 W a b c) * (W * W)) := by
  have w2 := Int.mul_ne_zero hW hW
  have w4 := Int.mul_ne_zero w2 w2
  have w6 := Int.mul_ne_zero w4 w2
  have n2 := Int.mul_ne_zero hn hn
  unfold lbirth3
  dsimp only
  rw [lfar_red ha hb da db hW, lfar_red hb hc db dc hW, lfar_red hc ha dc da hW, area_red ha hb hc da db dc hW, times_red w2 w2, times_red w4 w2, times_red w2 w2, div_red w6 w4 n2]
  refine redV_eq (Int.mul_ne_zero (Int.mul_ne_zero w6 n2) (by decide)) (Int.mul_ne_zero (Int.mul_ne_zero (by decide) n2) w2) ?_
  grind
end M
namespace M
open PySem
theorem circum (x y p q : Int) :
    let f := x * x + y * y
    let s := p * p + q * q
    let bo := 2 * (x * q - p * y)
    (f * q - s * y - x * bo) * (f * q - s * y - x * bo) + (s * x - f * p - y * bo) * (s * x - f * p - y * bo) = ((x - p) * (x - p) + (y - q) * (y - q)) * s * f := by
  dsimp only
  grind
theorem lowest_val {x y w : Int} (h : w ≠ 0) : ∃ g : Int, g ≠ 0 ∧ x = g * (lowestV x y w).1 ∧ y = g * (lowestV x y w).2.1 ∧ w = g * (lowestV x y w).2.2 := by
  obtain ⟨d1, d2, d3⟩ := com3_dvd x y w
  have hc := (com3_ok (x := x) (y := y) h (k := w.natAbs + 1) (by unfold Bd; exact Nat.lt_of_lt_of_le (Nat.lt_succ_self _) (Nat.le_of_lt Nat.lt_two_pow_self))).2
  unfold lowestV
  dsimp only
  generalize com3 x y w = c at *
  refine ⟨c, hc, ?_, ?_, ?_⟩
  · obtain ⟨m, rfl⟩ := d1; rw [Int.mul_fdiv_cancel_left _ hc]
  · obtain ⟨m, rfl⟩ := d2; rw [Int.mul_fdiv_cancel_left _ hc]
  · obtain ⟨m, rfl⟩ := d3; rw [Int.mul_fdiv_cancel_left _ hc]
theorem birth_red {a b c : P3} (ha : GP a) (hb : GP b) (hc : GP c) (hn : cr2 (weightV [a, b, c]) a b c ≠ 0) :
    birth3 a b c = redV (dd2 (weightV [a, b, c]) a b * dd2 (weightV [a, b, c]) b c * dd2 (weightV [a, b, c]) c a) (4 * (cr2 (weightV [a, b, c]) a b c * cr2 (weightV [a, b, c]) a b c) * (weightV [a, b, c] * weightV [a, b, c])) := by
  have hall : ∀ p ∈ [a, b, c], GP p := by intro p hp; simp only [List.mem_cons, List.not_mem_nil, or_false] at hp; rcases hp with e | e | e <;> (rw [e]; assumption)
  have h13 := weight_13 _ hall
  have da := weight_dvd _ hall a (by simp)
  obtain ⟨a1, a2⟩ := scale_w ha da
  have a0 := ha.w0
  unfold birth3
  dsimp only [centerV]
  unfold cr2 at hn ⊢
  unfold dd2
  generalize weightV [a, b, c] = W at *
  have hW : W ≠ 0 := by rcases h13 with e | e <;> (rw [e]; decide)
  generalize scaleV W a = A at *
  generalize scaleV W b = B at *
  generalize scaleV W c = C at *
  obtain ⟨ax, ay, aw⟩ := a
  obtain ⟨X, Y⟩ := A
  obtain ⟨Z, U⟩ := B
  obtain ⟨S, T⟩ := C
  dsimp only at *
  have n3 : 2 * ((X - S) * (U - T) - (Z - S) * (Y - T)) * W ≠ 0 := Int.mul_ne_zero (Int.mul_ne_zero (by decide) hn) hW
  have key := circum (X - S) (Y - T) (Z - S) (U - T)
  dsimp only at key
  generalize hr : ((X - S) * (X - S) + (Y - T) * (Y - T)) * (U - T) - ((Z - S) * (Z - S) + (U - T) * (U - T)) * (Y - T) = ri at *
  generalize hu : ((Z - S) * (Z - S) + (U - T) * (U - T)) * (X - S) - ((X - S) * (X - S) + (Y - T) * (Y - T)) * (Z - S) = up at *
  generalize hb2 : 2 * ((X - S) * (U - T) - (Z - S) * (Y - T)) = bo at *
  obtain ⟨g, g0, e1, e2, e3⟩ := lowest_val (x := S * bo + ri) (y := T * bo + up) n3
  have l0 := lowest_ne (x := S * bo + ri) (y := T * bo + up) n3
  generalize lowestV (S * bo + ri) (T * bo + up) (bo * W) = L at *
  obtain ⟨l1, l2, l3⟩ := L
  unfold far2V farX farY farW
  dsimp only at *
  have m0 : l3 * aw ≠ 0 := Int.mul_ne_zero l0 a0
  have c0 : (X - S) * (U - T) - (Z - S) * (Y - T) ≠ 0 := hn
  refine redV_eq (Int.mul_ne_zero m0 m0) (Int.mul_ne_zero (Int.mul_ne_zero (by decide) (Int.mul_ne_zero c0 c0)) (Int.mul_ne_zero hW hW)) ?_
  have f1 : g * (l1 * aw - ax * l3) = aw * (ri - (X - S) * bo) := by
    have : g * (l1 * aw - ax * l3) = (g * l1) * aw - ax * (g * l3) := by grind
    rw [this, ← e1, ← e3]
    grind
  have f2 : g * (l2 * aw - ay * l3) = aw * (up - (Y - T) * bo) := by
    have : g * (l2 * aw - ay * l3) = (g * l2) * aw - ay * (g * l3) := by grind
    rw [this, ← e2, ← e3]
    grind
  have f3 : g * (l3 * aw) = aw * (bo * W) := by rw [← Int.mul_assoc, ← e3, Int.mul_comm]
  have q1 : (g * g) * ((l1 * aw - ax * l3) * (l1 * aw - ax * l3) + (l2 * aw - ay * l3) * (l2 * aw - ay * l3)) = aw * aw * (((X - S - (Z - S)) * (X - S - (Z - S)) + (Y - T - (U - T)) * (Y - T - (U - T))) * ((Z - S) * (Z - S) + (U - T) * (U - T)) * ((X - S) * (X - S) + (Y - T) * (Y - T))) := by
    rw [← key]
    have : (g * g) * ((l1 * aw - ax * l3) * (l1 * aw - ax * l3) + (l2 * aw - ay * l3) * (l2 * aw - ay * l3)) = (g * (l1 * aw - ax * l3)) * (g * (l1 * aw - ax * l3)) + (g * (l2 * aw - ay * l3)) * (g * (l2 * aw - ay * l3)) := by grind
    rw [this, f1, f2]
    grind
  have q2 : (g * g) * (l3 * aw * (l3 * aw)) = aw * aw * (bo * W * (bo * W)) := by
    have : (g * g) * (l3 * aw * (l3 * aw)) = (g * (l3 * aw)) * (g * (l3 * aw)) := by grind
    rw [this, f3]
    grind
  have gg : g * g ≠ 0 := Int.mul_ne_zero g0 g0
  apply Int.eq_of_mul_eq_mul_left gg
  rw [← Int.mul_assoc, q1, Int.mul_left_comm (g * g), q2, ← hb2]
  have sy : (X - Z) * (X - Z) + (Y - U) * (Y - U) = (X - S - (Z - S)) * (X - S - (Z - S)) + (Y - T - (U - T)) * (Y - T - (U - T)) := by
    rw [show X - S - (Z - S) = X - Z by omega, show Y - T - (U - T) = Y - U by omega]
  have sz : (S - X) * (S - X) + (T - Y) * (T - Y) = (X - S) * (X - S) + (Y - T) * (Y - T) := by
    rw [show S - X = -(X - S) by omega, show T - Y = -(Y - T) by omega, Int.neg_mul_neg, Int.neg_mul_neg]
  rw [sy, sz]
  generalize (X - S - (Z - S)) * (X - S - (Z - S)) + (Y - T - (U - T)) * (Y - T - (U - T)) = p1
  generalize (Z - S) * (Z - S) + (U - T) * (U - T) = p2
  generalize (X - S) * (X - S) + (Y - T) * (Y - T) = p3
  generalize (X - S) * (U - T) - (Z - S) * (Y - T) = p4
  grind
theorem cr2_ne {a b c : P3} (ha : GP a) (hb : GP b) (hc : GP c) (hn : doubledV a b c ≠ 0) : cr2 (weightV [a, b, c]) a b c ≠ 0 := center_nz ha hb hc hn
theorem birth_eq {a b c : P3} (ha : GP a) (hb : GP b) (hc : GP c) (hn : doubledV a b c ≠ 0) : birth3 a b c = lbirth3 a b c := by
  have hall : ∀ p ∈ [a, b, c], GP p := by intro p hp; simp only [List.mem_cons, List.not_mem_nil, or_false] at hp; rcases hp with e | e | e <;> (rw [e]; assumption)
  have h13 := weight_13 _ hall
  have hd := weight_dvd _ hall
  have hc2 := cr2_ne ha hb hc hn
  rw [birth_red ha hb hc hc2, lbirth_red ha hb hc (hd a (by simp)) (hd b (by simp)) (hd c (by simp)) (by rcases h13 with e | e <;> (rw [e]; decide)) hc2]
/-- the two tables are one -/
theorem filter_congr' {α : Type} {p q : α → Bool} {l : List α} (h : ∀ x ∈ l, p x = q x) : l.filter p = l.filter q := by
  induction l with
  | nil => rfl
  | cons a l ih =>
    rw [List.filter_cons, List.filter_cons, h a List.mem_cons_self, ih fun x hx => h x (List.mem_cons_of_mem _ hx)]
theorem tris_same {ps : List P3} (g : Gen ps) : trisG sideV ps = trisG lcircV ps := by
  unfold trisG
  apply filter_congr'
  intro t ht
  have hm := mem_triplesV.mp ht
  have g1 := g.gg hm.1 (by omega)
  have g2 := g.gg (i := t.2.1) (by omega) (by omega)
  have g3 := g.gg (i := t.2.2) (by omega) (by omega)
  unfold emptyG
  congr 1
  apply filter_congr'
  intro p hp
  rw [circ_side g1 g2 g3 (g.gp p (mem_othersV hp))]
theorem same_table {ps : List P3} (g : Gen ps) : bornV ps = lbornV ps := by
  unfold bornV lbornV bornG
  rw [tris_same g]
  have hb : ∀ t ∈ trisG lcircV ps, b3G birth3 ps t = b3G lbirth3 ps t := by
    intro t ht
    have hm := mem_triplesV.mp (trisG_sub ht)
    exact birth_eq (g.gg hm.1 (by omega)) (g.gg (by omega) (by omega)) (g.gg (by omega) (by omega)) (doubled_ne (g.turn t.1 t.2.1 t.2.2 hm.1 hm.2.1 hm.2.2.1 hm.2.2.2))
  congr 1
  · congr 1
    apply List.map_congr_left
    intro t ht
    rw [hb t ht]
  · apply List.map_congr_left
    intro p hp
    have hm := mem_pairsV.mp (List.mem_filter.mp hp).1
    have g1 := g.gg hm.1 (by omega)
    have g2 := g.gg (i := p.2) (by omega) (by omega)
    unfold b2G
    have hf : freeG inDiamV ps p = freeG lDiamV ps p := by
      unfold freeG
      congr 1
      apply filter_congr'
      intro q hq
      rw [diam_ldiam g1 g2 (g.gp q (mem_othersV hq))]
    have ha : (aroundV (trisG lcircV ps) p).map (b3G birth3 ps) = (aroundV (trisG lcircV ps) p).map (b3G lbirth3 ps) := by
      apply List.map_congr_left
      intro t ht
      exact hb t (List.mem_filter.mp ht).1
    rw [hf, ha, far_lfar]
end M
namespace M
open PySem
/-! ### the law's points lie in general position -/
theorem sign_ne {n : Int} (h : n ≠ 0) : signV n ≠ 0 := by
  rcases Int.lt_or_gt_of_ne h with c | c
  · rw [sign_neg c]; decide
  · rw [sign_pos c]; decide
theorem ne_sign {n : Int} (h : signV n ≠ 0) : n ≠ 0 := by
  rintro rfl
  exact h sign_zero
theorem gcd3 (a : Int) : gcdV a 3 = 1 ∨ gcdV a 3 = 3 := by
  unfold gcdV
  have h1 : Int.gcd a 3 ∣ 3 := Nat.gcd_dvd_right _ _
  have h2 := Nat.le_of_dvd (by decide) h1
  generalize Int.gcd a 3 = g at *
  have h3 : g = 0 ∨ g = 1 ∨ g = 2 ∨ g = 3 := by omega
  rcases h3 with rfl | rfl | rfl | rfl
  · obtain ⟨k, hk⟩ := h1; omega
  · exact .inl rfl
  · obtain ⟨k, hk⟩ := h1; omega
  · exact .inr rfl
theorem gcdV_one (a : Int) : gcdV a 1 = 1 := by
  unfold gcdV
  rw [Int.gcd_one_right]
  rfl
structure ThirdOk (q p : P3) : Prop where
  gp : GP p
  x : sX p = q.1
  y : sY p = q.2.1
  g : gcdV (gcdV p.1 p.2.1) p.2.2 = 1
theorem third_ok {q : P3} (h : G1 q) : ThirdOk q (third q) := by
  obtain ⟨x, y, w⟩ := q
  have hx := h.x
  have hy := h.y
  dsimp only at hx hy
  unfold third lowestV
  dsimp only
  obtain ⟨d1, d2, _⟩ := com3_dvd x y 3
  have hc : com3 x y 3 = gcdV (gcdV x y) 3 := by unfold com3; rw [if_neg (by decide)]
  rw [hc] at d1 d2 ⊢
  rcases gcd3 (gcdV x y) with e | e
  · rw [e] at d1 d2 ⊢
    have e1 : ∀ z : Int, z.fdiv 1 = z := fun z => by rw [Int.fdiv_one]
    rw [e1, e1, e1]
    refine ⟨⟨hx, hy, .inr rfl⟩, ?_, ?_, e⟩
    · show x * (3 : Int).fdiv 3 = x
      rw [show (3 : Int).fdiv 3 = 1 by decide, Int.mul_one]
    · show y * (3 : Int).fdiv 3 = y
      rw [show (3 : Int).fdiv 3 = 1 by decide, Int.mul_one]
  · rw [e] at d1 d2 ⊢
    rw [show (3 : Int).fdiv 3 = 1 by decide]
    refine ⟨⟨fdiv_bd hx d1, fdiv_bd hy d2, .inl rfl⟩, ?_, ?_, gcdV_one _⟩
    · show x.fdiv 3 * (3 : Int).fdiv 1 = x
      rw [show (3 : Int).fdiv 1 = 3 by decide]
      exact fdiv_mul d1 (by decide)
    · show y.fdiv 3 * (3 : Int).fdiv 1 = y
      rw [show (3 : Int).fdiv 1 = 3 by decide]
      exact fdiv_mul d2 (by decide)
theorem one_sX {q : P3} (h : G1 q) : sX q = 3 * q.1 ∧ sY q = 3 * q.2.1 := by
  unfold sX sY kk
  rw [h.w, show (3 : Int).fdiv 1 = 3 by decide, Int.mul_comm, Int.mul_comm q.2.1]
  exact ⟨rfl, rfl⟩
/-- points ps are the points qs, c times as far out -/
structure Like (c : Int) (ps qs : List P3) : Prop where
  c0 : c ≠ 0
  len : ps.length = qs.length
  gp : ∀ p ∈ ps, GP p
  x : ∀ i : Int, 0 ≤ i → i < qs.length → sX (ptAt ps i) = c * (ptAt qs i).1
  y : ∀ i : Int, 0 ≤ i → i < qs.length → sY (ptAt ps i) = c * (ptAt qs i).2.1
theorem ptAt_map (f : P3 → P3) {qs : List P3} {i : Int} (h0 : 0 ≤ i) (h1 : i < qs.length) : ptAt (qs.map f) i = f (ptAt qs i) := by
  have h2 := ptAt_get h0 h1
  have h3 := ptAt_get (ps := qs.map f) h0 (by rw [List.length_map]; exact h1)
  rw [List.getElem?_map, h2] at h3
  exact (Option.some.inj h3).symm
theorem like_one {qs : List P3} (h : FitsAll qs) : Like 3 qs qs :=
  ⟨by decide, rfl, fun p hp => (h.g p hp).gp, fun i h0 h1 => (one_sX (h.g _ (ptAt_mem h0 h1))).1, fun i h0 h1 => (one_sX (h.g _ (ptAt_mem h0 h1))).2⟩
theorem like_third {qs : List P3} (h : FitsAll qs) : Like 1 (qs.map third) qs := by
  refine ⟨by decide, List.length_map _, fun p hp => ?_, fun i h0 h1 => ?_, fun i h0 h1 => ?_⟩
  · obtain ⟨q, hq, rfl⟩ := List.mem_map.mp hp
    exact (third_ok (h.g q hq)).gp
  · rw [ptAt_map third h0 h1, (third_ok (h.g _ (ptAt_mem h0 h1))).x, Int.one_mul]
  · rw [ptAt_map third h0 h1, (third_ok (h.g _ (ptAt_mem h0 h1))).y, Int.one_mul]
def qD (qs : List P3) (i j k : Int) : Int := dD (ptAt qs i).1 (ptAt qs i).2.1 (ptAt qs j).1 (ptAt qs j).2.1 (ptAt qs k).1 (ptAt qs k).2.1
def qT (qs : List P3) (i j k : Int) : Int := dt (ptAt qs i).1 (ptAt qs i).2.1 (ptAt qs j).1 (ptAt qs j).2.1 (ptAt qs k).1 (ptAt qs k).2.1
def qM (qs : List P3) (i j k m : Int) : Int := dM (ptAt qs i).1 (ptAt qs i).2.1 (ptAt qs j).1 (ptAt qs j).2.1 (ptAt qs k).1 (ptAt qs k).2.1 (ptAt qs m).1 (ptAt qs m).2.1
theorem dD_scale (c a b d e f g : Int) : dD (c * a) (c * b) (c * d) (c * e) (c * f) (c * g) = c * c * dD a b d e f g := by unfold dD; grind
theorem dt_scale (c a b d e f g : Int) : dt (c * a) (c * b) (c * d) (c * e) (c * f) (c * g) = c * c * dt a b d e f g := by unfold dt; grind
theorem dM_scale (c a b d e f g h i : Int) : dM (c * a) (c * b) (c * d) (c * e) (c * f) (c * g) (c * h) (c * i) = c * c * (c * c) * dM a b d e f g h i := by
  unfold dM
  dsimp only
  rw [← Int.mul_sub, ← Int.mul_sub, ← Int.mul_sub, ← Int.mul_sub, ← Int.mul_sub, ← Int.mul_sub]
  generalize a - h = x1
  generalize b - i = y1
  generalize d - h = x2
  generalize e - i = y2
  generalize f - h = x3
  generalize g - i = y3
  grind
section
variable {c : Int} {ps qs : List P3}
theorem Like.D (L : Like c ps qs) {i j k : Int} (i0 : 0 ≤ i) (i1 : i < qs.length) (j0 : 0 ≤ j) (j1 : j < qs.length) (k0 : 0 ≤ k) (k1 : k < qs.length) : D3 (ptAt ps i) (ptAt ps j) (ptAt ps k) = c * c * qD qs i j k := by
  unfold D3 qD
  rw [L.x i i0 i1, L.y i i0 i1, L.x j j0 j1, L.y j j0 j1, L.x k k0 k1, L.y k k0 k1, dD_scale]
theorem Like.T (L : Like c ps qs) {i j k : Int} (i0 : 0 ≤ i) (i1 : i < qs.length) (j0 : 0 ≤ j) (j1 : j < qs.length) (k0 : 0 ≤ k) (k1 : k < qs.length) : T3 (ptAt ps i) (ptAt ps j) (ptAt ps k) = c * c * qT qs i j k := by
  unfold T3 qT
  rw [L.x i i0 i1, L.y i i0 i1, L.x j j0 j1, L.y j j0 j1, L.x k k0 k1, L.y k k0 k1, dt_scale]
theorem Like.M (L : Like c ps qs) {i j k m : Int} (i0 : 0 ≤ i) (i1 : i < qs.length) (j0 : 0 ≤ j) (j1 : j < qs.length) (k0 : 0 ≤ k) (k1 : k < qs.length) (m0 : 0 ≤ m) (m1 : m < qs.length) : M4 (ptAt ps i) (ptAt ps j) (ptAt ps k) (ptAt ps m) = c * c * (c * c) * qM qs i j k m := by
  unfold M4 qM
  rw [L.x i i0 i1, L.y i i0 i1, L.x j j0 j1, L.y j j0 j1, L.x k k0 k1, L.y k k0 k1, L.x m m0 m1, L.y m m0 m1, dM_scale]
theorem Like.g (L : Like c ps qs) {i : Int} (i0 : 0 ≤ i) (i1 : i < qs.length) : GP (ptAt ps i) := L.gp _ (ptAt_mem i0 (by rw [L.len]; exact i1))
end
theorem ptAt_take {qs : List P3} {m : Nat} {i : Int} (h0 : 0 ≤ i) (h1 : i < m) : ptAt (qs.take m) i = ptAt qs i := by
  unfold ptAt
  rw [List.getD_eq_getElem?_getD, List.getD_eq_getElem?_getD, List.getElem?_take, if_pos (by omega)]
structure FitFacts (qs : List P3) (i j m : Int) : Prop where
  d : qD qs i j m ≠ 0
  t1 : qT qs i j m ≠ 0
  t2 : qT qs i m j ≠ 0
  t3 : qT qs j m i ≠ 0
  c : ∀ k : Int, 0 ≤ k → k < j → qM qs i j k m ≠ 0
theorem fit_facts {qs : List P3} (h : FitsAll qs) {i j m : Int} (j0 : 0 ≤ j) (ji : j < i) (im : i < m) (mn : m < qs.length) : FitFacts qs i j m := by
  have L := like_one h
  have hm := ptAt_get (ps := qs) (i := m) (by omega) mn
  obtain ⟨hf, _⟩ := h m.toNat _ hm
  have hf1 : fit1 (qs.take m.toNat) (ptAt qs m) i j = true := by
    cases q : fit1 (qs.take m.toNat) (ptAt qs m) i j with
    | true => rfl
    | false => rw [fitsV_not j0 ji (by rw [List.length_take]; omega) q] at hf; cases hf
  unfold fit1 at hf1
  rw [ptAt_take (by omega) (by omega), ptAt_take (by omega) (by omega)] at hf1
  rw [Bool.and_eq_true, Bool.and_eq_true, Bool.not_eq_true', Bool.not_eq_true', Bool.or_eq_false_iff, Bool.or_eq_false_iff, decide_eq_false_iff_not, decide_eq_false_iff_not, decide_eq_false_iff_not, decide_eq_false_iff_not] at hf1
  obtain ⟨⟨⟨a1, a2⟩, a3, a4⟩, a5⟩ := hf1
  have gi := L.g (i := i) (by omega) (by omega)
  have gj := L.g (i := j) (by omega) (by omega)
  have gm := L.g (i := m) (by omega) (by omega)
  rw [lturn_sign gi gj gm, L.D (by omega) (by omega) (by omega) (by omega) (by omega) (by omega)] at a1
  rw [ldiam_sign gi gj gm, L.T (by omega) (by omega) (by omega) (by omega) (by omega) (by omega)] at a2
  rw [ldiam_sign gi gm gj, L.T (by omega) (by omega) (by omega) (by omega) (by omega) (by omega)] at a3
  rw [ldiam_sign gj gm gi, L.T (by omega) (by omega) (by omega) (by omega) (by omega) (by omega)] at a4
  have ng : ∀ n : Int, ¬ - signV (3 * 3 * n) = 0 → n ≠ 0 := fun n hn => by
    rintro rfl
    exact hn (by decide)
  refine ⟨fun z => a1 (by rw [z]; decide), ng _ a2, ng _ a3, ng _ a4, fun k k0 k1 => ?_⟩
  have gk := L.g (i := k) (by omega) (by omega)
  have hk : k ∉ (rgV 0 j.toNat).filter fun k => decide (lcircV (ptAt qs i) (ptAt qs j) (ptAt (qs.take m.toNat) k) (ptAt qs m) = 0) := by
    rw [List.isEmpty_iff] at a5
    rw [a5]
    exact List.not_mem_nil
  rw [List.mem_filter, mem_rgV, not_and, decide_eq_true_eq, ptAt_take k0 (by omega)] at hk
  have hk := hk (by omega)
  rw [lcirc_sign gi gj gk gm, L.M (by omega) (by omega) (by omega) (by omega) (by omega) (by omega) (by omega) (by omega)] at hk
  intro z
  apply hk
  rw [z, Int.mul_zero, sign_zero, Int.zero_mul]
theorem gen_like {c : Int} {ps qs : List P3} (h : FitsAll qs) (L : Like c ps qs) (nd : ps.Nodup) (pr : ∀ p ∈ ps, gcdV (gcdV p.1 p.2.1) p.2.2 = 1) (l1 : 1 ≤ qs.length) (l2 : qs.length ≤ 9) : Gen ps := by
  have cc := Int.mul_ne_zero L.c0 L.c0
  refine ⟨L.gp, by rw [L.len]; exact l1, by rw [L.len]; omega, nd, pr, fun i j k i0 ij jk kn => ?_, fun i j k i0 ij jn k0 kn ki kj => ?_, fun i j k m i0 ij jk km mn => ?_⟩
  · rw [L.len] at kn
    have F := fit_facts h i0 ij jk kn
    rw [turn_sign (L.g (by omega) (by omega)) (L.g (by omega) (by omega)) (L.g (by omega) (by omega)), L.D (by omega) (by omega) (by omega) (by omega) (by omega) (by omega)]
    have : qD qs i j k = - qD qs j i k := by unfold qD dD; grind
    exact sign_ne (Int.mul_ne_zero cc (by rw [this]; have := F.d; omega))
  · rw [L.len] at jn kn
    have ht : qT qs i j k ≠ 0 := by
      rcases Int.lt_trichotomy k i with z | z | z
      · exact (fit_facts h k0 z ij jn).t2
      · exact absurd z ki
      · rcases Int.lt_trichotomy k j with y | y | y
        · exact (fit_facts h i0 z y jn).t3
        · exact absurd y kj
        · have := (fit_facts h i0 ij y kn).t1
          have e : qT qs i j k = qT qs j i k := by unfold qT dt; grind
          rw [e]; exact this
    rw [diam_sign (L.g (by omega) (by omega)) (L.g (by omega) (by omega)) (L.g (by omega) (by omega)), L.T (by omega) (by omega) (by omega) (by omega) (by omega) (by omega)]
    have := sign_ne (Int.mul_ne_zero cc ht)
    omega
  · rw [L.len] at mn
    have F := fit_facts h (j := j) (i := k) (m := m) (by omega) jk km mn
    have F2 := fit_facts h (j := i) (i := j) (m := k) (by omega) ij jk (by omega)
    rw [side_sign (L.g (by omega) (by omega)) (L.g (by omega) (by omega)) (L.g (by omega) (by omega)) (L.g (by omega) (by omega)), L.M (by omega) (by omega) (by omega) (by omega) (by omega) (by omega) (by omega) (by omega), L.D (by omega) (by omega) (by omega) (by omega) (by omega) (by omega)]
    have e1 : qD qs i j k = - qD qs j i k := by unfold qD dD; grind
    have e2 : qM qs i j k m = - qM qs k j i m := by
      unfold qM dM
      dsimp only
      grind
    have n1 := F.c i i0 ij
    have n2 := F2.d
    exact Int.mul_ne_zero (sign_ne (Int.mul_ne_zero (Int.mul_ne_zero cc cc) (by rw [e2]; omega))) (sign_ne (Int.mul_ne_zero cc (by rw [e1]; omega)))
theorem fits_nodup {qs : List P3} (h : FitsAll qs) : qs.Nodup := by
  rw [List.nodup_iff_pairwise_ne, List.pairwise_iff_getElem]
  intro i j hi hj hij e
  obtain ⟨hf, _⟩ := h j _ (List.getElem?_eq_getElem hj)
  unfold fitsV at hf
  rw [Bool.and_eq_true] at hf
  have hn : qs[j] ∉ qs.take j := by simpa using hf.1
  apply hn
  rw [← e]
  have : i < (qs.take j).length := by rw [List.length_take]; omega
  have := List.getElem_mem this
  rw [List.getElem_take] at this
  exact this
theorem made_gen {ps : List P3} (h : Made ps) : Gen ps := by
  obtain ⟨qs, hf, l1, l2, rfl | rfl⟩ := h
  · refine gen_like hf (like_one hf) (fits_nodup hf) (fun p hp => ?_) l1 l2
    rw [(hf.g p hp).w]
    exact gcdV_one _
  · refine gen_like hf (like_third hf) ?_ (fun p hp => ?_) l1 l2
    · rw [List.nodup_iff_pairwise_ne, List.pairwise_map]
      have nd := fits_nodup hf
      rw [List.nodup_iff_pairwise_ne] at nd
      refine List.Pairwise.imp_of_mem ?_ nd
      intro a b ha hb hne e
      apply hne
      have h1 := third_ok (hf.g a ha)
      have h2 := third_ok (hf.g b hb)
      rw [e] at h1
      have w1 := (hf.g a ha).w
      have w2 := (hf.g b hb).w
      obtain ⟨ax, ay, aw⟩ := a
      obtain ⟨bx, b_y, bw⟩ := b
      have ex : ax = bx := h1.x.symm.trans h2.x
      have ey : ay = b_y := h1.y.symm.trans h2.y
      have ew : aw = bw := Eq.trans w1 (Eq.symm w2)
      rw [ex, ey, ew]
    · obtain ⟨q, hq, rfl⟩ := List.mem_map.mp hp
      exact (third_ok (hf.g q hq)).g
end M
namespace M
open PySem
/-! ### the table's values -/
theorem sq_nn (x : Int) : 0 ≤ x * x := by
  rcases Int.le_total 0 x with h | h
  · exact Int.mul_nonneg h h
  · exact Int.mul_nonneg_of_nonpos_of_nonpos h h
theorem dd2_nn (W : Int) (a b : P3) : 0 ≤ dd2 W a b := Int.add_nonneg (sq_nn _) (sq_nn _)
theorem rt01 : RtOk (0, 1) := ⟨by decide, by decide, by decide⟩
theorem lfar_ok {a b : P3} (ha : GP a) (hb : GP b) : RtOk (lfar2V a b) := by
  unfold lfar2V
  dsimp only
  exact redV_ok (Int.add_nonneg (sq_nn _) (sq_nn _)) (Int.mul_pos (Int.mul_pos (Int.mul_pos ha.wpos ha.wpos) hb.wpos) hb.wpos)
theorem half_ok {a b : P3} (ha : GP a) (hb : GP b) : RtOk (timesV (lfar2V a b) (1, 4)) := by
  have h := lfar_ok ha hb
  have h1 := h.n
  have h2 := h.d
  unfold timesV
  exact redV_ok (by dsimp only; omega) (by dsimp only; omega)
structure Tri (a b c : P3) : Prop where
  ha : GP a
  hb : GP b
  hc : GP c
  hd : doubledV a b c ≠ 0
theorem Tri.red {a b c : P3} (t : Tri a b c) : let W := weightV [a, b, c]
    0 < W ∧ cr2 W a b c ≠ 0 ∧ a.2.2 ∣ W ∧ b.2.2 ∣ W ∧ c.2.2 ∣ W ∧ lbirth3 a b c = redV (dd2 W a b * dd2 W b c * dd2 W c a) (4 * (cr2 W a b c * cr2 W a b c) * (W * W)) := by
  obtain ⟨ha, hb, hc, hn⟩ := t
  have hall : ∀ p ∈ [a, b, c], GP p := by intro p hp; simp only [List.mem_cons, List.not_mem_nil, or_false] at hp; rcases hp with e | e | e <;> (rw [e]; assumption)
  have h13 := weight_13 _ hall
  have hd := weight_dvd _ hall
  have hc2 := cr2_ne ha hb hc hn
  have h0 : weightV [a, b, c] ≠ 0 := by rcases h13 with e | e <;> (rw [e]; decide)
  exact ⟨by omega, hc2, hd a (by simp), hd b (by simp), hd c (by simp), lbirth_red ha hb hc (hd a (by simp)) (hd b (by simp)) (hd c (by simp)) h0 hc2⟩
theorem sq_pos {x : Int} (h : x ≠ 0) : 0 < x * x := by
  have := sq_nn x
  have := Int.mul_ne_zero h h
  omega
theorem lbirth_ok {a b c : P3} (t : Tri a b c) : RtOk (lbirth3 a b c) := by
  obtain ⟨pW, n, _, _, _, e⟩ := t.red
  rw [e]
  exact redV_ok (Int.mul_nonneg (Int.mul_nonneg (dd2_nn _ _ _) (dd2_nn _ _ _)) (dd2_nn _ _ _)) (Int.mul_pos (Int.mul_pos (by decide) (sq_pos n)) (Int.mul_pos pW pW))
theorem Gen.tri {ps : List P3} (g : Gen ps) {t : P3} (ht : t ∈ triplesV ps.length) : Tri (ptAt ps t.1) (ptAt ps t.2.1) (ptAt ps t.2.2) := by
  have hm := mem_triplesV.mp ht
  exact ⟨g.gg hm.1 (by omega), g.gg (by omega) (by omega), g.gg (by omega) (by omega), doubled_ne (g.turn _ _ _ hm.1 hm.2.1 hm.2.2.1 hm.2.2.2)⟩
/-! ### order of ratios -/
def leR (a b : Rt) : Prop := a.1 * b.2 ≤ b.1 * a.2
theorem not_below {r v : Rt} : belowV r v = false ↔ leR v r := by
  unfold belowV leR
  rw [decide_eq_false_iff_not, Int.not_lt]
theorem leR_trans {a b c : Rt} (ha : 0 < a.2) (hb : 0 < b.2) (hc : 0 < c.2) (h1 : leR a b) (h2 : leR b c) : leR a c := by
  unfold leR at *
  have e1 := Int.mul_le_mul_of_nonneg_right h1 (Int.le_of_lt hc)
  have e2 := Int.mul_le_mul_of_nonneg_right h2 (Int.le_of_lt ha)
  have e3 : (a.1 * c.2) * b.2 ≤ (c.1 * a.2) * b.2 := by
    have f1 : a.1 * b.2 * c.2 = (a.1 * c.2) * b.2 := by grind
    have f2 : b.1 * a.2 * c.2 = b.1 * c.2 * a.2 := by grind
    have f3 : c.1 * b.2 * a.2 = (c.1 * a.2) * b.2 := by grind
    omega
  exact Int.le_of_mul_le_mul_right e3 hb
theorem red_le {n d n' d' : Int} (hd : 0 < d) (hd' : 0 < d') (h : n * d' ≤ n' * d) : leR (redV n d) (redV n' d') := by
  obtain ⟨g, g0, e1, e2⟩ := redV_val (n := n) (d := d) (by omega)
  obtain ⟨g', g0', e1', e2'⟩ := redV_val (n := n') (d := d') (by omega)
  have p := redV_pos (n := n) (d := d) (by omega)
  have p' := redV_pos (n := n') (d := d') (by omega)
  generalize redV n d = r at *
  generalize redV n' d' = r' at *
  have gp : 0 < g := by
    rcases Int.lt_or_gt_of_ne g0 with z | z
    · have := Int.mul_neg_of_neg_of_pos z p; omega
    · exact z
  have gp' : 0 < g' := by
    rcases Int.lt_or_gt_of_ne g0' with z | z
    · have := Int.mul_neg_of_neg_of_pos z p'; omega
    · exact z
  unfold leR
  rw [e1, e2, e1', e2'] at h
  have h2 : (g * g') * (r.1 * r'.2) ≤ (g * g') * (r'.1 * r.2) := by
    have f1 : g * r.1 * (g' * r'.2) = (g * g') * (r.1 * r'.2) := by grind
    have f2 : g' * r'.1 * (g * r.2) = (g * g') * (r'.1 * r.2) := by grind
    omega
  exact Int.le_of_mul_le_mul_left h2 (Int.mul_pos gp gp')
/-- the least of some -/
theorem least_gen : ∀ (vs : List Rt) (b : Rt), 0 < b.2 → (∀ v ∈ vs, 0 < v.2) → let m := vs.foldl (fun best v => cond (belowV v best) v best) b
    (m = b ∨ m ∈ vs) ∧ leR m b ∧ ∀ v ∈ vs, leR m v
  | [], b, hb, _ => ⟨.inl rfl, Int.le_refl _, by simp⟩
  | v :: vs, b, hb, h => by
    have hv := h v List.mem_cons_self
    have hr := fun x hx => h x (List.mem_cons_of_mem _ hx)
    rw [List.foldl_cons]
    have hb' : 0 < (cond (belowV v b) v b).2 := by cases belowV v b <;> assumption
    obtain ⟨i1, i2, i3⟩ := least_gen vs (cond (belowV v b) v b) hb' hr
    have hm : 0 < (vs.foldl (fun best v => cond (belowV v best) v best) (cond (belowV v b) v b)).2 := by
      rcases i1 with e | e
      · rw [e]; exact hb'
      · exact hr _ e
    cases hq : belowV v b with
    | true =>
      rw [hq] at i1 i2 i3 hm
      have hvb : leR v b := by
        unfold belowV at hq
        have := of_decide_eq_true hq
        exact Int.le_of_lt this
      refine ⟨i1.elim (fun e => .inr (by rw [e]; exact List.mem_cons_self)) fun e => .inr (List.mem_cons_of_mem _ e), leR_trans hm hv hb i2 hvb, fun x hx => ?_⟩
      rcases List.mem_cons.mp hx with e | hx
      · rw [e]; exact i2
      · exact i3 x hx
    | false =>
      rw [hq] at i1 i2 i3 hm
      have hbv : leR b v := not_below.mp hq
      refine ⟨i1.imp id fun e => List.mem_cons_of_mem _ e, i2, fun x hx => ?_⟩
      rcases List.mem_cons.mp hx with e | hx
      · rw [e]; exact leR_trans hm hb hv i2 hbv
      · exact i3 x hx
theorem least_spec {vs : List Rt} (h : ∀ v ∈ vs, 0 < v.2) : (leastV vs = (0, 1) ∨ leastV vs ∈ vs) ∧ ∀ v ∈ vs, leR (leastV vs) v := by
  cases vs with
  | nil => exact ⟨.inl rfl, by simp⟩
  | cons a vs =>
    have ha := h a List.mem_cons_self
    obtain ⟨i1, i2, i3⟩ := least_gen (a :: vs) a ha h
    exact ⟨.inr (i1.elim (fun e => by rw [show leastV (a :: vs) = a from e]; exact List.mem_cons_self) id), i3⟩
/-- a chord is no longer than the diameter -/
theorem lagrange (u v x y : Int) : (u * y - x * v) * (u * y - x * v) ≤ (u * u + v * v) * (x * x + y * y) := by
  have h := sq_nn (u * x + v * y)
  have e : (u * u + v * v) * (x * x + y * y) = (u * y - x * v) * (u * y - x * v) + (u * x + v * y) * (u * x + v * y) := by grind
  omega
theorem cr_le (W : Int) (a b c : P3) : cr2 W a b c * cr2 W a b c ≤ dd2 W b c * dd2 W c a ∧ cr2 W a b c * cr2 W a b c ≤ dd2 W a b * dd2 W c a ∧ cr2 W a b c * cr2 W a b c ≤ dd2 W a b * dd2 W b c := by
  unfold cr2 dd2
  generalize (scaleV W a).1 = ax
  generalize (scaleV W a).2 = ay
  generalize (scaleV W b).1 = bx
  generalize (scaleV W b).2 = b_y
  generalize (scaleV W c).1 = cx
  generalize (scaleV W c).2 = cy
  refine ⟨?_, ?_, ?_⟩
  · have h := lagrange (bx - cx) (b_y - cy) (cx - ax) (cy - ay)
    have e : ((ax - cx) * (b_y - cy) - (bx - cx) * (ay - cy)) = ((bx - cx) * (cy - ay) - (cx - ax) * (b_y - cy)) := by grind
    rw [e]; exact h
  · have h := lagrange (ax - bx) (ay - b_y) (cx - ax) (cy - ay)
    have e : ((ax - cx) * (b_y - cy) - (bx - cx) * (ay - cy)) = -((ax - bx) * (cy - ay) - (cx - ax) * (ay - b_y)) := by grind
    rw [e, Int.neg_mul_neg]; exact h
  · have h := lagrange (ax - bx) (ay - b_y) (bx - cx) (b_y - cy)
    have e : ((ax - cx) * (b_y - cy) - (bx - cx) * (ay - cy)) = ((ax - bx) * (b_y - cy) - (bx - cx) * (ay - b_y)) := by grind
    rw [e]; exact h
theorem chord {W : Int} {p q : P3} (hp : GP p) (hq : GP q) (dp : p.2.2 ∣ W) (dq : q.2.2 ∣ W) (pW : 0 < W) {rest c2 all : Int} (hc : 0 < c2) (hall : all = dd2 W p q * rest) (h : c2 ≤ rest) : leR (timesV (lfar2V p q) (1, 4)) (redV all (4 * c2 * (W * W))) := by
  have w2 : 0 < W * W := Int.mul_pos pW pW
  rw [lfar_red hp hq dp dq (by omega), show ((1, 4) : Rt) = redV 1 4 from by decide, times_red (by omega) (by decide)]
  refine red_le (by omega) (Int.mul_pos (by omega) w2) ?_
  have d0 := dd2_nn W p q
  rw [hall]
  have h1 : dd2 W p q * c2 ≤ dd2 W p q * rest := Int.mul_le_mul_of_nonneg_left h d0
  have h2 := Int.mul_le_mul_of_nonneg_right h1 (show 0 ≤ 4 * (W * W) by omega)
  have f1 : dd2 W p q * 1 * (4 * c2 * (W * W)) = dd2 W p q * c2 * (4 * (W * W)) := by grind
  have f2 : dd2 W p q * rest * (W * W * 4) = dd2 W p q * rest * (4 * (W * W)) := by grind
  omega
theorem dd2_comm (W : Int) (a b : P3) : dd2 W a b = dd2 W b a := by unfold dd2; grind
theorem chords {a b c : P3} (t : Tri a b c) : leR (timesV (lfar2V a b) (1, 4)) (lbirth3 a b c) ∧ leR (timesV (lfar2V a c) (1, 4)) (lbirth3 a b c) ∧ leR (timesV (lfar2V b c) (1, 4)) (lbirth3 a b c) := by
  obtain ⟨pW, n, da, db, dc, e⟩ := t.red
  obtain ⟨l1, l2, l3⟩ := cr_le (weightV [a, b, c]) a b c
  rw [e]
  refine ⟨chord t.ha t.hb da db pW (sq_pos n) ?_ l1, chord t.ha t.hc da dc pW (sq_pos n) ?_ l3, chord t.hb t.hc db dc pW (sq_pos n) ?_ l2⟩
  · rw [Int.mul_assoc]
  · rw [dd2_comm _ a c, Int.mul_comm]
  · rw [Int.mul_comm (dd2 _ a b), Int.mul_assoc]
/-! ### the table -/
theorem mem_born {side : P3 → P3 → P3 → P3 → Int} {b3 : P3 → P3 → P3 → Rt} {dm : P3 → P3 → P3 → Int} {fr : P3 → P3 → Rt} {ps : List P3} {e : List Int × Rt} : e ∈ bornG side b3 dm fr ps ↔
    (∃ i ∈ rgV 0 ps.length, e = ([i], (0, 1))) ∨ (∃ t ∈ trisG side ps, e = (ptL t, b3G b3 ps t)) ∨ ∃ p ∈ pairsV ps.length, edgeV ps.length (trisG side ps) p = true ∧ e = ([p.1, p.2], b2G b3 dm fr ps (trisG side ps) p) := by
  unfold bornG onesV
  rw [List.mem_append, List.mem_append, List.mem_map, List.mem_map, List.mem_map, or_assoc]
  constructor
  · rintro (⟨i, hi, rfl⟩ | ⟨t, ht, rfl⟩ | ⟨p, hp, rfl⟩)
    · exact .inl ⟨i, hi, rfl⟩
    · exact .inr (.inl ⟨t, ht, rfl⟩)
    · exact .inr (.inr ⟨p, (List.mem_filter.mp hp).1, (List.mem_filter.mp hp).2, rfl⟩)
  · rintro (⟨i, hi, rfl⟩ | ⟨t, ht, rfl⟩ | ⟨p, hp, h, rfl⟩)
    · exact .inl ⟨i, hi, rfl⟩
    · exact .inr (.inl ⟨t, ht, rfl⟩)
    · exact .inr (.inr ⟨p, List.mem_filter.mpr ⟨hp, h⟩, rfl⟩)
theorem born_keys {side : P3 → P3 → P3 → P3 → Int} {b3 : P3 → P3 → P3 → Rt} {dm : P3 → P3 → P3 → Int} {fr : P3 → P3 → Rt} {ps : List P3} : ((bornG side b3 dm fr ps).map (·.1)).Nodup := by
  unfold bornG onesV
  rw [List.map_append, List.map_append, List.map_map, List.map_map, List.map_map, List.nodup_append, List.nodup_append]
  have inj1 : ∀ x y : Int, ((fun e : List Int × Rt => e.1) ∘ fun i : Int => ([i], ((0 : Int), (1 : Int)))) x = ((fun e : List Int × Rt => e.1) ∘ fun i : Int => ([i], ((0 : Int), (1 : Int)))) y → x = y := fun x y h => (List.cons.inj h).1
  refine ⟨⟨nodup_map (rgV_nodup _ _) inj1, nodup_map (List.Pairwise.filter _ (triplesV_nodup _)) (fun x y h => ptL_inj h), ?_⟩, nodup_map (List.Pairwise.filter _ (pairsV_nodup _)) (fun x y h => Prod.ext (List.cons.inj h).1 (List.cons.inj (List.cons.inj h).2).1), ?_⟩
  · intro x hx y hy e
    obtain ⟨i, _, rfl⟩ := List.mem_map.mp hx
    obtain ⟨t, _, rfl⟩ := List.mem_map.mp hy
    cases congrArg List.length e
  · intro x hx y hy e
    obtain ⟨p, _, rfl⟩ := List.mem_map.mp hy
    rcases List.mem_append.mp hx with hx | hx
    · obtain ⟨i, _, rfl⟩ := List.mem_map.mp hx
      cases congrArg List.length e
    · obtain ⟨t, _, rfl⟩ := List.mem_map.mp hx
      cases congrArg List.length e
theorem born_len {side : P3 → P3 → P3 → P3 → Int} {b3 : P3 → P3 → P3 → Rt} {dm : P3 → P3 → P3 → Int} {fr : P3 → P3 → Rt} {ps : List P3} (h : ps.length ≤ 40) : (bornG side b3 dm fr ps).length ≤ 90000 := by
  unfold bornG onesV trisG
  rw [List.length_append, List.length_append, List.length_map, List.length_map, List.length_map, rgV_length]
  have h1 := triplesV_length ps.length h
  have h2 := pairsV_length ps.length h
  have h3 := List.length_filter_le (emptyG side ps) (triplesV ps.length)
  have h4 := List.length_filter_le (edgeV ps.length ((triplesV ps.length).filter (emptyG side ps))) (pairsV ps.length)
  omega
theorem table_ok {ps : List P3} (g : Gen ps) : TbV (lbornV ps) := by
  have l1 := g.l1
  have l2 := g.l2
  have h3 : ∀ t ∈ trisG lcircV ps, RtOk (b3G lbirth3 ps t) ∧ BR 1000 (b3G lbirth3 ps t) := fun t ht => by
    have tr := g.tri (trisG_sub ht)
    exact ⟨lbirth_ok tr, lbirth3_bd (lb_of tr.ha tr.hb tr.hc tr.hd)⟩
  have b01 : BR 1000 ((0, 1) : Rt) := ⟨bd_mono (n := 3) (by decide) (by decide), bd_mono (n := 3) (by decide) (by decide)⟩
  have b14 : BR 5 ((1, 4) : Rt) := ⟨by decide, by decide⟩
  have all : ∀ e ∈ lbornV ps, RtOk e.2 ∧ BR 1000 e.2 ∧ e.1 ≠ [] := by
    intro e he
    rcases mem_born.mp he with ⟨i, _, rfl⟩ | ⟨t, ht, rfl⟩ | ⟨p, hp, _, rfl⟩
    · exact ⟨rt01, b01, by simp⟩
    · exact ⟨(h3 t ht).1, (h3 t ht).2, by unfold ptL; simp⟩
    · have hm := mem_pairsV.mp hp
      have g1 := g.gg hm.1 (by omega)
      have g2 := g.gg (i := p.2) (by omega) (by omega)
      have : RtOk (b2G lbirth3 lDiamV lfar2V ps (trisG lcircV ps) p) ∧ BR 1000 (b2G lbirth3 lDiamV lfar2V ps (trisG lcircV ps) p) := by
        unfold b2G
        cases freeG lDiamV ps p with
        | true => exact ⟨half_ok g1 g2, (times_bd (lfar2_bd g1 g2).1 b14).mono (by decide)⟩
        | false =>
          have hv : ∀ v ∈ (aroundV (trisG lcircV ps) p).map (b3G lbirth3 ps), RtOk v ∧ BR 1000 v := by
            intro v hv
            obtain ⟨t, ht, rfl⟩ := List.mem_map.mp hv
            exact h3 t (List.mem_filter.mp ht).1
          rcases (least_spec fun v hv' => (hv v hv').1.d).1 with e | e
          · show RtOk (leastV _) ∧ BR 1000 (leastV _)
            rw [e]; exact ⟨rt01, b01⟩
          · exact hv _ e
      exact ⟨this.1, this.2, by simp⟩
  refine ⟨⟨born_keys, fun e he => (all e he).2.1.mono (by decide), fun e he => (all e he).2.2, born_len (by omega)⟩, fun e he => (all e he).1, fun e he => (all e he).2.1, fun h => ?_⟩
  have : ([0], (0, 1)) ∈ lbornV ps := mem_born.mpr (.inl ⟨0, mem_rgV.mpr (by omega), rfl⟩)
  rw [h] at this
  cases this
/-- a pair of a triple is born no later -/
theorem pair_le {ps : List P3} (g : Gen ps) {t : P3} (ht : t ∈ trisG lcircV ps) {p : Int × Int} (hp : p = (t.1, t.2.1) ∨ p = (t.1, t.2.2) ∨ p = (t.2.1, t.2.2)) : edgeV ps.length (trisG lcircV ps) p = true ∧ leR (b2G lbirth3 lDiamV lfar2V ps (trisG lcircV ps) p) (b3G lbirth3 ps t) := by
  have har : t ∈ aroundV (trisG lcircV ps) p := by
    refine List.mem_filter.mpr ⟨ht, ?_⟩
    unfold ptL
    rcases hp with rfl | rfl | rfl <;> simp
  constructor
  · unfold edgeV
    cases q : aroundV (trisG lcircV ps) p with
    | nil => rw [q] at har; cases har
    | cons a l => rfl
  · unfold b2G
    cases freeG lDiamV ps p with
    | true =>
      obtain ⟨c1, c2, c3⟩ := chords (g.tri (trisG_sub ht))
      rcases hp with rfl | rfl | rfl
      · exact c1
      · exact c2
      · exact c3
    | false =>
      refine (least_spec fun v hv => ?_).2 _ (List.mem_map.mpr ⟨t, har, rfl⟩)
      obtain ⟨t', ht', rfl⟩ := List.mem_map.mp hv
      exact (lbirth_ok (g.tri (trisG_sub (List.mem_filter.mp ht').1))).d
theorem b2_pos {ps : List P3} (g : Gen ps) {p : Int × Int} (hp : p ∈ pairsV ps.length) (he : edgeV ps.length (trisG lcircV ps) p = true) : 0 < (b2G lbirth3 lDiamV lfar2V ps (trisG lcircV ps) p).2 :=
  ((table_ok g).rt _ (mem_born.mpr (.inr (.inr ⟨p, hp, he, rfl⟩)))).d
theorem table_closed {ps : List P3} (g : Gen ps) {r : Rt} (hr : 0 < r.2) : Closed ps.length (cellsV (lbornV ps) r) := by
  have tok := (table_ok g).ok
  refine ⟨fun p hp => ?_, fun t ht => ?_, cellsV_nodup tok.nd, cellsV_len r tok.len⟩
  · obtain ⟨e, he, hk, _⟩ := mem_cellsV.mp (mem_c2V.mp hp)
    rcases mem_born.mp he with ⟨i, _, rfl⟩ | ⟨t, ht, rfl⟩ | ⟨q, hq, _, rfl⟩
    · cases congrArg List.length hk
    · cases congrArg List.length hk
    · have e1 := (List.cons.inj hk).1
      have e2 := (List.cons.inj (List.cons.inj hk).2).1
      have := mem_pairsV.mp hq
      rw [← e1, ← e2]
      exact this
  · obtain ⟨e, he, hk, hb⟩ := mem_cellsV.mp (mem_c3V.mp ht)
    rcases mem_born.mp he with ⟨i, _, rfl⟩ | ⟨t', ht', rfl⟩ | ⟨q, hq, _, rfl⟩
    · cases congrArg List.length hk
    · have := ptL_inj hk
      subst this
      have hm := mem_triplesV.mp (trisG_sub ht')
      have ok3 := lbirth_ok (g.tri (trisG_sub ht'))
      have go : ∀ p : Int × Int, (p = (t'.1, t'.2.1) ∨ p = (t'.1, t'.2.2) ∨ p = (t'.2.1, t'.2.2)) → p ∈ c2V (cellsV (lbornV ps) r) := by
        intro p hp
        have hpv : p ∈ pairsV ps.length := mem_pairsV.mpr (by rcases hp with rfl | rfl | rfl <;> (dsimp only; omega))
        obtain ⟨h1, h2⟩ := pair_le g ht' hp
        refine mem_c2V.mpr (mem_cellsV.mpr ⟨_, mem_born.mpr (.inr (.inr ⟨p, hpv, h1, rfl⟩)), rfl, not_below.mpr ?_⟩)
        exact leR_trans (b2_pos g hpv h1) ok3.d hr h2 (not_below.mp hb)
      exact ⟨hm.2.1, hm.2.2.1, go _ (.inl rfl), go _ (.inr (.inl rfl)), go _ (.inr (.inr rfl))⟩
    · cases congrArg List.length hk
/-- the law's row is the program's -/
theorem row_same {n : Nat} {cs : List (List Int)} (C : Closed n cs) {t : P3} (ht : t ∈ c3V cs) : vec (lrowI (c2V cs) t) = vec (rowI (c2V cs) t) := by
  obtain ⟨h1, h2, p1, p2, p3⟩ := C.t t ht
  have hp := C.p
  have nd := c2V_nodup C.nd
  generalize c2V cs = prs at *
  have idx : ∀ (p : Int × Int) (k : Nat), p ∈ prs → prs[k]? = some p → idxV prs p = k := fun p k hm hk => by
    have g1 := (idxV_get hm).1
    exact (List.getElem?_inj (lt_of_get g1) nd).mp (g1.trans hk.symm)
  funext x
  unfold vec
  apply Bool.eq_iff_iff.mpr
  rw [List.contains_iff_mem, List.contains_iff_mem]
  unfold lrowI rowI
  rw [List.mem_filter, mem_rgV]
  simp only [List.mem_cons, List.not_mem_nil, or_false]
  constructor
  · rintro ⟨⟨x0, x1⟩, hx⟩
    have hk : prs[x.toNat]? = some (prAt prs x) := by
      unfold prAt
      rw [List.getD_eq_getElem?_getD, List.getElem?_eq_getElem (by omega : x.toNat < prs.length), Option.getD_some]
    have hm := List.mem_of_getElem? hk
    have hlt := hp _ hm
    have hi := idx _ _ hm hk
    rw [Bool.and_eq_true, List.contains_iff_mem, List.contains_iff_mem] at hx
    unfold ptL at hx
    simp only [List.mem_cons, List.not_mem_nil, or_false] at hx
    generalize prAt prs x = q at *
    obtain ⟨i, j⟩ := q
    dsimp only at hx hlt
    have hq : (i = t.1 ∧ j = t.2.1) ∨ (i = t.1 ∧ j = t.2.2) ∨ (i = t.2.1 ∧ j = t.2.2) := by omega
    rcases hq with ⟨rfl, rfl⟩ | ⟨rfl, rfl⟩ | ⟨rfl, rfl⟩
    · exact .inl (by omega)
    · exact .inr (.inl (by omega))
    · exact .inr (.inr (by omega))
  · have go : ∀ p : Int × Int, p ∈ prs → p.1 ∈ ptL t → p.2 ∈ ptL t → x = (idxV prs p : Nat) → (0 ≤ x ∧ x < 0 + (prs.length : Int)) ∧ ((ptL t).contains (prAt prs x).1 && (ptL t).contains (prAt prs x).2) = true := by
      rintro p hm m1 m2 rfl
      obtain ⟨g1, g2⟩ := idxV_get hm
      have e : prAt prs (idxV prs p : Nat) = p := by
        unfold prAt
        rw [Int.toNat_natCast, List.getD_eq_getElem?_getD, g1, Option.getD_some]
      rw [e, Bool.and_eq_true, List.contains_iff_mem, List.contains_iff_mem]
      exact ⟨by omega, m1, m2⟩
    rintro (h | h | h)
    · exact go _ p1 (by unfold ptL; simp) (by unfold ptL; simp) h
    · exact go _ p2 (by unfold ptL; simp) (by unfold ptL; simp) h
    · exact go _ p3 (by unfold ptL; simp) (by unfold ptL; simp) h
theorem rows_same {n : Nat} {cs : List (List Int)} (C : Closed n cs) : ((c3V cs).map (lrowI (c2V cs))).map vec = ((c3V cs).map (rowI (c2V cs))).map vec := by
  rw [List.map_map, List.map_map]
  apply List.map_congr_left
  intro t ht
  exact row_same C ht
end M
namespace M
open PySem
/-! ### the triples are free -/
def sumv (L : List Vec) : Vec := L.foldr vadd vzero
theorem sumv_none {α : Type} (f : α → Vec) (x : Int) : ∀ T : List α, (∀ t ∈ T, f t x = false) → sumv (T.map f) x = false
  | [], _ => rfl
  | a :: T, h => by
    show xor (f a x) (sumv (T.map f) x) = false
    rw [h a List.mem_cons_self, sumv_none f x T fun t ht => h t (List.mem_cons_of_mem _ ht)]
    rfl
theorem sumv_one {α : Type} (f : α → Vec) (x : Int) (t0 : α) : ∀ T : List α, T.Nodup → t0 ∈ T → f t0 x = true → (∀ t ∈ T, t ≠ t0 → f t x = false) → sumv (T.map f) x = true
  | [], _, h, _, _ => by cases h
  | a :: T, nd, hm, h1, h2 => by
    have nd' := List.nodup_cons.mp nd
    show xor (f a x) (sumv (T.map f) x) = true
    rcases List.mem_cons.mp hm with e | hm
    · subst e
      rw [h1, sumv_none f x T fun t ht => h2 t (List.mem_cons_of_mem _ ht) fun z => nd'.1 (by rw [← z]; exact ht)]
      rfl
    · rw [h2 a List.mem_cons_self fun z => nd'.1 (by rw [z]; exact hm), sumv_one f x t0 T nd'.2 hm h1 fun t ht => h2 t (List.mem_cons_of_mem _ ht)]
      rfl
theorem sp_subset {α : Type} (f : α → Vec) : ∀ (ts : List α) (u : Vec), sp (ts.map f) u → ∃ S : List α, S.Sublist ts ∧ u = sumv (S.map f)
  | [], u, h => ⟨[], List.Sublist.refl _, h⟩
  | a :: ts, u, h => by
    rcases h with h | h
    · obtain ⟨S, h1, h2⟩ := sp_subset f ts u h
      exact ⟨S, List.Sublist.cons a h1, h2⟩
    · obtain ⟨S, h1, h2⟩ := sp_subset f ts _ h
      refine ⟨a :: S, List.Sublist.cons_cons a h1, ?_⟩
      show u = vadd (f a) (sumv (S.map f))
      rw [← h2, vadd_comm u, ← vadd_assoc, vadd_self, zero_vadd]
theorem rk_free {α : Type} (f : α → Vec) : ∀ ts : List α, (∀ T : List α, T.Sublist ts → T ≠ [] → sumv (T.map f) ≠ vzero) → rk (ts.map f) = ts.length
  | [], _ => rfl
  | a :: ts, h => by
    rw [List.map_cons, rk_out, rk_free f ts fun T hT hne => h T (List.Sublist.cons a hT) hne]
    · rfl
    · intro hs
      obtain ⟨S, h1, h2⟩ := sp_subset f ts _ hs
      refine h (a :: S) (List.Sublist.cons_cons a h1) (List.cons_ne_nil _ _) ?_
      show vadd (f a) (sumv (S.map f)) = vzero
      rw [← h2, vadd_self]
/-- the least of a finite list -/
theorem least_in {α : Type} (le : α → α → Prop) : ∀ l : List α, l ≠ [] → (∀ x ∈ l, ∀ y ∈ l, le x y ∨ le y x) → (∀ x ∈ l, ∀ y ∈ l, ∀ z ∈ l, le x y → le y z → le x z) → ∃ m ∈ l, ∀ y ∈ l, le m y
  | [], h, _, _ => absurd rfl h
  | [a], _, ht, _ => ⟨a, List.mem_cons_self, fun y hy => by
      rw [List.mem_singleton] at hy
      subst hy
      exact (ht y List.mem_cons_self y List.mem_cons_self).elim id id⟩
  | a :: b :: r, _, ht, htr => by
    obtain ⟨m, hm, hl⟩ := least_in le (b :: r) (List.cons_ne_nil _ _) (fun x hx y hy => ht x (List.mem_cons_of_mem _ hx) y (List.mem_cons_of_mem _ hy)) (fun x hx y hy z hz => htr x (List.mem_cons_of_mem _ hx) y (List.mem_cons_of_mem _ hy) z (List.mem_cons_of_mem _ hz))
    have hm' := List.mem_cons_of_mem a hm
    have haa : le a a := (ht a List.mem_cons_self a List.mem_cons_self).elim id id
    rcases ht a List.mem_cons_self m hm' with h | h
    · refine ⟨a, List.mem_cons_self, fun y hy => ?_⟩
      rcases List.mem_cons.mp hy with e | hy
      · rw [e]; exact haa
      · exact htr a List.mem_cons_self m hm' y (List.mem_cons_of_mem _ hy) h (hl y hy)
    · refine ⟨m, hm', fun y hy => ?_⟩
      rcases List.mem_cons.mp hy with e | hy
      · rw [e]; exact h
      · exact hl y hy
section
variable {ps : List P3}
def cD (ps : List P3) (i j k : Int) : Int := D3 (ptAt ps i) (ptAt ps j) (ptAt ps k)
def cM (ps : List P3) (i j k m : Int) : Int := M4 (ptAt ps i) (ptAt ps j) (ptAt ps k) (ptAt ps m)
theorem cD_12 (i j k : Int) : cD ps j i k = - cD ps i j k := by unfold cD D3 dD; grind
theorem cD_23 (i j k : Int) : cD ps i k j = - cD ps i j k := by unfold cD D3 dD; grind
theorem dM_12 (a b d e f g h i : Int) : dM d e a b f g h i = - dM a b d e f g h i := by
  unfold dM
  dsimp only
  generalize a - h = x1
  generalize b - i = y1
  generalize d - h = x2
  generalize e - i = y2
  generalize f - h = x3
  generalize g - i = y3
  grind
theorem dM_23 (a b d e f g h i : Int) : dM a b f g d e h i = - dM a b d e f g h i := by
  unfold dM
  dsimp only
  generalize a - h = x1
  generalize b - i = y1
  generalize d - h = x2
  generalize e - i = y2
  generalize f - h = x3
  generalize g - i = y3
  grind
theorem dM_34 (a b d e f g h i : Int) : dM a b d e h i f g = - dM a b d e f g h i := by
  unfold dM
  dsimp only
  grind
theorem cM_12 (i j k m : Int) : cM ps j i k m = - cM ps i j k m := by unfold cM M4; exact dM_12 ..
theorem cM_23 (i j k m : Int) : cM ps i k j m = - cM ps i j k m := by unfold cM M4; exact dM_23 ..
theorem cM_34 (i j k m : Int) : cM ps i j m k = - cM ps i j k m := by unfold cM M4; exact dM_34 ..
structure In3 (n i j k : Int) : Prop where
  i0 : 0 ≤ i
  i1 : i < n
  j0 : 0 ≤ j
  j1 : j < n
  k0 : 0 ≤ k
  k1 : k < n
theorem cD_ne (g : Gen ps) {i j k : Int} (b : In3 ps.length i j k) (hij : i ≠ j) (hik : i ≠ k) (hjk : j ≠ k) : cD ps i j k ≠ 0 := by
  obtain ⟨i0, i1, j0, j1, k0, k1⟩ := b
  have srt : ∀ {i j k : Int}, 0 ≤ i → i < j → j < k → k < ps.length → cD ps i j k ≠ 0 := fun {i j k} i0 ij jk kn => by
    have := g.turn i j k i0 ij jk kn
    rw [turn_sign (g.gg i0 (by omega)) (g.gg (by omega) (by omega)) (g.gg (by omega) (by omega))] at this
    exact ne_sign this
  have A : ∀ {i j k : Int}, 0 ≤ i → i < j → j < ps.length → 0 ≤ k → k < ps.length → i ≠ k → j ≠ k → cD ps i j k ≠ 0 := fun {i j k} i0 ij jn k0 kn hik hjk => by
    rcases Int.lt_or_gt_of_ne hjk with h | h
    · exact srt i0 ij h kn
    · rcases Int.lt_or_gt_of_ne hik with h2 | h2
      · have := srt i0 h2 h jn
        rw [cD_23] at this; omega
      · have := srt k0 h2 ij jn
        rw [cD_12, cD_23] at this; omega
  rcases Int.lt_or_gt_of_ne hij with h | h
  · exact A i0 h j1 k0 k1 hik hjk
  · have := A j0 h i1 k0 k1 hjk hik
    rw [cD_12] at this; omega
theorem cM_ne (g : Gen ps) {i j k m : Int} (b : In3 ps.length i j k) (m0 : 0 ≤ m) (m1 : m < ps.length) (hij : i ≠ j) (hik : i ≠ k) (him : i ≠ m) (hjk : j ≠ k) (hjm : j ≠ m) (hkm : k ≠ m) : cM ps i j k m ≠ 0 := by
  obtain ⟨i0, i1, j0, j1, k0, k1⟩ := b
  have srt : ∀ {i j k m : Int}, 0 ≤ i → i < j → j < k → k < m → m < ps.length → cM ps i j k m ≠ 0 := fun {i j k m} i0 ij jk km mn => by
    have := g.side i j k m i0 ij jk km mn
    rw [side_sign (g.gg i0 (by omega)) (g.gg (by omega) (by omega)) (g.gg (by omega) (by omega)) (g.gg (by omega) (by omega))] at this
    refine ne_sign fun z => this ?_
    rw [show M4 (ptAt ps i) (ptAt ps j) (ptAt ps k) (ptAt ps m) = cM ps i j k m from rfl, z, Int.zero_mul]
  have A : ∀ {i j k m : Int}, 0 ≤ i → i < j → j < k → k < ps.length → 0 ≤ m → m < ps.length → i ≠ m → j ≠ m → k ≠ m → cM ps i j k m ≠ 0 := fun {i j k m} i0 ij jk kn m0 mn him hjm hkm => by
    rcases Int.lt_or_gt_of_ne hkm with h | h
    · exact srt i0 ij jk h mn
    · rcases Int.lt_or_gt_of_ne hjm with h2 | h2
      · have := srt i0 ij h2 h kn
        rw [cM_34] at this; omega
      · rcases Int.lt_or_gt_of_ne him with h3 | h3
        · have := srt i0 h3 h2 jk kn
          rw [cM_23, cM_34] at this; omega
        · have := srt m0 h3 ij jk kn
          rw [cM_12, cM_23, cM_34] at this; omega
  have Bb : ∀ {i j k m : Int}, 0 ≤ i → i < j → j < ps.length → 0 ≤ k → k < ps.length → 0 ≤ m → m < ps.length → i ≠ k → i ≠ m → j ≠ k → j ≠ m → k ≠ m → cM ps i j k m ≠ 0 := fun {i j k m} i0 ij jn k0 kn m0 mn hik him hjk hjm hkm => by
    rcases Int.lt_or_gt_of_ne hjk with h | h
    · exact A i0 ij h kn m0 mn him hjm hkm
    · rcases Int.lt_or_gt_of_ne hik with h2 | h2
      · have := A i0 h2 h jn m0 mn him hkm hjm
        rw [cM_23] at this; omega
      · have := A k0 h2 ij jn m0 mn hkm him hjm
        rw [cM_12, cM_23] at this; omega
  rcases Int.lt_or_gt_of_ne hij with h | h
  · exact Bb i0 h j1 k0 k1 m0 m1 hik him hjk hjm hkm
  · have := Bb j0 h i1 k0 k1 m0 m1 hjk hjm hik him hkm
    rw [cM_12] at this; omega
theorem sign_neg' (n : Int) : signV (-n) = - signV n := by
  rcases Int.lt_trichotomy n 0 with h | h | h
  · rw [sign_neg h, sign_pos (by omega)]; rfl
  · rw [h]; decide
  · rw [sign_pos h, sign_neg (by omega)]
/-- no other point within the circle -/
def Emp (ps : List P3) (i j k d : Int) : Prop := signV (cM ps i j k d) * signV (cD ps i j k) ≤ 0
theorem emp_12 {i j k d : Int} (h : Emp ps i j k d) : Emp ps j i k d := by
  unfold Emp at *
  rw [cM_12, cD_12, sign_neg', sign_neg', Int.neg_mul_neg]
  exact h
theorem emp_23 {i j k d : Int} (h : Emp ps i j k d) : Emp ps i k j d := by
  unfold Emp at *
  rw [cM_23, cD_23, sign_neg', sign_neg', Int.neg_mul_neg]
  exact h
theorem emp_of (g : Gen ps) {t : P3} (ht : t ∈ trisG lcircV ps) {d : Int} (d0 : 0 ≤ d) (d1 : d < ps.length) (h1 : d ≠ t.1) (h2 : d ≠ t.2.1) (h3 : d ≠ t.2.2) : Emp ps t.1 t.2.1 t.2.2 d := by
  have hm := mem_triplesV.mp (trisG_sub ht)
  have he := (List.mem_filter.mp ht).2
  unfold emptyG at he
  rw [List.isEmpty_iff] at he
  have hin : ptAt ps d ∈ othersV ps [t.1, t.2.1, t.2.2] := by
    unfold othersV
    refine List.mem_map.mpr ⟨d, List.mem_filter.mpr ⟨mem_rgV.mpr (by omega), ?_⟩, rfl⟩
    rw [Bool.not_eq_true', ← Bool.not_eq_true, List.contains_iff_mem]
    simp only [List.mem_cons, List.not_mem_nil, or_false, not_or]
    exact ⟨h1, h2, h3⟩
  have hn := List.filter_eq_nil_iff.mp he _ hin
  rw [decide_eq_true_eq, lcirc_sign (g.gg hm.1 (by omega)) (g.gg (by omega) (by omega)) (g.gg (by omega) (by omega)) (g.gg d0 d1)] at hn
  unfold Emp cM cD
  omega
/-- v, u, w are the corners -/
def Cor (t : P3) (v u w : Int) : Prop := (v = t.1 ∧ u = t.2.1 ∧ w = t.2.2) ∨ (v = t.1 ∧ u = t.2.2 ∧ w = t.2.1) ∨ (v = t.2.1 ∧ u = t.1 ∧ w = t.2.2) ∨ (v = t.2.1 ∧ u = t.2.2 ∧ w = t.1) ∨ (v = t.2.2 ∧ u = t.1 ∧ w = t.2.1) ∨ (v = t.2.2 ∧ u = t.2.1 ∧ w = t.1)
theorem cor_of {t : P3} {v u : Int} (hv : v ∈ ptL t) (hu : u ∈ ptL t) (h : v ≠ u) : ∃ w, Cor t v u w := by
  unfold ptL at hv hu
  simp only [List.mem_cons, List.not_mem_nil, or_false] at hv hu
  rcases hv with rfl | rfl | rfl <;> rcases hu with rfl | rfl | rfl
  · exact absurd rfl h
  · exact ⟨t.2.2, .inl ⟨rfl, rfl, rfl⟩⟩
  · exact ⟨t.2.1, .inr (.inl ⟨rfl, rfl, rfl⟩)⟩
  · exact ⟨t.2.2, .inr (.inr (.inl ⟨rfl, rfl, rfl⟩))⟩
  · exact absurd rfl h
  · exact ⟨t.1, .inr (.inr (.inr (.inl ⟨rfl, rfl, rfl⟩)))⟩
  · exact ⟨t.2.1, .inr (.inr (.inr (.inr (.inl ⟨rfl, rfl, rfl⟩))))⟩
  · exact ⟨t.1, .inr (.inr (.inr (.inr (.inr ⟨rfl, rfl, rfl⟩))))⟩
  · exact absurd rfl h
theorem emp_cor (g : Gen ps) {t : P3} (ht : t ∈ trisG lcircV ps) {v u w d : Int} (c : Cor t v u w) (d0 : 0 ≤ d) (d1 : d < ps.length) (h1 : d ≠ v) (h2 : d ≠ u) (h3 : d ≠ w) : Emp ps v u w d := by
  rcases c with ⟨rfl, rfl, rfl⟩ | ⟨rfl, rfl, rfl⟩ | ⟨rfl, rfl, rfl⟩ | ⟨rfl, rfl, rfl⟩ | ⟨rfl, rfl, rfl⟩ | ⟨rfl, rfl, rfl⟩
  · exact emp_of g ht d0 d1 h1 h2 h3
  · exact emp_23 (emp_of g ht d0 d1 h1 h3 h2)
  · exact emp_12 (emp_of g ht d0 d1 h2 h1 h3)
  · exact emp_23 (emp_12 (emp_of g ht d0 d1 h3 h1 h2))
  · exact emp_12 (emp_23 (emp_of g ht d0 d1 h2 h3 h1))
  · exact emp_12 (emp_23 (emp_12 (emp_of g ht d0 d1 h3 h2 h1)))
theorem cor_eq {t t' : P3} {v u w : Int} (s : t.1 < t.2.1 ∧ t.2.1 < t.2.2) (s' : t'.1 < t'.2.1 ∧ t'.2.1 < t'.2.2) (c : Cor t v u w) (c' : Cor t' v u w) : t = t' := by
  unfold Cor at c c'
  have h1 : t.1 = t'.1 := by omega
  have h2 : t.2.1 = t'.2.1 := by omega
  have h3 : t.2.2 = t'.2.2 := by omega
  exact Prod.ext h1 (Prod.ext h2 h3)
theorem cor_mem {t : P3} {v u w : Int} (c : Cor t v u w) : v ∈ ptL t ∧ u ∈ ptL t ∧ w ∈ ptL t := by
  unfold ptL
  simp only [List.mem_cons, List.not_mem_nil, or_false]
  unfold Cor at c
  omega
/-- two of them on one side of an edge are one -/
theorem one_side (g : Gen ps) {t t' : P3} (ht : t ∈ trisG lcircV ps) (ht' : t' ∈ trisG lcircV ps) {v u w w' : Int} (c : Cor t v u w) (c' : Cor t' v u w') (h : 0 < cD ps v u w) (h' : 0 < cD ps v u w') : t = t' := by
  have m := mem_triplesV.mp (trisG_sub ht)
  have m' := mem_triplesV.mp (trisG_sub ht')
  by_cases e : w = w'
  · subst e
    exact cor_eq ⟨m.2.1, m.2.2.1⟩ ⟨m'.2.1, m'.2.2.1⟩ c c'
  · exfalso
    have cc := c
    have cc' := c'
    unfold Cor at cc cc'
    have hb : In3 ps.length v u w := ⟨by omega, by omega, by omega, by omega, by omega, by omega⟩
    have e1 := emp_cor g ht c (d := w') (by omega) (by omega) (by omega) (by omega) (by omega)
    have e2 := emp_cor g ht' c' (d := w) (by omega) (by omega) (by omega) (by omega) (by omega)
    have hne := cM_ne g hb (m := w') (by omega) (by omega) (by omega) (by omega) (by omega) (by omega) (by omega) e
    unfold Emp at e1 e2
    rw [sign_pos h, Int.mul_one] at e1
    rw [sign_pos h', Int.mul_one, cM_34, sign_neg'] at e2
    have := sign_ne hne
    omega
end
end M
namespace M
open PySem
theorem ctrans {x1 y1 x2 y2 x3 y3 : Int} (h1 : 0 < x1 ∨ (x1 = 0 ∧ 0 < y1)) (h2 : 0 < x2 ∨ (x2 = 0 ∧ 0 < y2)) (h3 : 0 < x3 ∨ (x3 = 0 ∧ 0 < y3)) (a : 0 < x1 * y2 - x2 * y1) (b : 0 < x2 * y3 - x3 * y2) : 0 < x1 * y3 - x3 * y1 := by
  have p2 : 0 < x2 := by
    rcases h2 with h | ⟨h, hy⟩
    · exact h
    · exfalso
      have n3 : 0 ≤ x3 := by omega
      have := Int.mul_nonneg n3 (Int.le_of_lt hy)
      rw [h, Int.zero_mul] at b
      omega
  have p1 : 0 < x1 := by
    rcases h1 with h | ⟨h, hy⟩
    · exact h
    · exfalso
      have := Int.mul_pos p2 hy
      rw [h, Int.zero_mul] at a
      omega
  have n3 : 0 ≤ x3 := by omega
  have e : x2 * (x1 * y3 - x3 * y1) = x1 * (x2 * y3 - x3 * y2) + x3 * (x1 * y2 - x2 * y1) := by grind
  have s1 := Int.mul_pos p1 b
  have s2 := Int.mul_nonneg n3 (Int.le_of_lt a)
  have s3 : 0 < x2 * (x1 * y3 - x3 * y1) := by omega
  rcases Int.lt_trichotomy 0 (x1 * y3 - x3 * y1) with z | z | z
  · exact z
  · rw [← z, Int.mul_zero] at s3; omega
  · have := Int.mul_neg_of_pos_of_neg p2 z; omega
section
variable {ps : List P3}
def vX (ps : List P3) (i : Int) : Int := sX (ptAt ps i)
def vY (ps : List P3) (i : Int) : Int := sY (ptAt ps i)
theorem cD_def (v w z : Int) : cD ps v w z = (vX ps w - vX ps v) * (vY ps z - vY ps v) - (vX ps z - vX ps v) * (vY ps w - vY ps v) := rfl
theorem apart (g : Gen ps) (n3 : 3 ≤ ps.length) {v w : Int} (v0 : 0 ≤ v) (v1 : v < ps.length) (w0 : 0 ≤ w) (w1 : w < ps.length) (h : v ≠ w) : ¬ (vX ps v = vX ps w ∧ vY ps v = vY ps w) := by
  rintro ⟨h1, h2⟩
  obtain ⟨z, z0, z1, z2, z3⟩ : ∃ z : Int, 0 ≤ z ∧ z < ps.length ∧ v ≠ z ∧ w ≠ z := by
    by_cases a : v ≠ 0 ∧ w ≠ 0
    · exact ⟨0, by omega, by omega, a.1, a.2⟩
    · by_cases b : v ≠ 1 ∧ w ≠ 1
      · exact ⟨1, by omega, by omega, b.1, b.2⟩
      · exact ⟨2, by omega, by omega, by omega, by omega⟩
  refine cD_ne g ⟨v0, v1, w0, w1, z0, z1⟩ h z2 z3 ?_
  rw [cD_def, h1, h2]
  simp
/-- some edge is in one triple alone -/
theorem lone_edge (g : Gen ps) {T : List P3} (hT : ∀ t ∈ T, t ∈ trisG lcircV ps) (hne : T ≠ []) : ∃ v u : Int, ∃ t0 ∈ T, v ≠ u ∧ v ∈ ptL t0 ∧ u ∈ ptL t0 ∧ ∀ t ∈ T, v ∈ ptL t → u ∈ ptL t → t = t0 := by
  have rng : ∀ t ∈ T, ∀ x ∈ ptL t, 0 ≤ x ∧ x < ps.length := fun t ht x hx => by
    have m := mem_triplesV.mp (trisG_sub (hT t ht))
    unfold ptL at hx
    simp only [List.mem_cons, List.not_mem_nil, or_false] at hx
    omega
  obtain ⟨t1, ht1⟩ := List.exists_mem_of_ne_nil T hne
  have n3 : 3 ≤ ps.length := by
    have m := mem_triplesV.mp (trisG_sub (hT t1 ht1))
    omega
  have memV : ∀ x, x ∈ (T.map ptL).flatten ↔ ∃ t ∈ T, x ∈ ptL t := fun x => by
    rw [List.mem_flatten]
    constructor
    · rintro ⟨l, hl, hx⟩
      obtain ⟨t, ht, rfl⟩ := List.mem_map.mp hl
      exact ⟨t, ht, hx⟩
    · rintro ⟨t, ht, hx⟩
      exact ⟨_, List.mem_map.mpr ⟨t, ht, rfl⟩, hx⟩
  have rV : ∀ x ∈ (T.map ptL).flatten, 0 ≤ x ∧ x < ps.length := fun x hx => by
    obtain ⟨t, ht, h⟩ := (memV x).mp hx
    exact rng t ht x h
  obtain ⟨v, hv, hmin⟩ := least_in (fun i j => vX ps i < vX ps j ∨ (vX ps i = vX ps j ∧ vY ps i ≤ vY ps j)) (T.map ptL).flatten
    (by
      intro e
      have : t1.1 ∈ (T.map ptL).flatten := (memV _).mpr ⟨t1, ht1, by unfold ptL; simp⟩
      rw [e] at this
      cases this)
    (fun x _ y _ => by omega) (fun x _ y _ z _ h1 h2 => by omega)
  have bv := rV v hv
  -- all else lies in a half plane
  have half : ∀ w ∈ (T.map ptL).flatten, w ≠ v → 0 < vX ps w - vX ps v ∨ (vX ps w - vX ps v = 0 ∧ 0 < vY ps w - vY ps v) := fun w hw hwv => by
    have h1 := hmin w hw
    have bw := rV w hw
    have h2 := apart g n3 bv.1 bv.2 bw.1 bw.2 (fun z => hwv z.symm)
    omega
  -- the neighbours
  have memN : ∀ x, x ∈ ((T.filter fun t => (ptL t).contains v).map ptL).flatten.filter (fun x => !decide (x = v)) ↔ (∃ t ∈ T, v ∈ ptL t ∧ x ∈ ptL t) ∧ x ≠ v := fun x => by
    rw [List.mem_filter, List.mem_flatten]
    constructor
    · rintro ⟨⟨l, hl, hx⟩, hxv⟩
      obtain ⟨t, ht, rfl⟩ := List.mem_map.mp hl
      have := List.mem_filter.mp ht
      exact ⟨⟨t, this.1, List.contains_iff_mem.mp this.2, hx⟩, by simpa using hxv⟩
    · rintro ⟨⟨t, ht, htv, hx⟩, hxv⟩
      exact ⟨⟨_, List.mem_map.mpr ⟨t, List.mem_filter.mpr ⟨ht, List.contains_iff_mem.mpr htv⟩, rfl⟩, hx⟩, by simpa using hxv⟩
  generalize hN : ((T.filter fun t => (ptL t).contains v).map ptL).flatten.filter (fun x => !decide (x = v)) = N at *
  have NV : ∀ x ∈ N, x ∈ (T.map ptL).flatten := fun x hx => by
    obtain ⟨⟨t, ht, _, h⟩, _⟩ := (memN x).mp hx
    exact (memV x).mpr ⟨t, ht, h⟩
  have Nne : N ≠ [] := by
    obtain ⟨t, ht, hvt⟩ := (memV v).mp hv
    have m := mem_triplesV.mp (trisG_sub (hT t ht))
    have : ∃ x, x ∈ ptL t ∧ x ≠ v := by
      by_cases z : t.1 = v
      · exact ⟨t.2.1, by unfold ptL; simp, by omega⟩
      · exact ⟨t.1, by unfold ptL; simp, z⟩
    obtain ⟨x, hx, hxv⟩ := this
    intro e
    have hx' := (memN x).mpr ⟨⟨t, ht, hvt, hx⟩, hxv⟩
    rw [e] at hx'
    cases hx'
  obtain ⟨u, hu, humin⟩ := least_in (fun w w' => w = w' ∨ 0 < cD ps v w w') N Nne
    (fun x hx y hy => by
      by_cases e : x = y
      · exact .inl (.inl e)
      · have hx1 := (memN x).mp hx
        have hy1 := (memN y).mp hy
        have bx := rV x (NV x hx)
        have b_y := rV y (NV y hy)
        have := cD_ne g ⟨bv.1, bv.2, bx.1, bx.2, b_y.1, b_y.2⟩ (fun z => hx1.2 z.symm) (fun z => hy1.2 z.symm) e
        have e2 : cD ps v y x = - cD ps v x y := cD_23 v x y
        rcases Int.lt_or_gt_of_ne this with z | z
        · exact .inr (.inr (by omega))
        · exact .inl (.inr z))
    (fun x hx y hy z hz h1 h2 => by
      rcases h1 with rfl | h1
      · exact h2
      · rcases h2 with rfl | h2
        · exact .inr h1
        · refine .inr ?_
          rw [cD_def] at h1 h2 ⊢
          exact ctrans (half x (NV x hx) ((memN x).mp hx).2) (half y (NV y hy) ((memN y).mp hy).2) (half z (NV z hz) ((memN z).mp hz).2) h1 h2)
  obtain ⟨⟨t0, ht0, hv0, hu0⟩, huv⟩ := (memN u).mp hu
  have side : ∀ t ∈ T, v ∈ ptL t → u ∈ ptL t → ∃ w, Cor t v u w ∧ 0 < cD ps v u w := fun t ht h1 h2 => by
    obtain ⟨w, c⟩ := cor_of h1 h2 (fun z => huv z.symm)
    have m := mem_triplesV.mp (trisG_sub (hT t ht))
    have hw := (cor_mem c).2.2
    have cc := c
    unfold Cor at cc
    have hwN := (memN w).mpr ⟨⟨t, ht, h1, hw⟩, by omega⟩
    refine ⟨w, c, ?_⟩
    rcases humin w hwN with e | e
    · exfalso; omega
    · exact e
  refine ⟨v, u, t0, ht0, fun z => huv z.symm, hv0, hu0, fun t ht h1 h2 => ?_⟩
  obtain ⟨w, c, hw⟩ := side t ht h1 h2
  obtain ⟨w0, c0, hw0⟩ := side t0 ht0 hv0 hu0
  exact one_side g (hT t ht) (hT t0 ht0) c c0 hw hw0
theorem free_rows (g : Gen ps) {r : Rt} (hr : 0 < r.2) : rk (((c3V (cellsV (lbornV ps) r)).map (rowI (c2V (cellsV (lbornV ps) r)))).map vec) = (c3V (cellsV (lbornV ps) r)).length := by
  have C := table_closed g hr
  have ht3 : ∀ t ∈ c3V (cellsV (lbornV ps) r), t ∈ trisG lcircV ps := fun t ht => by
    obtain ⟨e, he, hk, hb⟩ := mem_cellsV.mp (mem_c3V.mp ht)
    rcases mem_born.mp he with ⟨i, _, rfl⟩ | ⟨t', ht', rfl⟩ | ⟨q, hq, _, rfl⟩
    · cases congrArg List.length hk
    · rw [← ptL_inj hk]; exact ht'
    · cases congrArg List.length hk
  generalize cellsV (lbornV ps) r = cs at *
  rw [List.map_map]
  refine rk_free (vec ∘ rowI (c2V cs)) (c3V cs) fun T hT hne => ?_
  have hTs : ∀ t ∈ T, t ∈ c3V cs := fun t ht => hT.subset ht
  obtain ⟨v, u, t0, h0, hvu, hv0, hu0, huniq⟩ := lone_edge g (fun t ht => ht3 t (hTs t ht)) hne
  have nd := List.Nodup.sublist hT (c3V_nodup C.nd)
  obtain ⟨s1, s2, p1, p2, p3⟩ := C.t t0 (hTs t0 h0)
  -- the edge as a pair
  obtain ⟨p, hp, hpr, hpv⟩ : ∃ p : Int × Int, (p = (t0.1, t0.2.1) ∨ p = (t0.1, t0.2.2) ∨ p = (t0.2.1, t0.2.2)) ∧ p ∈ c2V cs ∧ ((p.1 = v ∧ p.2 = u) ∨ (p.1 = u ∧ p.2 = v)) := by
    unfold ptL at hv0 hu0
    simp only [List.mem_cons, List.not_mem_nil, or_false] at hv0 hu0
    by_cases a : (v = t0.1 ∧ u = t0.2.1) ∨ (u = t0.1 ∧ v = t0.2.1)
    · exact ⟨_, .inl rfl, p1, by dsimp only; omega⟩
    · by_cases b : (v = t0.1 ∧ u = t0.2.2) ∨ (u = t0.1 ∧ v = t0.2.2)
      · exact ⟨_, .inr (.inl rfl), p2, by dsimp only; omega⟩
      · exact ⟨_, .inr (.inr rfl), p3, by dsimp only; omega⟩
  intro hz
  have h1 : sumv (T.map (vec ∘ rowI (c2V cs))) (idxV (c2V cs) p : Nat) = true := by
    refine sumv_one _ _ t0 T nd h0 ?_ fun t ht htn => ?_
    · show (rowI (c2V cs) t0).contains _ = true
      rw [List.contains_iff_mem]
      unfold rowI
      rcases hp with rfl | rfl | rfl <;> simp
    · cases q : (vec ∘ rowI (c2V cs)) t ((idxV (c2V cs) p : Nat) : Int) with
      | false => rfl
      | true =>
        exfalso
        have q := List.contains_iff_mem.mp (show (rowI (c2V cs) t).contains ((idxV (c2V cs) p : Nat) : Int) = true from q)
        obtain ⟨_, _, q1, q2, q3⟩ := C.t t (hTs t ht)
        have same : ∀ p' ∈ c2V cs, ((idxV (c2V cs) p : Nat) : Int) = (idxV (c2V cs) p' : Nat) → p' = p := fun p' hp' e => by
          have g1 := (idxV_get hpr).1
          have g2 := (idxV_get hp').1
          have e' : idxV (c2V cs) p = idxV (c2V cs) p' := by omega
          rw [e', g2] at g1
          exact Option.some.inj g1
        apply htn
        unfold rowI at q
        simp only [List.mem_cons, List.not_mem_nil, or_false] at q
        have hin : p.1 ∈ ptL t ∧ p.2 ∈ ptL t := by
          unfold ptL
          rcases q with q | q | q
          · rw [← same _ q1 q]; simp
          · rw [← same _ q2 q]; simp
          · rw [← same _ q3 q]; simp
        rcases hpv with ⟨e1, e2⟩ | ⟨e1, e2⟩
        · exact huniq t ht (by rw [← e1]; exact hin.1) (by rw [← e2]; exact hin.2)
        · exact huniq t ht (by rw [← e2]; exact hin.2) (by rw [← e1]; exact hin.1)
  rw [hz] at h1
  cases h1
end
theorem plain : Plain where
  gen ps h := made_gen h
  same ps h := same_table (made_gen h)
  tb ps h := table_ok (made_gen h)
  closed ps r h hr := table_closed (made_gen h) hr.d
  rows ps r h hr := by rw [rows_same (table_closed (made_gen h) hr.d)]
  free ps r h hr := free_rows (made_gen h) hr.d
end M
namespace M
open L2 PyProof.Rows PySem.Spec PySem
section
variable {P : Program} {w : World} {K : PySem.W.Frag} {mg : Str → Option Value} {base : Heap}
theorem law_rest (PL : Plain) (B : Blt mg) {a l : Addr}
    (h_pick : Fnm P w K mg base "_law_pick" PreP RP 2) (h_disks : Fnm P w K mg base "_law_disks" PreD RD 5) (h_radius : Fnm P w K mg base "_law_radius" PreR RR 4) (h_L_births : Fn P w K mg base "_law_births" R_lborn 4)
    (h_L_cells : Fn P w K mg base "_law_cells" R_lcells 2) (h_L_rank2 : Fn P w K mg base "_law_rank2" R_rank2 2) (h_ranks_at : Fn P w K mg base "ranks_at" R_ranks 8) (h_part_count : Fn P w K mg base "part_count" R_pcount 8) (h_hole_count : Fn P w K mg base "hole_count" R_hcount 8) (h_L_alike : Fn P w K mg base "_law_alike" R_alikeT 2) :
    PXBm ⟨P, w, K, mg, base, N_L_law, defScope s_L_law, 8, fun _ => true⟩ a ((defBody s_L_law).drop 1) [some (.x (.ref l)), some (.x (.ref a)), none, none, none, none, none, none, none, none, none, none, none] (fun _ => False) (fun s => s = bS true) := by
  -- def law
  refine pxbm_cons (pxsm_set (n := 2) (S := fun s => ∃ ps, Made ps ∧ s = psS ps) sc_L_law.nd rfl (by first | exact Or.inl rfl | exact Or.inr rfl) (.inl rfl) (pxm_call h_disks (Nat.le_of_ble_eq_true rfl) rfl (pxam_cons (px_m (S := fun s => s = .x (.ref a)) (px_var (n := 1) rfl (by first | exact Or.inl rfl | exact Or.inr (Or.inl rfl) | exact Or.inr (Or.inr rfl)) rfl) rfl) (pxam_cons (px_m (S := fun s => s = iS 1) px_int rfl) (pxam_cons (pxm_callP (S := fun s => ∃ m : Int, (m = 7 ∨ m = 9) ∧ s = iS m) h_pick (Nat.le_of_ble_eq_true rfl) rfl (pxa_cons (px_var (n := 1) rfl (by first | exact Or.inl rfl | exact Or.inr (Or.inl rfl) | exact Or.inr (Or.inr rfl)) rfl) (pxa_cons (px_lstI (pxi1 px_int (pxi1 px_int (pxi1 px_int (pxi1 px_int pxi0 (fun _ => rfl)) (fun _ => rfl)) (fun _ => rfl)) (fun _ => rfl))) pxa_nil (fun _ => rfl)) (fun _ => rfl)) ⟨_, rfl, by decide, by decide⟩ rfl (fun s hs => ?_) (fun _ => rfl) (fun _ => rfl)) pxam_nil (fun _ => rfl)) (fun _ => rfl)) (fun _ => rfl)) (fun ss hss => ?_) (fun _ => rfl) (fun _ => rfl)) (fun s ⟨_, _, hs⟩ => by rw [hs]; rfl) (fun _ => rfl)) ?_
  · obtain ⟨ds, d, e, hd, rfl⟩ := hs
    have e' : ds = [.int 7, .int 7, .int 7, .int 9] := by
      have := (List.cons.inj e).1
      injection this with this
      injection this with this
      exact this.symm
    subst e'
    simp only [List.mem_cons, List.not_mem_nil, or_false] at hd
    rcases hd with rfl | rfl | rfl | rfl
    · exact ⟨⟨7, .inl rfl, rfl⟩, rfl⟩
    · exact ⟨⟨7, .inl rfl, rfl⟩, rfl⟩
    · exact ⟨⟨7, .inl rfl, rfl⟩, rfl⟩
    · exact ⟨⟨9, .inr rfl, rfl⟩, rfl⟩
  · obtain ⟨_, _, rfl, rfl, _, _, rfl, rfl, _, _, rfl, ⟨m, hm, rfl⟩, rfl⟩ := hss
    refine ⟨[iS 1, iS m], rfl, ⟨m, rfl, hm⟩, by simp [Sl.own], fun s ⟨ps, mk, hs⟩ => ⟨⟨ps, mk, hs⟩, by rw [hs]; rfl⟩⟩
  rintro _ ⟨_, ⟨ps, mk, rfl⟩, rfl⟩
  (try conv => arg 4; simp only [slots, wipeD, List.map, List.length, List.append, List.replicate, List.set_cons_zero, List.set_cons_succ, List.cons_append, List.nil_append, Nat.add_sub_cancel])
  
  have g := PL.gen ps mk
  have tv := PL.tb ps mk
  refine pxbm_seq (pxs_m (pxs_set (n := 3) sc_L_law.nd rfl (by first | exact Or.inl rfl | exact Or.inr rfl) (.inl rfl) (px_call h_L_births (Nat.le_of_ble_eq_true rfl) rfl (pxa_cons (px_var (n := 2) rfl (by first | exact Or.inl rfl | exact Or.inr (Or.inl rfl) | exact Or.inr (Or.inr rfl)) rfl) pxa_nil (fun _ => rfl)) (r_lborn (by assumption)) rfl (fun _ => rfl) (fun _ => rfl)) rfl (fun _ => rfl))) ?_
  (try conv => arg 4; simp only [slots, wipeD, List.map, List.length, List.append, List.replicate, List.set_cons_zero, List.set_cons_succ, List.cons_append, List.nil_append, Nat.add_sub_cancel])
  
  refine pxbm_cons (nx1 := fun δ' => ∃ i4 i5 o6 o7 o8 o9 o10, δ' = [some (.x (.ref l)), some (.x (.ref a)), some (psS ps), some (.t (tbD (lbornV ps))), i4, i5, o6, o7, o8, o9, o10, none, none]) (pxsm_forT (enc := PyData.int) (ts := rgV 0 3) (fun k δ' => ∃ i4 i5 o6 o7 o8 o9 o10, δ' = [some (.x (.ref l)), some (.x (.ref a)), some (psS ps), some (.t (tbD (lbornV ps))), i4, i5, o6, o7, o8, o9, o10, none, none]) (src_range1V B.range rfl px_int (by omega) (fun _ => rfl)) ⟨_, _, _, _, _, _, _, rfl⟩ ?_ (fun _ h => h) (fun _ _ => rfl)) ?_
  · rintro k i _ hi ⟨i4, i5, o6, o7, o8, o9, o10, rfl⟩
    refine ⟨_, _, (pxg_name (n := 4) sc_L_law.nd rfl (by first | exact Or.inl rfl | exact Or.inr rfl) (.inl rfl)), ?_⟩
    (try conv => arg 4; simp only [slots, wipeD, List.map, List.length, List.append, List.replicate, List.set_cons_zero, List.set_cons_succ, List.cons_append, List.nil_append, Nat.add_sub_cancel])
    refine pxbm_cons (pxsm_set (n := 5) (S := fun s => ∃ r, (RtOk r ∧ BR 3000 r) ∧ s = rS r) sc_L_law.nd rfl (by first | exact Or.inl rfl | exact Or.inr rfl) (.inl rfl) (pxm_callP h_radius (Nat.le_of_ble_eq_true rfl) rfl (pxa_cons (px_var (n := 1) rfl (by first | exact Or.inl rfl | exact Or.inr (Or.inl rfl) | exact Or.inr (Or.inr rfl)) rfl) (pxa_cons (px_var (n := 3) rfl (by first | exact Or.inl rfl | exact Or.inr (Or.inl rfl) | exact Or.inr (Or.inr rfl)) rfl) pxa_nil (fun _ => rfl)) (fun _ => rfl)) ⟨lbornV ps, tv, rfl⟩ rfl (fun s ⟨r, h1, h2, hs⟩ => ⟨⟨r, ⟨h1, h2⟩, hs⟩, by rw [hs]; rfl⟩) (fun _ => rfl) (fun _ => rfl)) (fun s ⟨_, _, hs⟩ => by rw [hs]; rfl) (fun _ => rfl)) ?_
    rintro _ ⟨_, ⟨r, ⟨rok, rbr⟩, rfl⟩, rfl⟩
    (try conv => arg 4; simp only [slots, wipeD, List.map, List.length, List.append, List.replicate, List.set_cons_zero, List.set_cons_succ, List.cons_append, List.nil_append, Nat.add_sub_cancel])
    refine pxb_m (PXB.weak (law_turn PL B mk rok rbr h_L_cells h_L_rank2 h_ranks_at h_part_count h_hole_count h_L_alike) ?_)
    rintro _ ⟨i5, o6, o7, o8, o9, o10, rfl⟩
    exact ⟨_, _, _, _, _, _, _, rfl⟩
  rintro _ ⟨i4, i5, o6, o7, o8, o9, o10, rfl⟩
  exact pxbm_one (pxs_m (pxs_ret px_bl rfl))
theorem ok_law (PL : Plain) (B : Blt mg) {f : Addr} {fd : FuncData} (F : L2.Fun K "law" "law" s_L_law f fd)
    (h_pick : Fnm P w K mg base "_law_pick" PreP RP 2) (h_disks : Fnm P w K mg base "_law_disks" PreD RD 5) (h_radius : Fnm P w K mg base "_law_radius" PreR RR 4) (h_L_births : Fn P w K mg base "_law_births" R_lborn 4)
    (h_L_cells : Fn P w K mg base "_law_cells" R_lcells 2) (h_L_rank2 : Fn P w K mg base "_law_rank2" R_rank2 2) (h_ranks_at : Fn P w K mg base "ranks_at" R_ranks 8) (h_part_count : Fn P w K mg base "part_count" R_pcount 8) (h_hole_count : Fn P w K mg base "hole_count" R_hcount 8) (h_L_alike : Fn P w K mg base "_law_alike" R_alikeT 2) :
    FnOk P w K mg base CX0 9 f fd ["_law_script"] (spLaw K) := by
  refine F.ok sc_L_law (fun vs H Q E h => ?_) (fun cdv A outer s H vs Q E hr h => ?_)
  · obtain ⟨l, ns, rfl, _⟩ := h
    rfl
  · obtain ⟨l, ns, rfl, hS, q⟩ := h
    have hrest : ∀ a : Addr, _ := fun a => law_rest (P := P) (w := w) (K := K) (mg := mg) (base := base) (a := a) (l := l) PL B h_pick h_disks h_radius h_L_births h_L_cells h_L_rank2 h_ranks_at h_part_count h_hole_count h_L_alike
    refine ⟨_, pss_cons (ps_set (i := 1) sc_L_law.nd rfl (.inl rfl) (pe_lst (pa_cons (pe_var (i := 0) rfl (.inl rfl)) (pa_cons pe_int (pa_cons pe_int (pa_cons pe_int pa_nil)))))) (u := fun D σ H => ∃ a : Addr, tXSm K a [some (.x (.ref l)), some (.x (.ref a)), none, none, none, none, none, none, none, none, none, none, none] (fun _ => False) (fun s => s = bS true) D σ H) ⟨fun pins s σ H D I z => ?_⟩, ?_⟩
    · obtain ⟨a, z⟩ := z
      exact (hrest a _ ⟨rfl, rfl, rfl, rfl, rfl, rfl, rfl, rfl, hr, fun _ _ => rfl, rfl⟩).run pins s σ H D I z
    · refine ⟨_, rfl, ⟨(show (4 : Nat) ≤ sizeLine by decide), fun p hp => ⟨p, ⟨fun b => b = p, H, upd H p (rowL l 0 3262 0)⟩, H, ?_, fun _ _ _ _ _ _ z => z.elim, fun v s2 G' H' _ _ hv hs => ?_⟩⟩⟩
      · have row : RowH K H (upd H p (rowL l 0 3262 0)) p := ⟨hp, l, ns, 0, 3262, 0, hS, upd_same, by decide, by decide, by decide, by decide⟩
        refine ⟨⟨wok_startM (Ex.new hp) row, rfl, fun i s hi => ?_, fun i j si sj b hi hj oi => ?_⟩, fun b => Iff.rfl, row⟩
        · rcases i with _ | _ | i
          · have := Option.some.inj (Option.some.inj hi); subst this; exact ⟨_, rfl, rfl⟩
          · have := Option.some.inj (Option.some.inj hi); subst this; exact ⟨_, rfl, rfl⟩
          · exfalso
            have hm := List.mem_of_getElem? hi
            have : (some s) ∈ [(none : Option Sl), none, none, none, none, none, none, none, none, none, none] := by
              have := hi
              simp only [List.getElem?_cons_succ] at this
              exact List.mem_of_getElem? this
            simp at this
        · exfalso
          rcases i with _ | _ | i
          · have := Option.some.inj (Option.some.inj hi); subst this; cases oi
          · have := Option.some.inj (Option.some.inj hi); subst this; cases oi
          · have : (some si) ∈ [(none : Option Sl), none, none, none, none, none, none, none, none, none, none] := by
              have := hi
              simp only [List.getElem?_cons_succ] at this
              exact List.mem_of_getElem? this
            simp at this
      · subst hs
        rw [rs_bl hv]
        exact q H'
end
end M
namespace M
open L2 PyProof.Rows PySem.Spec PySem
theorem def_mk {K : PySem.W.Frag} {h : Heap} {mg : Str → Option Value} {x : Str} {st : Stmt} {ps : List Str} {f : Addr} {oc : Value} {od an : Option Addr} {osl : Array (Option Value)} {kV doc pm cdv ct : Value} (X : K.In h) (G : h.Ns mainGlobals mg)
    (a : PySem.W.nsIn K mainGlobals x = some (some (.ref f))) (l : K.lookup f = some ⟨oc, od, .func (PySem.W.fnOf x x (defArgs st) (defBody st) (defScope st) .none kV doc pm an cdv ct), osl⟩) (c : PySem.W.codeIn K cdv x = true) (k : PySem.W.keepIn K (.ref f) = true)
    (b : ∀ (kV doc pm : Value) (an : Option Addr) (cdv ct : Value) (us : List Value), us.length = ps.length → bindArgs (PySem.W.fnOf x x (defArgs st) (defBody st) (defScope st) .none kV doc pm an cdv ct) ⟨us, []⟩ = pure (ps.zip us)) : DefAt K mg x st ps :=
  ⟨f, _, fun_mk l c k, PySem.W.mg_of X G a, (fun_mk l c k).binds b⟩
theorem int_mk {K : PySem.W.Frag} {h : Heap} {mg : Str → Option Value} {x : Str} {i : Int} {t : Tok} (X : K.In h) (G : h.Ns mainGlobals mg) (a : PySem.W.nsIn K mainGlobals x = some (some (.int i t))) : ∃ t, mg x = some (.int i t) := ⟨t, PySem.W.mg_of X G a⟩
theorem tup_mk {K : PySem.W.Frag} {h : Heap} {mg : Str → Option Value} {x : Str} {ns : List Int} {u : Addr} {od : Option Addr} {its : Array Value} {n : Nat} {osl : Array (Option Value)} (X : K.In h) (G : h.Ns mainGlobals mg) (a : PySem.W.nsIn K mainGlobals x = some (some (.ref u)))
    (l : K.lookup u = some ⟨.type "tuple", od, .seq its n, osl⟩) (v : Vals (ns.map V.int) its.toList) (hz : its.size ≤ sizeLine := by decide) : ∃ u, mg x = some (.ref u) ∧ ∀ H, SqT K H u (ns.map V.int) :=
  ⟨u, PySem.W.mg_of X G a, fun H => .inr ⟨_, its, n, l, rfl, rfl, hz, v⟩⟩
/-- every def that the law reaches stands there -/
structure Defs (K : PySem.W.Frag) (mg : Str → Option Value) : Prop where
  d_gcd : DefAt K mg "gcd" s_gcd ["one", "other"]
  d_reduced : DefAt K mg "reduced" s_reduced ["numerator", "denominator"]
  d_times : DefAt K mg "times" s_times ["one", "other"]
  d_is_below : DefAt K mg "is_below" s_is_below ["one", "other"]
  d_sign : DefAt K mg "sign" s_sign ["number"]
  d_lowest : DefAt K mg "lowest" s_lowest ["x", "y", "w"]
  d_far2 : DefAt K mg "far2" s_far2 ["a", "b"]
  d_doubled : DefAt K mg "doubled" s_doubled ["a", "b", "c"]
  d_turn_of : DefAt K mg "turn_of" s_turn_of ["a", "b", "c"]
  d_minor : DefAt K mg "minor" s_minor ["a", "b", "c"]
  d_in_diameter : DefAt K mg "in_diameter" s_in_diameter ["a", "b", "p"]
  d_L_gcd : DefAt K mg "_law_gcd" s_L_gcd ["_law_one", "_law_other"]
  d_L_ratio : DefAt K mg "_law_ratio" s_L_ratio ["_law_numerator", "_law_denominator"]
  d_L_lowest : DefAt K mg "_law_lowest" s_L_lowest ["_law_x", "_law_y", "_law_w"]
  d_L_times : DefAt K mg "_law_times" s_L_times ["_law_one", "_law_other"]
  d_L_plus : DefAt K mg "_law_plus" s_L_plus ["_law_one", "_law_other"]
  d_L_less : DefAt K mg "_law_less" s_L_less ["_law_one", "_law_other"]
  d_L_sign : DefAt K mg "_law_sign" s_L_sign ["_law_number"]
  d_L_doubled : DefAt K mg "_law_doubled" s_L_doubled ["_law_a", "_law_b", "_law_c"]
  d_L_turn : DefAt K mg "_law_turn" s_L_turn ["_law_a", "_law_b", "_law_c"]
  d_L_in_diameter : DefAt K mg "_law_in_diameter" s_L_in_diameter ["_law_a", "_law_b", "_law_p"]
  d_L_det : DefAt K mg "_law_det" s_L_det ["_law_a", "_law_b", "_law_c"]
  d_L_far2 : DefAt K mg "_law_far2" s_L_far2 ["_law_a", "_law_b"]
  d_L_area2 : DefAt K mg "_law_area2" s_L_area2 ["_law_a", "_law_b", "_law_c"]
  d_common_weight : DefAt K mg "common_weight" s_common_weight ["points"]
  d_scaled : DefAt K mg "scaled" s_scaled ["points"]
  d_side_of : DefAt K mg "side_of" s_side_of ["a", "b", "c", "d"]
  d_center_of : DefAt K mg "center_of" s_center_of ["a", "b", "c"]
  d_pairs_in : DefAt K mg "pairs_in" s_pairs_in ["many"]
  d_triples_in : DefAt K mg "triples_in" s_triples_in ["many"]
  d_L_pairs : DefAt K mg "_law_pairs" s_L_pairs ["_law_many"]
  d_L_triples : DefAt K mg "_law_triples" s_L_triples ["_law_many"]
  d_is_in : DefAt K mg "is_in" s_is_in ["value", "least", "most"]
  d_is_ratio : DefAt K mg "is_ratio" s_is_ratio ["value"]
  d_need_radius : DefAt K mg "need_radius" s_need_radius ["r"]
  d_is_point : DefAt K mg "is_point" s_is_point ["value"]
  d_need_points : DefAt K mg "need_points" s_need_points ["value"]
  d_L_in_circle : DefAt K mg "_law_in_circle" s_L_in_circle ["_law_a", "_law_b", "_law_c", "_law_d"]
  d_least_of : DefAt K mg "least_of" s_least_of ["values"]
  d_need_disks : DefAt K mg "need_disks" s_need_disks ["points"]
  d_triples_of : DefAt K mg "triples_of" s_triples_of ["points"]
  d_born : DefAt K mg "born" s_born ["points"]
  d_L_births : DefAt K mg "_law_births" s_L_births ["_law_points"]
  d_L_added : DefAt K mg "_law_added" s_L_added ["_law_one", "_law_other"]
  d_of_size : DefAt K mg "of_size" s_of_size ["cells", "size"]
  d_parts_in : DefAt K mg "parts_in" s_parts_in ["many", "pairs"]
  d_rank_of_rows : DefAt K mg "rank_of_rows" s_rank_of_rows ["rows"]
  d_L_rank2 : DefAt K mg "_law_rank2" s_L_rank2 ["_law_rows", "_law_wide"]
  d_cells_at : DefAt K mg "cells_at" s_cells_at ["points", "r"]
  d_L_cells : DefAt K mg "_law_cells" s_L_cells ["_law_table", "_law_r"]
  d_ranks_at : DefAt K mg "ranks_at" s_ranks_at ["points", "r"]
  d_part_count : DefAt K mg "part_count" s_part_count ["points", "r"]
  d_hole_count : DefAt K mg "hole_count" s_hole_count ["points", "r"]
  d_L_alike : DefAt K mg "_law_alike" s_L_alike ["_law_found", "_law_due"]
  d_L_fits_disks : DefAt K mg "_law_fits_disks" s_L_fits_disks ["_law_points", "_law_p"]
  d_L_taken : DefAt K mg "_law_taken" s_L_taken ["_law_row", "_law_many"]
  d_L_pick : DefAt K mg "_law_pick" s_L_pick ["_law_row", "_law_things"]
  d_L_signed : DefAt K mg "_law_signed" s_L_signed ["_law_row", "_law_most"]
  d_L_grid : DefAt K mg "_law_grid" s_L_grid ["_law_row", "_law_size"]
  d_L_disks : DefAt K mg "_law_disks" s_L_disks ["_law_row", "_law_least", "_law_most"]
  d_L_radius : DefAt K mg "_law_radius" s_L_radius ["_law_row", "_law_table"]
theorem law_all {P : Program} {w : World} {K : PySem.W.Frag} {mg : Str → Option Value} {base : Heap} (PL : Plain) (B : Blt mg) (C : Cst K mg) (Df : Defs K mg) {f : Addr} {fd : FuncData} (F : L2.Fun K "law" "law" s_L_law f fd) : FnOk P w K mg base CX0 9 f fd ["_law_script"] (spLaw K) := by
  have h_gcd := fn_gcd (P := P) (w := w) (K := K) (mg := mg) (base := base) B Df.d_gcd
  have h_reduced := fn_reduced (P := P) (w := w) (K := K) (mg := mg) (base := base) B Df.d_reduced h_gcd
  have h_times := fn_times (P := P) (w := w) (K := K) (mg := mg) (base := base) B Df.d_times h_reduced
  have h_is_below := fn_is_below (P := P) (w := w) (K := K) (mg := mg) (base := base) B Df.d_is_below
  have h_sign := fn_sign (P := P) (w := w) (K := K) (mg := mg) (base := base) B Df.d_sign
  have h_lowest := fn_lowest (P := P) (w := w) (K := K) (mg := mg) (base := base) B Df.d_lowest h_gcd
  have h_far2 := fn_far2 (P := P) (w := w) (K := K) (mg := mg) (base := base) B Df.d_far2 h_reduced
  have h_doubled := fn_doubled (P := P) (w := w) (K := K) (mg := mg) (base := base) B Df.d_doubled
  have h_turn_of := fn_turn_of (P := P) (w := w) (K := K) (mg := mg) (base := base) B Df.d_turn_of h_sign h_doubled
  have h_minor := fn_minor (P := P) (w := w) (K := K) (mg := mg) (base := base) B Df.d_minor
  have h_in_diameter := fn_in_diameter (P := P) (w := w) (K := K) (mg := mg) (base := base) B Df.d_in_diameter
  have h_L_gcd := fn_L_gcd (P := P) (w := w) (K := K) (mg := mg) (base := base) B Df.d_L_gcd
  have h_L_ratio := fn_L_ratio (P := P) (w := w) (K := K) (mg := mg) (base := base) B Df.d_L_ratio h_L_gcd
  have h_L_lowest := fn_L_lowest (P := P) (w := w) (K := K) (mg := mg) (base := base) B Df.d_L_lowest h_L_gcd
  have h_L_times := fn_L_times (P := P) (w := w) (K := K) (mg := mg) (base := base) B Df.d_L_times h_L_ratio
  have h_L_plus := fn_L_plus (P := P) (w := w) (K := K) (mg := mg) (base := base) B Df.d_L_plus h_L_ratio
  have h_L_less := fn_L_less (P := P) (w := w) (K := K) (mg := mg) (base := base) B Df.d_L_less
  have h_L_sign := fn_L_sign (P := P) (w := w) (K := K) (mg := mg) (base := base) B Df.d_L_sign
  have h_L_doubled := fn_L_doubled (P := P) (w := w) (K := K) (mg := mg) (base := base) B Df.d_L_doubled
  have h_L_turn := fn_L_turn (P := P) (w := w) (K := K) (mg := mg) (base := base) B Df.d_L_turn h_L_sign h_L_doubled
  have h_L_in_diameter := fn_L_in_diameter (P := P) (w := w) (K := K) (mg := mg) (base := base) B Df.d_L_in_diameter h_L_sign
  have h_L_det := fn_L_det (P := P) (w := w) (K := K) (mg := mg) (base := base) B Df.d_L_det
  have h_L_far2 := fn_L_far2 (P := P) (w := w) (K := K) (mg := mg) (base := base) B Df.d_L_far2 h_L_ratio
  have h_L_area2 := fn_L_area2 (P := P) (w := w) (K := K) (mg := mg) (base := base) B Df.d_L_area2 h_L_ratio h_L_doubled
  have h_common_weight := fn_common_weight (P := P) (w := w) (K := K) (mg := mg) (base := base) B Df.d_common_weight h_gcd
  have h_scaled := fn_scaled (P := P) (w := w) (K := K) (mg := mg) (base := base) B Df.d_scaled h_common_weight
  have h_side_of := fn_side_of (P := P) (w := w) (K := K) (mg := mg) (base := base) B Df.d_side_of h_scaled h_sign h_minor h_turn_of
  have h_center_of := fn_center_of (P := P) (w := w) (K := K) (mg := mg) (base := base) B Df.d_center_of h_scaled h_lowest
  have h_pairs_in := fn_pairs_in (P := P) (w := w) (K := K) (mg := mg) (base := base) B Df.d_pairs_in
  have h_triples_in := fn_triples_in (P := P) (w := w) (K := K) (mg := mg) (base := base) B Df.d_triples_in h_pairs_in
  have h_L_pairs := fn_L_pairs (P := P) (w := w) (K := K) (mg := mg) (base := base) B Df.d_L_pairs
  have h_L_triples := fn_L_triples (P := P) (w := w) (K := K) (mg := mg) (base := base) B Df.d_L_triples
  have h_is_in := fn_is_in (P := P) (w := w) (K := K) (mg := mg) (base := base) B Df.d_is_in
  have h_is_ratio := fn_is_ratio (P := P) (w := w) (K := K) (mg := mg) (base := base) B Df.d_is_ratio h_gcd
  have h_need_radius := fn_need_radius (P := P) (w := w) (K := K) (mg := mg) (base := base) B Df.d_need_radius h_is_ratio
  have h_is_point := fn_is_point (P := P) (w := w) (K := K) (mg := mg) (base := base) B C Df.d_is_point h_gcd h_is_in
  have h_need_points := fn_need_points (P := P) (w := w) (K := K) (mg := mg) (base := base) B C Df.d_need_points h_is_point
  have h_L_in_circle := fn_L_in_circle (P := P) (w := w) (K := K) (mg := mg) (base := base) B Df.d_L_in_circle h_L_sign h_L_det h_L_turn
  have h_least_of := fn_least_of (P := P) (w := w) (K := K) (mg := mg) (base := base) B Df.d_least_of h_is_below
  have h_need_disks := fn_need_disks (P := P) (w := w) (K := K) (mg := mg) (base := base) B C Df.d_need_disks h_need_points h_triples_in h_pairs_in h_turn_of h_in_diameter h_side_of
  have h_triples_of := fn_triples_of (P := P) (w := w) (K := K) (mg := mg) (base := base) B Df.d_triples_of h_triples_in h_side_of
  have h_born := fn_born (P := P) (w := w) (K := K) (mg := mg) (base := base) B C Df.d_born h_triples_of h_pairs_in h_far2 h_center_of h_in_diameter h_times h_least_of
  have h_L_births := fn_L_births (P := P) (w := w) (K := K) (mg := mg) (base := base) B Df.d_L_births h_L_triples h_L_pairs h_L_in_circle h_L_in_diameter h_L_times h_L_far2 h_L_area2 h_L_ratio h_L_less
  have h_L_added := fn_L_added (P := P) (w := w) (K := K) (mg := mg) (base := base) B Df.d_L_added
  have h_of_size := fn_of_size (P := P) (w := w) (K := K) (mg := mg) (base := base) B Df.d_of_size
  have h_parts_in := fn_parts_in (P := P) (w := w) (K := K) (mg := mg) (base := base) B Df.d_parts_in
  have h_rank_of_rows := fn_rank_of_rows (P := P) (w := w) (K := K) (mg := mg) (base := base) B Df.d_rank_of_rows
  have h_L_rank2 := fn_L_rank2 (P := P) (w := w) (K := K) (mg := mg) (base := base) B Df.d_L_rank2 h_L_added
  have h_cells_at := fn_cells_at (P := P) (w := w) (K := K) (mg := mg) (base := base) B Df.d_cells_at h_born h_is_below
  have h_L_cells := fn_L_cells (P := P) (w := w) (K := K) (mg := mg) (base := base) B Df.d_L_cells h_L_less
  have h_ranks_at := fn_ranks_at (P := P) (w := w) (K := K) (mg := mg) (base := base) B Df.d_ranks_at h_need_disks h_need_radius h_cells_at h_of_size h_rank_of_rows
  have h_part_count := fn_part_count (P := P) (w := w) (K := K) (mg := mg) (base := base) B Df.d_part_count h_need_disks h_need_radius h_cells_at h_of_size h_parts_in
  have h_hole_count := fn_hole_count (P := P) (w := w) (K := K) (mg := mg) (base := base) B Df.d_hole_count h_need_disks h_need_radius h_cells_at h_of_size h_parts_in
  have h_L_alike := fn_L_alikeT (P := P) (w := w) (K := K) (mg := mg) (base := base) B Df.d_L_alike
  have h_L_fits_disks := fn_L_fits_disks (P := P) (w := w) (K := K) (mg := mg) (base := base) B Df.d_L_fits_disks h_L_turn h_L_in_diameter h_L_in_circle
  have h_taken := fnm_taken (P := P) (w := w) (K := K) (mg := mg) (base := base) B Df.d_L_taken
  have h_pick := fnm_pick (P := P) (w := w) (K := K) (mg := mg) (base := base) B Df.d_L_pick h_taken
  have h_signed := fnm_signed (P := P) (w := w) (K := K) (mg := mg) (base := base) B Df.d_L_signed h_taken
  have h_grid := fnm_grid (P := P) (w := w) (K := K) (mg := mg) (base := base) B Df.d_L_grid h_signed
  have h_disks := fnm_disks (P := P) (w := w) (K := K) (mg := mg) (base := base) B Df.d_L_disks h_taken h_pick h_grid h_L_fits_disks h_L_lowest
  have h_radius := fnm_radius (P := P) (w := w) (K := K) (mg := mg) (base := base) B Df.d_L_radius h_taken h_pick h_L_plus h_L_ratio h_L_less
  exact ok_law PL B F h_pick h_disks h_radius h_L_births h_L_cells h_L_rank2 h_ranks_at h_part_count h_hole_count h_L_alike
theorem law_top {l : PySem.W.OpenLaw} {w : World} {K : PySem.W.Frag} {h : Heap} {mg : Str → Option Value} {fa f : Addr} {oc : Value} {od an : Option Addr} {osl : Array (Option Value)} {kV doc pm cdv ct : Value} (PL : Plain) (X : K.In h) (G : h.Ns mainGlobals mg) (hfa : mg "law" = some (.ref fa)) (B : Blt mg) (C : Cst K mg) (Df : Defs K mg)
    (a : PySem.W.nsIn K mainGlobals "law" = some (some (.ref f))) (lk : K.lookup f = some ⟨oc, od, .func (PySem.W.fnOf "law" "law" (defArgs s_L_law) (defBody s_L_law) (defScope s_L_law) .none kV doc pm an cdv ct), osl⟩) (c : PySem.W.codeIn K cdv "law" = true) (k : PySem.W.keepIn K (.ref f) = true) :
    ∃ fd : FuncData, (∀ (s : Shared) (v : Value), BindsTo s fd ⟨[v], []⟩ [("_law_script", v)]) ∧ ∀ base : Heap, K.In base → base.Ns mainGlobals mg → FnOk l.prog w K mg base CX0 9 fa fd ["_law_script"] (spLaw K) := by
  have e := hfa.symm.trans (PySem.W.mg_of X G a)
  cases e
  exact ⟨PySem.W.fnOf "law" "law" (defArgs s_L_law) (defBody s_L_law) (defScope s_L_law) .none kV doc pm an cdv ct, fun s v => .of_eq rfl, fun base _ _ => law_all PL B C Df (fun_mk lk c k)⟩
end M
open L2 PySem.Spec PyProof.Rows PySem.W PySem
set_option maxRecDepth 100000 in
set_option maxHeartbeats 0 in
theorem PySem.Challenge.cw_meshcore_k62_whole_ranks_holds : PySem.Challenge.rw_meshcore_k62_whole_ranks.Holds := by
  w_on; o_law; k_head; (case hw => w_witness2)
  k_fill
  refine L2.walk_of (l := PySem.Challenge.rw_meshcore_k62_whole_ranks) (n := 63) (k := 9) (x := "_law_script") (CX := fun _ => L2.CX0) (sp := fun w => M.spLaw _) rfl (by decide) rfl ⟨rfl, by decide, by decide⟩ (fun w h Y => PySem.W.kIn_of Y) ?F (fun _ _ a ns hl _ hS => ⟨a, ns, rfl, hS, fun _ => rfl⟩) (fun _ _ _ _ _ h => h)
  case F =>
    intro w mg fa h KX G hmg
    have hB : M.Blt mg := by
      refine' ⟨PySem.W.mg_none_of KX G ?z1, PySem.W.mg_none_of KX G ?z2, PySem.W.mg_none_of KX G ?z3, PySem.W.mg_none_of KX G ?z4, PySem.W.mg_none_of KX G ?z5, PySem.W.mg_none_of KX G ?z6, PySem.W.mg_none_of KX G ?z7, PySem.W.mg_none_of KX G ?z8, PySem.W.mg_none_of KX G ?z9, PySem.W.mg_none_of KX G ?z10, PySem.W.mg_none_of KX G ?z11, PySem.W.mg_none_of KX G ?z12⟩
      (case z1 => k_is); (case z2 => k_is); (case z3 => k_is); (case z4 => k_is); (case z5 => k_is); (case z6 => k_is); (case z7 => k_is); (case z8 => k_is); (case z9 => k_is); (case z10 => k_is); (case z11 => k_is); (case z12 => k_is)
    have d_gcd := by
      refine' M.def_mk (x := "gcd") (st := M.s_gcd) (ps := ["one", "other"]) KX G ?a ?l ?c ?k ?b
      (case a => k_is); (case l => k_is); (case c => k_is); (case k => k_is); (case b => exact fun _ _ _ _ _ _ us hl => match us, hl with | [_, _], _ => rfl)
    have d_reduced := by
      refine' M.def_mk (x := "reduced") (st := M.s_reduced) (ps := ["numerator", "denominator"]) KX G ?a ?l ?c ?k ?b
      (case a => k_is); (case l => k_is); (case c => k_is); (case k => k_is); (case b => exact fun _ _ _ _ _ _ us hl => match us, hl with | [_, _], _ => rfl)
    have d_times := by
      refine' M.def_mk (x := "times") (st := M.s_times) (ps := ["one", "other"]) KX G ?a ?l ?c ?k ?b
      (case a => k_is); (case l => k_is); (case c => k_is); (case k => k_is); (case b => exact fun _ _ _ _ _ _ us hl => match us, hl with | [_, _], _ => rfl)
    have d_is_below := by
      refine' M.def_mk (x := "is_below") (st := M.s_is_below) (ps := ["one", "other"]) KX G ?a ?l ?c ?k ?b
      (case a => k_is); (case l => k_is); (case c => k_is); (case k => k_is); (case b => exact fun _ _ _ _ _ _ us hl => match us, hl with | [_, _], _ => rfl)
    have d_sign := by
      refine' M.def_mk (x := "sign") (st := M.s_sign) (ps := ["number"]) KX G ?a ?l ?c ?k ?b
      (case a => k_is); (case l => k_is); (case c => k_is); (case k => k_is); (case b => exact fun _ _ _ _ _ _ us hl => match us, hl with | [_], _ => rfl)
    have d_lowest := by
      refine' M.def_mk (x := "lowest") (st := M.s_lowest) (ps := ["x", "y", "w"]) KX G ?a ?l ?c ?k ?b
      (case a => k_is); (case l => k_is); (case c => k_is); (case k => k_is); (case b => exact fun _ _ _ _ _ _ us hl => match us, hl with | [_, _, _], _ => rfl)
    have d_far2 := by
      refine' M.def_mk (x := "far2") (st := M.s_far2) (ps := ["a", "b"]) KX G ?a ?l ?c ?k ?b
      (case a => k_is); (case l => k_is); (case c => k_is); (case k => k_is); (case b => exact fun _ _ _ _ _ _ us hl => match us, hl with | [_, _], _ => rfl)
    have d_doubled := by
      refine' M.def_mk (x := "doubled") (st := M.s_doubled) (ps := ["a", "b", "c"]) KX G ?a ?l ?c ?k ?b
      (case a => k_is); (case l => k_is); (case c => k_is); (case k => k_is); (case b => exact fun _ _ _ _ _ _ us hl => match us, hl with | [_, _, _], _ => rfl)
    have d_turn_of := by
      refine' M.def_mk (x := "turn_of") (st := M.s_turn_of) (ps := ["a", "b", "c"]) KX G ?a ?l ?c ?k ?b
      (case a => k_is); (case l => k_is); (case c => k_is); (case k => k_is); (case b => exact fun _ _ _ _ _ _ us hl => match us, hl with | [_, _, _], _ => rfl)
    have d_minor := by
      refine' M.def_mk (x := "minor") (st := M.s_minor) (ps := ["a", "b", "c"]) KX G ?a ?l ?c ?k ?b
      (case a => k_is); (case l => k_is); (case c => k_is); (case k => k_is); (case b => exact fun _ _ _ _ _ _ us hl => match us, hl with | [_, _, _], _ => rfl)
    have d_in_diameter := by
      refine' M.def_mk (x := "in_diameter") (st := M.s_in_diameter) (ps := ["a", "b", "p"]) KX G ?a ?l ?c ?k ?b
      (case a => k_is); (case l => k_is); (case c => k_is); (case k => k_is); (case b => exact fun _ _ _ _ _ _ us hl => match us, hl with | [_, _, _], _ => rfl)
    have d_L_gcd := by
      refine' M.def_mk (x := "_law_gcd") (st := M.s_L_gcd) (ps := ["_law_one", "_law_other"]) KX G ?a ?l ?c ?k ?b
      (case a => k_is); (case l => k_is); (case c => k_is); (case k => k_is); (case b => exact fun _ _ _ _ _ _ us hl => match us, hl with | [_, _], _ => rfl)
    have d_L_ratio := by
      refine' M.def_mk (x := "_law_ratio") (st := M.s_L_ratio) (ps := ["_law_numerator", "_law_denominator"]) KX G ?a ?l ?c ?k ?b
      (case a => k_is); (case l => k_is); (case c => k_is); (case k => k_is); (case b => exact fun _ _ _ _ _ _ us hl => match us, hl with | [_, _], _ => rfl)
    have d_L_lowest := by
      refine' M.def_mk (x := "_law_lowest") (st := M.s_L_lowest) (ps := ["_law_x", "_law_y", "_law_w"]) KX G ?a ?l ?c ?k ?b
      (case a => k_is); (case l => k_is); (case c => k_is); (case k => k_is); (case b => exact fun _ _ _ _ _ _ us hl => match us, hl with | [_, _, _], _ => rfl)
    have d_L_times := by
      refine' M.def_mk (x := "_law_times") (st := M.s_L_times) (ps := ["_law_one", "_law_other"]) KX G ?a ?l ?c ?k ?b
      (case a => k_is); (case l => k_is); (case c => k_is); (case k => k_is); (case b => exact fun _ _ _ _ _ _ us hl => match us, hl with | [_, _], _ => rfl)
    have d_L_plus := by
      refine' M.def_mk (x := "_law_plus") (st := M.s_L_plus) (ps := ["_law_one", "_law_other"]) KX G ?a ?l ?c ?k ?b
      (case a => k_is); (case l => k_is); (case c => k_is); (case k => k_is); (case b => exact fun _ _ _ _ _ _ us hl => match us, hl with | [_, _], _ => rfl)
    have d_L_less := by
      refine' M.def_mk (x := "_law_less") (st := M.s_L_less) (ps := ["_law_one", "_law_other"]) KX G ?a ?l ?c ?k ?b
      (case a => k_is); (case l => k_is); (case c => k_is); (case k => k_is); (case b => exact fun _ _ _ _ _ _ us hl => match us, hl with | [_, _], _ => rfl)
    have d_L_sign := by
      refine' M.def_mk (x := "_law_sign") (st := M.s_L_sign) (ps := ["_law_number"]) KX G ?a ?l ?c ?k ?b
      (case a => k_is); (case l => k_is); (case c => k_is); (case k => k_is); (case b => exact fun _ _ _ _ _ _ us hl => match us, hl with | [_], _ => rfl)
    have d_L_doubled := by
      refine' M.def_mk (x := "_law_doubled") (st := M.s_L_doubled) (ps := ["_law_a", "_law_b", "_law_c"]) KX G ?a ?l ?c ?k ?b
      (case a => k_is); (case l => k_is); (case c => k_is); (case k => k_is); (case b => exact fun _ _ _ _ _ _ us hl => match us, hl with | [_, _, _], _ => rfl)
    have d_L_turn := by
      refine' M.def_mk (x := "_law_turn") (st := M.s_L_turn) (ps := ["_law_a", "_law_b", "_law_c"]) KX G ?a ?l ?c ?k ?b
      (case a => k_is); (case l => k_is); (case c => k_is); (case k => k_is); (case b => exact fun _ _ _ _ _ _ us hl => match us, hl with | [_, _, _], _ => rfl)
    have d_L_in_diameter := by
      refine' M.def_mk (x := "_law_in_diameter") (st := M.s_L_in_diameter) (ps := ["_law_a", "_law_b", "_law_p"]) KX G ?a ?l ?c ?k ?b
      (case a => k_is); (case l => k_is); (case c => k_is); (case k => k_is); (case b => exact fun _ _ _ _ _ _ us hl => match us, hl with | [_, _, _], _ => rfl)
    have d_L_det := by
      refine' M.def_mk (x := "_law_det") (st := M.s_L_det) (ps := ["_law_a", "_law_b", "_law_c"]) KX G ?a ?l ?c ?k ?b
      (case a => k_is); (case l => k_is); (case c => k_is); (case k => k_is); (case b => exact fun _ _ _ _ _ _ us hl => match us, hl with | [_, _, _], _ => rfl)
    have d_L_far2 := by
      refine' M.def_mk (x := "_law_far2") (st := M.s_L_far2) (ps := ["_law_a", "_law_b"]) KX G ?a ?l ?c ?k ?b
      (case a => k_is); (case l => k_is); (case c => k_is); (case k => k_is); (case b => exact fun _ _ _ _ _ _ us hl => match us, hl with | [_, _], _ => rfl)
    have d_L_area2 := by
      refine' M.def_mk (x := "_law_area2") (st := M.s_L_area2) (ps := ["_law_a", "_law_b", "_law_c"]) KX G ?a ?l ?c ?k ?b
      (case a => k_is); (case l => k_is); (case c => k_is); (case k => k_is); (case b => exact fun _ _ _ _ _ _ us hl => match us, hl with | [_, _, _], _ => rfl)
    have d_common_weight := by
      refine' M.def_mk (x := "common_weight") (st := M.s_common_weight) (ps := ["points"]) KX G ?a ?l ?c ?k ?b
      (case a => k_is); (case l => k_is); (case c => k_is); (case k => k_is); (case b => exact fun _ _ _ _ _ _ us hl => match us, hl with | [_], _ => rfl)
    have d_scaled := by
      refine' M.def_mk (x := "scaled") (st := M.s_scaled) (ps := ["points"]) KX G ?a ?l ?c ?k ?b
      (case a => k_is); (case l => k_is); (case c => k_is); (case k => k_is); (case b => exact fun _ _ _ _ _ _ us hl => match us, hl with | [_], _ => rfl)
    have d_side_of := by
      refine' M.def_mk (x := "side_of") (st := M.s_side_of) (ps := ["a", "b", "c", "d"]) KX G ?a ?l ?c ?k ?b
      (case a => k_is); (case l => k_is); (case c => k_is); (case k => k_is); (case b => exact fun _ _ _ _ _ _ us hl => match us, hl with | [_, _, _, _], _ => rfl)
    have d_center_of := by
      refine' M.def_mk (x := "center_of") (st := M.s_center_of) (ps := ["a", "b", "c"]) KX G ?a ?l ?c ?k ?b
      (case a => k_is); (case l => k_is); (case c => k_is); (case k => k_is); (case b => exact fun _ _ _ _ _ _ us hl => match us, hl with | [_, _, _], _ => rfl)
    have d_pairs_in := by
      refine' M.def_mk (x := "pairs_in") (st := M.s_pairs_in) (ps := ["many"]) KX G ?a ?l ?c ?k ?b
      (case a => k_is); (case l => k_is); (case c => k_is); (case k => k_is); (case b => exact fun _ _ _ _ _ _ us hl => match us, hl with | [_], _ => rfl)
    have d_triples_in := by
      refine' M.def_mk (x := "triples_in") (st := M.s_triples_in) (ps := ["many"]) KX G ?a ?l ?c ?k ?b
      (case a => k_is); (case l => k_is); (case c => k_is); (case k => k_is); (case b => exact fun _ _ _ _ _ _ us hl => match us, hl with | [_], _ => rfl)
    have d_L_pairs := by
      refine' M.def_mk (x := "_law_pairs") (st := M.s_L_pairs) (ps := ["_law_many"]) KX G ?a ?l ?c ?k ?b
      (case a => k_is); (case l => k_is); (case c => k_is); (case k => k_is); (case b => exact fun _ _ _ _ _ _ us hl => match us, hl with | [_], _ => rfl)
    have d_L_triples := by
      refine' M.def_mk (x := "_law_triples") (st := M.s_L_triples) (ps := ["_law_many"]) KX G ?a ?l ?c ?k ?b
      (case a => k_is); (case l => k_is); (case c => k_is); (case k => k_is); (case b => exact fun _ _ _ _ _ _ us hl => match us, hl with | [_], _ => rfl)
    have d_is_in := by
      refine' M.def_mk (x := "is_in") (st := M.s_is_in) (ps := ["value", "least", "most"]) KX G ?a ?l ?c ?k ?b
      (case a => k_is); (case l => k_is); (case c => k_is); (case k => k_is); (case b => exact fun _ _ _ _ _ _ us hl => match us, hl with | [_, _, _], _ => rfl)
    have d_is_ratio := by
      refine' M.def_mk (x := "is_ratio") (st := M.s_is_ratio) (ps := ["value"]) KX G ?a ?l ?c ?k ?b
      (case a => k_is); (case l => k_is); (case c => k_is); (case k => k_is); (case b => exact fun _ _ _ _ _ _ us hl => match us, hl with | [_], _ => rfl)
    have d_need_radius := by
      refine' M.def_mk (x := "need_radius") (st := M.s_need_radius) (ps := ["r"]) KX G ?a ?l ?c ?k ?b
      (case a => k_is); (case l => k_is); (case c => k_is); (case k => k_is); (case b => exact fun _ _ _ _ _ _ us hl => match us, hl with | [_], _ => rfl)
    have d_is_point := by
      refine' M.def_mk (x := "is_point") (st := M.s_is_point) (ps := ["value"]) KX G ?a ?l ?c ?k ?b
      (case a => k_is); (case l => k_is); (case c => k_is); (case k => k_is); (case b => exact fun _ _ _ _ _ _ us hl => match us, hl with | [_], _ => rfl)
    have d_need_points := by
      refine' M.def_mk (x := "need_points") (st := M.s_need_points) (ps := ["value"]) KX G ?a ?l ?c ?k ?b
      (case a => k_is); (case l => k_is); (case c => k_is); (case k => k_is); (case b => exact fun _ _ _ _ _ _ us hl => match us, hl with | [_], _ => rfl)
    have d_L_in_circle := by
      refine' M.def_mk (x := "_law_in_circle") (st := M.s_L_in_circle) (ps := ["_law_a", "_law_b", "_law_c", "_law_d"]) KX G ?a ?l ?c ?k ?b
      (case a => k_is); (case l => k_is); (case c => k_is); (case k => k_is); (case b => exact fun _ _ _ _ _ _ us hl => match us, hl with | [_, _, _, _], _ => rfl)
    have d_least_of := by
      refine' M.def_mk (x := "least_of") (st := M.s_least_of) (ps := ["values"]) KX G ?a ?l ?c ?k ?b
      (case a => k_is); (case l => k_is); (case c => k_is); (case k => k_is); (case b => exact fun _ _ _ _ _ _ us hl => match us, hl with | [_], _ => rfl)
    have d_need_disks := by
      refine' M.def_mk (x := "need_disks") (st := M.s_need_disks) (ps := ["points"]) KX G ?a ?l ?c ?k ?b
      (case a => k_is); (case l => k_is); (case c => k_is); (case k => k_is); (case b => exact fun _ _ _ _ _ _ us hl => match us, hl with | [_], _ => rfl)
    have d_triples_of := by
      refine' M.def_mk (x := "triples_of") (st := M.s_triples_of) (ps := ["points"]) KX G ?a ?l ?c ?k ?b
      (case a => k_is); (case l => k_is); (case c => k_is); (case k => k_is); (case b => exact fun _ _ _ _ _ _ us hl => match us, hl with | [_], _ => rfl)
    have d_born := by
      refine' M.def_mk (x := "born") (st := M.s_born) (ps := ["points"]) KX G ?a ?l ?c ?k ?b
      (case a => k_is); (case l => k_is); (case c => k_is); (case k => k_is); (case b => exact fun _ _ _ _ _ _ us hl => match us, hl with | [_], _ => rfl)
    have d_L_births := by
      refine' M.def_mk (x := "_law_births") (st := M.s_L_births) (ps := ["_law_points"]) KX G ?a ?l ?c ?k ?b
      (case a => k_is); (case l => k_is); (case c => k_is); (case k => k_is); (case b => exact fun _ _ _ _ _ _ us hl => match us, hl with | [_], _ => rfl)
    have d_L_added := by
      refine' M.def_mk (x := "_law_added") (st := M.s_L_added) (ps := ["_law_one", "_law_other"]) KX G ?a ?l ?c ?k ?b
      (case a => k_is); (case l => k_is); (case c => k_is); (case k => k_is); (case b => exact fun _ _ _ _ _ _ us hl => match us, hl with | [_, _], _ => rfl)
    have d_of_size := by
      refine' M.def_mk (x := "of_size") (st := M.s_of_size) (ps := ["cells", "size"]) KX G ?a ?l ?c ?k ?b
      (case a => k_is); (case l => k_is); (case c => k_is); (case k => k_is); (case b => exact fun _ _ _ _ _ _ us hl => match us, hl with | [_, _], _ => rfl)
    have d_parts_in := by
      refine' M.def_mk (x := "parts_in") (st := M.s_parts_in) (ps := ["many", "pairs"]) KX G ?a ?l ?c ?k ?b
      (case a => k_is); (case l => k_is); (case c => k_is); (case k => k_is); (case b => exact fun _ _ _ _ _ _ us hl => match us, hl with | [_, _], _ => rfl)
    have d_rank_of_rows := by
      refine' M.def_mk (x := "rank_of_rows") (st := M.s_rank_of_rows) (ps := ["rows"]) KX G ?a ?l ?c ?k ?b
      (case a => k_is); (case l => k_is); (case c => k_is); (case k => k_is); (case b => exact fun _ _ _ _ _ _ us hl => match us, hl with | [_], _ => rfl)
    have d_L_rank2 := by
      refine' M.def_mk (x := "_law_rank2") (st := M.s_L_rank2) (ps := ["_law_rows", "_law_wide"]) KX G ?a ?l ?c ?k ?b
      (case a => k_is); (case l => k_is); (case c => k_is); (case k => k_is); (case b => exact fun _ _ _ _ _ _ us hl => match us, hl with | [_, _], _ => rfl)
    have d_cells_at := by
      refine' M.def_mk (x := "cells_at") (st := M.s_cells_at) (ps := ["points", "r"]) KX G ?a ?l ?c ?k ?b
      (case a => k_is); (case l => k_is); (case c => k_is); (case k => k_is); (case b => exact fun _ _ _ _ _ _ us hl => match us, hl with | [_, _], _ => rfl)
    have d_L_cells := by
      refine' M.def_mk (x := "_law_cells") (st := M.s_L_cells) (ps := ["_law_table", "_law_r"]) KX G ?a ?l ?c ?k ?b
      (case a => k_is); (case l => k_is); (case c => k_is); (case k => k_is); (case b => exact fun _ _ _ _ _ _ us hl => match us, hl with | [_, _], _ => rfl)
    have d_ranks_at := by
      refine' M.def_mk (x := "ranks_at") (st := M.s_ranks_at) (ps := ["points", "r"]) KX G ?a ?l ?c ?k ?b
      (case a => k_is); (case l => k_is); (case c => k_is); (case k => k_is); (case b => exact fun _ _ _ _ _ _ us hl => match us, hl with | [_, _], _ => rfl)
    have d_part_count := by
      refine' M.def_mk (x := "part_count") (st := M.s_part_count) (ps := ["points", "r"]) KX G ?a ?l ?c ?k ?b
      (case a => k_is); (case l => k_is); (case c => k_is); (case k => k_is); (case b => exact fun _ _ _ _ _ _ us hl => match us, hl with | [_, _], _ => rfl)
    have d_hole_count := by
      refine' M.def_mk (x := "hole_count") (st := M.s_hole_count) (ps := ["points", "r"]) KX G ?a ?l ?c ?k ?b
      (case a => k_is); (case l => k_is); (case c => k_is); (case k => k_is); (case b => exact fun _ _ _ _ _ _ us hl => match us, hl with | [_, _], _ => rfl)
    have d_L_alike := by
      refine' M.def_mk (x := "_law_alike") (st := M.s_L_alike) (ps := ["_law_found", "_law_due"]) KX G ?a ?l ?c ?k ?b
      (case a => k_is); (case l => k_is); (case c => k_is); (case k => k_is); (case b => exact fun _ _ _ _ _ _ us hl => match us, hl with | [_, _], _ => rfl)
    have d_L_fits_disks := by
      refine' M.def_mk (x := "_law_fits_disks") (st := M.s_L_fits_disks) (ps := ["_law_points", "_law_p"]) KX G ?a ?l ?c ?k ?b
      (case a => k_is); (case l => k_is); (case c => k_is); (case k => k_is); (case b => exact fun _ _ _ _ _ _ us hl => match us, hl with | [_, _], _ => rfl)
    have d_L_taken := by
      refine' M.def_mk (x := "_law_taken") (st := M.s_L_taken) (ps := ["_law_row", "_law_many"]) KX G ?a ?l ?c ?k ?b
      (case a => k_is); (case l => k_is); (case c => k_is); (case k => k_is); (case b => exact fun _ _ _ _ _ _ us hl => match us, hl with | [_, _], _ => rfl)
    have d_L_pick := by
      refine' M.def_mk (x := "_law_pick") (st := M.s_L_pick) (ps := ["_law_row", "_law_things"]) KX G ?a ?l ?c ?k ?b
      (case a => k_is); (case l => k_is); (case c => k_is); (case k => k_is); (case b => exact fun _ _ _ _ _ _ us hl => match us, hl with | [_, _], _ => rfl)
    have d_L_signed := by
      refine' M.def_mk (x := "_law_signed") (st := M.s_L_signed) (ps := ["_law_row", "_law_most"]) KX G ?a ?l ?c ?k ?b
      (case a => k_is); (case l => k_is); (case c => k_is); (case k => k_is); (case b => exact fun _ _ _ _ _ _ us hl => match us, hl with | [_, _], _ => rfl)
    have d_L_grid := by
      refine' M.def_mk (x := "_law_grid") (st := M.s_L_grid) (ps := ["_law_row", "_law_size"]) KX G ?a ?l ?c ?k ?b
      (case a => k_is); (case l => k_is); (case c => k_is); (case k => k_is); (case b => exact fun _ _ _ _ _ _ us hl => match us, hl with | [_, _], _ => rfl)
    have d_L_disks := by
      refine' M.def_mk (x := "_law_disks") (st := M.s_L_disks) (ps := ["_law_row", "_law_least", "_law_most"]) KX G ?a ?l ?c ?k ?b
      (case a => k_is); (case l => k_is); (case c => k_is); (case k => k_is); (case b => exact fun _ _ _ _ _ _ us hl => match us, hl with | [_, _, _], _ => rfl)
    have d_L_radius := by
      refine' M.def_mk (x := "_law_radius") (st := M.s_L_radius) (ps := ["_law_row", "_law_table"]) KX G ?a ?l ?c ?k ?b
      (case a => k_is); (case l => k_is); (case c => k_is); (case k => k_is); (case b => exact fun _ _ _ _ _ _ us hl => match us, hl with | [_, _], _ => rfl)
    have hc1 := by
      refine' M.int_mk (x := "MOST_POINTS") (i := 40) KX G ?a
      (case a => k_is)
    have hc2 := by
      refine' M.int_mk (x := "MOST_DISKS") (i := 12) KX G ?a
      (case a => k_is)
    have hc4 := by
      refine' M.tup_mk (x := "QUARTER") (ns := [1, 4]) KX G ?a ?l ?v ?z
      (case a => k_is); (case l => k_is); (case z => decide); (case v => exact .cons ⟨_, rfl⟩ (.cons ⟨_, rfl⟩ .nil))
    have hc3 := by
      refine' M.int_mk (x := "LARGEST") (i := 1000000000000) KX G ?a
      (case a => k_is)
    have hC : M.Cst (L2.KOf KX) mg := ⟨hc3, hc1, hc2, hc4⟩
    refine' M.law_top M.plain KX G hmg hB hC ⟨d_gcd, d_reduced, d_times, d_is_below, d_sign, d_lowest, d_far2, d_doubled, d_turn_of, d_minor, d_in_diameter, d_L_gcd, d_L_ratio, d_L_lowest, d_L_times, d_L_plus, d_L_less, d_L_sign, d_L_doubled, d_L_turn, d_L_in_diameter, d_L_det, d_L_far2, d_L_area2, d_common_weight, d_scaled, d_side_of, d_center_of, d_pairs_in, d_triples_in, d_L_pairs, d_L_triples, d_is_in, d_is_ratio, d_need_radius, d_is_point, d_need_points, d_L_in_circle, d_least_of, d_need_disks, d_triples_of, d_born, d_L_births, d_L_added, d_of_size, d_parts_in, d_rank_of_rows, d_L_rank2, d_cells_at, d_L_cells, d_ranks_at, d_part_count, d_hole_count, d_L_alike, d_L_fits_disks, d_L_taken, d_L_pick, d_L_signed, d_L_grid, d_L_disks, d_L_radius⟩ ?a ?l ?c ?k
    (case a => k_is); (case l => k_is); (case c => k_is); (case k => k_is)
