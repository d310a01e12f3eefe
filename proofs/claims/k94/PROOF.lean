import PyProof.Rows.All
import PyProof.P3Eq
import PyProof.EqLayable
import Wide.All
import OpenK.AllK
import Wide.FinOn
import HandS.ForMost
import HandS.TupAny
import HandS.More
import HandS.Conv
import HandS.SetFor
import HandS.TupLen
import HandS.Deep
import HandS.IsInst
import HandS.Evl
import KE.SortData
import KE.KDictCopyH
import KE.KDictSum
import KE.KDictDisplayH
import PySem.Challenge.RW_carpetkin_k94_whole_bettered
import PyProof.MinMaxWalk
import PyProof.WalkInts
import PyProof.SeqI3
import KE.GoesEnum
import KE.KDictKeyed
/-! ## CkD -/
section CkDPart
set_option linter.all false
/-! Plain data: ints, texts, tuples and lists of these, of little depth. Equal just where they are the same. -/
namespace Ck
open PySem
mutual
def okD : Nat → PyData → Bool
  | _, .int _ => true
  | _, .str x => PyData.strOk x
  | k + 1, .list xs => okL k xs
  | k + 1, .tuple xs => okL k xs
  | _, _ => false
def okL : Nat → List PyData → Bool
  | _, [] => true
  | k, x :: xs => okD k x && okL k xs
end
theorem okL_iff {k : Nat} : ∀ {xs : List PyData}, okL k xs = true ↔ ∀ x ∈ xs, okD k x = true
  | [] => by rw [okL]; simp
  | x :: xs => by rw [okL, Bool.and_eq_true, okL_iff]; simp
mutual
theorem okD_lay : ∀ (k : Nat) (d : PyData), okD k d = true → d.canLay0 = true ∧ d.depth ≤ k
  | k, .int _, _ => by simp [PyData.canLay0, PyData.depth]
  | k, .str x, h => by
    have h' : PyData.strOk x = true := by cases k <;> simpa [okD] using h
    simpa [PyData.canLay0, PyData.depth] using h'
  | 0, .list xs, h => by simp [okD] at h
  | 0, .tuple xs, h => by simp [okD] at h
  | k + 1, .list xs, h => by
    rw [okD] at h
    have := okL_lay k xs h
    exact ⟨by simpa [PyData.canLay0] using this.1, by simpa [PyData.depth] using this.2⟩
  | k + 1, .tuple xs, h => by
    rw [okD] at h
    have := okL_lay k xs h
    exact ⟨by simpa [PyData.canLay0] using this.1, by simpa [PyData.depth] using this.2⟩
  | k, .none, h => by cases k <;> simp [okD] at h
  | k, .bool _, h => by cases k <;> simp [okD] at h
  | k, .dict _, h => by cases k <;> simp [okD] at h
theorem okL_lay : ∀ (k : Nat) (xs : List PyData), okL k xs = true → PyData.canLayAll0 xs = true ∧ PyData.depthAll xs ≤ k
  | k, [], _ => by simp [PyData.canLayAll0, PyData.depthAll]
  | k, x :: xs, h => by
    rw [okL, Bool.and_eq_true] at h
    have h1 := okD_lay k x h.1
    have h2 := okL_lay k xs h.2
    exact ⟨by simp [PyData.canLayAll0, h1.1, h2.1], by simp [PyData.depthAll]; omega⟩
end
theorem okD_shaped {k : Nat} {d : PyData} (hk : k ≤ 64) (h : okD k d = true) : SeqAt.shaped d = true := by
  have := okD_lay k d h
  unfold SeqAt.shaped
  rw [this.1, decide_eq_true (by omega : d.depth ≤ 64)]
  rfl
mutual
theorem eqv_ok : ∀ (k : Nat) (d e : PyData), okD k d = true → okD k e = true → (PyData.eqv d e = true ↔ d = e)
  | k, .int i, .int j, _, _ => by simp [PyData.eqv]
  | k, .int _, .str _, _, _ => by simp [PyData.eqv]
  | k, .int _, .list _, _, _ => by simp [PyData.eqv]
  | k, .int _, .tuple _, _, _ => by simp [PyData.eqv]
  | k, .str _, .int _, _, _ => by simp [PyData.eqv]
  | k, .str _, .str _, _, _ => by simp [PyData.eqv]
  | k, .str _, .list _, _, _ => by simp [PyData.eqv]
  | k, .str _, .tuple _, _, _ => by simp [PyData.eqv]
  | k, .list _, .int _, _, _ => by simp [PyData.eqv]
  | k, .list _, .str _, _, _ => by simp [PyData.eqv]
  | k, .list _, .tuple _, _, _ => by simp [PyData.eqv]
  | k, .tuple _, .int _, _, _ => by simp [PyData.eqv]
  | k, .tuple _, .str _, _, _ => by simp [PyData.eqv]
  | k, .tuple _, .list _, _, _ => by simp [PyData.eqv]
  | 0, .list xs, .list ys, h, _ => by simp [okD] at h
  | 0, .tuple xs, .tuple ys, h, _ => by simp [okD] at h
  | k + 1, .list xs, .list ys, h, h' => by
    rw [okD] at h h'
    rw [PyData.eqv, eqvAll_ok k xs ys h h', PyData.list.injEq]
  | k + 1, .tuple xs, .tuple ys, h, h' => by
    rw [okD] at h h'
    rw [PyData.eqv, eqvAll_ok k xs ys h h', PyData.tuple.injEq]
  | k, .none, _, h, _ => by cases k <;> simp [okD] at h
  | k, .bool _, _, h, _ => by cases k <;> simp [okD] at h
  | k, .dict _, _, h, _ => by cases k <;> simp [okD] at h
  | k, _, .none, _, h => by cases k <;> simp [okD] at h
  | k, _, .bool _, _, h => by cases k <;> simp [okD] at h
  | k, _, .dict _, _, h => by cases k <;> simp [okD] at h
theorem eqvAll_ok : ∀ (k : Nat) (xs ys : List PyData), okL k xs = true → okL k ys = true → (PyData.eqvAll xs ys = true ↔ xs = ys)
  | k, [], [], _, _ => by simp [PyData.eqvAll]
  | k, [], _ :: _, _, _ => by simp [PyData.eqvAll]
  | k, _ :: _, [], _, _ => by simp [PyData.eqvAll]
  | k, x :: xs, y :: ys, h, h' => by
    rw [okL, Bool.and_eq_true] at h h'
    rw [PyData.eqvAll, Bool.and_eq_true, eqv_ok k x y h.1 h'.1, eqvAll_ok k xs ys h.2 h'.2, List.cons.injEq]
end
mutual
theorem okD_mono : ∀ {k j : Nat} {d : PyData}, k ≤ j → okD k d = true → okD j d = true
  | k, j, .none, _, h => by cases k <;> simp [okD] at h
  | k, j, .bool _, _, h => by cases k <;> simp [okD] at h
  | k, j, .dict _, _, h => by cases k <;> simp [okD] at h
  | k, j, .int i, _, h => by cases j <;> simp [okD]
  | k, j, .str x, _, h => by
    have h' : PyData.strOk x = true := by cases k <;> simpa [okD] using h
    cases j <;> simpa [okD] using h'
  | 0, j, .list xs, _, h => by simp [okD] at h
  | 0, j, .tuple xs, _, h => by simp [okD] at h
  | k + 1, 0, .list xs, hk, _ => by omega
  | k + 1, 0, .tuple xs, hk, _ => by omega
  | k + 1, j + 1, .list xs, hk, h => by
    rw [okD] at h ⊢
    exact okL_mono (by omega) h
  | k + 1, j + 1, .tuple xs, hk, h => by
    rw [okD] at h ⊢
    exact okL_mono (by omega) h
theorem okL_mono : ∀ {k j : Nat} {xs : List PyData}, k ≤ j → okL k xs = true → okL j xs = true
  | k, j, [], _, _ => by rw [okL]
  | k, j, x :: xs, hk, h => by
    rw [okL, Bool.and_eq_true] at h ⊢
    exact ⟨okD_mono hk h.1, okL_mono hk h.2⟩
end
end Ck
end CkDPart

/-! ## Ck0 -/
section Ck0Part
set_option Elab.async false
set_option linter.all false
set_option maxRecDepth 100000
set_option maxHeartbeats 4000000
/-! Views of a def's context, canonical readings, data in the heap. -/
namespace Ck
open PySem PySem.Spec PyProof.Rows L2

/-- what all contexts of one def (or of one block in it) have in common -/
structure Vw where
  prog : Program
  w : World
  K : PySem.W.Frag
  mg : Str → Option Value
  base : Heap
  A : Around
  N : List Str
  sc : Scope
  fn : Str → Bool

@[reducible] def Vw.cx (V : Vw) (r : Cx) : Cx := { r with prog := V.prog, w := V.w, K := V.K, mg := V.mg, base := V.base, A := V.A, N := V.N, env := { r.env with scope := V.sc }, fn := V.fn, calm := true, xe := fun _ _ => False }

/-- the view of a def's body -/
@[reducible] def vwOf (P : Program) (w : World) (K : PySem.W.Frag) (mg : Str → Option Value) (base : Heap) (A : Around) (N : List Str) (sc : Scope) : Vw :=
  ⟨P, w, K, mg, base, A, N, sc, fun _ => true⟩

def env0 (sc : Scope) : Env := { scope := sc, locals := 0, globals := 0, cells := [], qual := "", func := none, code := .none, frame := none, builtins := 0 }
/-- the view of a comprehension's block -/
@[reducible] def Vw.blk (V : Vw) (scope : Scope) : Vw := { V with sc := relabel scope (env0 V.sc), fn := fun x => scope.names.lookup x == some .cell }

theorem cx_blk (V : Vw) (scope : Scope) (r : Cx) (s : Shared) (H : Hp) (C : Addr) (cl : List (Str × Addr)) (fp : List Addr) :
    (V.cx r).blk s H scope (compEnvC scope cl C (V.cx r).env) fp = (V.blk scope).cx ((V.cx r).blk s H scope (compEnvC scope cl C (V.cx r).env) fp) := rfl

/-! ### canonical readings -/
def rE (V : Vw) (e : Expr) : TE := fun σ H Q => ∃ t : TE, (∀ r, PE (V.cx r) e t) ∧ t σ H Q
def rT (V : Vw) (e : Expr) : TT := fun σ H Q => ∃ t : TT, (∀ r, PT (V.cx r) e t) ∧ t σ H Q
def rW (V : Vw) (e : Expr) : TT := fun σ H Q => ∃ t : TT, (∀ r, PW (V.cx r) e t) ∧ t σ H Q
def rTs (V : Vw) (e : List Expr) : TT := fun σ H Q => ∃ t : TT, (∀ r, PTs (V.cx r) e t) ∧ t σ H Q
def rA (V : Vw) (e : List Expr) : TA := fun σ H Q => ∃ t : TA, (∀ r, PA (V.cx r) e t) ∧ t σ H Q
def rS (V : Vw) (st : Stmt) : TS := fun D σ H => ∃ t : TS, (∀ r, PS (V.cx r) st t) ∧ t D σ H
def rSs (V : Vw) (st : List Stmt) : TS := fun D σ H => ∃ t : TS, (∀ r, PSs (V.cx r) st t) ∧ t D σ H
def rG (V : Vw) (tg : Expr) : TG := fun v σ H Q => ∃ t : TG, (∀ r, PG (V.cx r) tg t) ∧ t v σ H Q
def rI (V : Vw) (tg it : Expr) : TI := fun σ H R => ∃ t : TI, (∀ r, PI (V.cx r) tg it t) ∧ t σ H R
section
variable {V : Vw} {r : Cx} {e : Expr} {es : List Expr} {st : Stmt} {sts : List Stmt} {tg it : Expr}
theorem pe_r : PE (V.cx r) e (rE V e) := ⟨fun pins s σ H Q I ⟨_, p, q⟩ => (p r).run pins s σ H Q I q⟩
theorem pt_r : PT (V.cx r) e (rT V e) := ⟨fun pins s σ H Q I ⟨_, p, q⟩ => (p r).run pins s σ H Q I q⟩
theorem pw_r : PW (V.cx r) e (rW V e) := ⟨fun wh pins s σ H Q I ⟨_, p, q⟩ => (p r).run wh pins s σ H Q I q⟩
theorem pts_r : PTs (V.cx r) es (rTs V es) := ⟨fun pins s σ H Q I ⟨_, p, q⟩ => (p r).run pins s σ H Q I q⟩
theorem pa_r : PA (V.cx r) es (rA V es) := ⟨fun pos pins s σ H Q I ⟨_, p, q⟩ => (p r).run pos pins s σ H Q I q⟩
theorem ps_r : PS (V.cx r) st (rS V st) := ⟨fun pins s σ H D I ⟨_, p, q⟩ => (p r).run pins s σ H D I q⟩
theorem pss_r : PSs (V.cx r) sts (rSs V sts) := ⟨fun pins s σ H D I ⟨_, p, q⟩ => (p r).run pins s σ H D I q⟩
theorem pg_r : PG (V.cx r) tg (rG V tg) := ⟨fun pins s σ H v u Q I rv ⟨_, p, q⟩ => (p r).run pins s σ H v u Q I rv q⟩
theorem pi_r : PI (V.cx r) tg it (rI V tg it) := ⟨fun pins s σ H R I ⟨_, p, q⟩ => (p r).run pins s σ H R I q⟩
end

/-! ### heaps: a known part within the whole -/
abbrev Ex := Evl.Ex
/-- the known part G and the whole H grow; what is new in the known part is new in the whole -/
structure Ext (G H G' H' : Hp) : Prop where
  gg : Ex G G'
  hh : Ex H H'
  gh : Ex G' H'
  fr : ∀ a o, G' a = some o → G a = none → H a = none ∨ ∃ xs, o = .tup xs

theorem none_of {H H' : Hp} (e : Ex H H') {a : Addr} (h : H' a = none) : H a = none := Evl.fresh_back e h

theorem Ext.refl {G H : Hp} (e : Ex G H) : Ext G H G H := ⟨.refl _, .refl _, e, fun a o h h' => by rw [h] at h'; cases h'⟩
theorem Ext.whole {G H H' : Hp} (e : Ex G H) (e' : Ex H H') : Ext G H G H' := ⟨.refl _, e', e.trans e', fun a o h h' => by rw [h] at h'; cases h'⟩
theorem Ext.trans {G H G1 H1 G2 H2 : Hp} (a : Ext G H G1 H1) (b : Ext G1 H1 G2 H2) : Ext G H G2 H2 where
  gg := a.gg.trans b.gg
  hh := a.hh.trans b.hh
  gh := b.gh
  fr := fun x o h h' => by
    cases e : G1 x with
    | none => exact (b.fr x o h e).imp (none_of a.hh) id
    | some u =>
      have := b.gg x u e
      rw [h] at this
      cases this
      exact a.fr x o e h'
theorem Ext.new {G H : Hp} {p : Addr} {o : HO} (e : Ex G H) (h : H p = none) : Ext G H (upd G p o) (upd H p o) where
  gg := Evl.Ex.new (none_of e h)
  hh := Evl.Ex.new h
  gh := fun a u q => by
    by_cases z : a = p
    · subst z
      rw [upd_same] at q ⊢
      exact q
    · rw [upd_ne z] at q ⊢
      exact e a u q
  fr := fun a u q q' => by
    by_cases z : a = p
    · subst z; exact .inl h
    · rw [upd_ne z, q'] at q; cases q
/-- a new object that stays out of the known part -/
theorem Ext.newM {G H : Hp} {p : Addr} {o : HO} (e : Ex G H) (h : H p = none) : Ext G H G (upd H p o) := Ext.whole e (Evl.Ex.new h)
/-- an object that is not known is changed -/
theorem Ext.mut {G0 H0 G H : Hp} {p : Addr} {o : HO} (e : Ext G0 H0 G H) (h0 : H0 p = none) (h : G p = none) : Ext G0 H0 G (upd H p o) :=
  ⟨e.gg, Evl.Ex.mut e.hh h0, Evl.Ex.mut e.gh h, e.fr⟩
/-- an object that was not known becomes known -/
theorem Ext.know {G0 H0 G H : Hp} {p : Addr} {o : HO} (e : Ext G0 H0 G H) (h0 : H0 p = none) (hp : H p = some o) (hg : G p = none) : Ext G0 H0 (upd G p o) H where
  gg := e.gg.trans (Evl.Ex.new hg)
  hh := e.hh
  gh := fun a u q => by
    by_cases z : a = p
    · subst z; rw [upd_same] at q; rw [hp]; exact q
    · rw [upd_ne z] at q; exact e.gh a u q
  fr := fun a u q q' => by
    by_cases z : a = p
    · subst z; exact .inl h0
    · rw [upd_ne z] at q; exact e.fr a u q q'
theorem Ext.keepNone {G H G' H' : Hp} (e : Ext G H G' H') {a : Addr} {o : HO} (hg : G a = none) (hh : H a = some o) (ho : ∀ xs, o ≠ .tup xs) : G' a = none := by
  cases q : G' a with
  | none => rfl
  | some u =>
    rcases e.fr a u q hg with h | ⟨xs, h⟩
    · rw [hh] at h; cases h
    · have h1 := e.gh a u q
      have h2 := e.hh a o hh
      rw [h1] at h2
      cases h2
      exact absurd h (ho xs)
/-- all tuples of the whole become known -/
def tups (G H : Hp) : Hp := fun a => match G a with | some o => some o | none => match H a with | some (.tup xs) => some (.tup xs) | _ => none
theorem tups_at {G H : Hp} (e : Ex G H) {a : Addr} {xs : List V} (h : H a = some (.tup xs)) : tups G H a = some (.tup xs) := by
  unfold tups
  cases q : G a with
  | none => simp only [h]
  | some o =>
    have := e a o q
    rw [h] at this
    cases this
    rfl
theorem Ext.tups {G H : Hp} (e : Ex G H) : Ext G H (tups G H) H where
  gg := fun a o q => by unfold Ck.tups; rw [q]
  hh := .refl _
  gh := fun a o q => by
    unfold Ck.tups at q
    cases z : G a with
    | some u => rw [z] at q; cases q; exact e a _ z
    | none =>
      rw [z] at q
      cases w : H a with
      | none => rw [w] at q; cases q
      | some u => cases u <;> rw [w] at q <;> cases q <;> rfl
  fr := fun a o q z => by
    unfold Ck.tups at q
    rw [z] at q
    cases w : H a with
    | none => exact .inl rfl
    | some u => cases u <;> rw [w] at q <;> cases q <;> exact .inr ⟨_, rfl⟩
/-- the union of two known parts -/
def uni (G1 G2 : Hp) : Hp := fun a => match G1 a with | some o => some o | none => G2 a
theorem Ext.union {G H G1 G2 H2 : Hp} (e1 : Ex G G1) (e2 : Ex G1 H) (e : Ext G H G2 H2) : Ext G1 H (uni G1 G2) H2 ∧ Ex G2 (uni G1 G2) := by
  have low : ∀ a o, G1 a = some o → uni G1 G2 a = some o := fun a o q => by unfold uni; rw [q]
  have up : ∀ a, G1 a = none → uni G1 G2 a = G2 a := fun a q => by unfold uni; rw [q]
  have gu : Ex G2 (uni G1 G2) := fun a o q => by
    cases z : G1 a with
    | none => rw [up a z]; exact q
    | some u =>
      rw [low a u z]
      have h1 := e.hh a u (e2 a u z)
      have h2 := e.gh a o q
      rw [h1] at h2; exact h2
  refine ⟨⟨low, e.hh, fun a o q => ?_, fun a o q q' => ?_⟩, gu⟩
  · cases z : G1 a with
    | none => rw [up a z] at q; exact e.gh a o q
    | some u =>
      rw [low a u z] at q
      rw [← q]; exact e.hh a u (e2 a u z)
  · rw [up a q'] at q
    exact e.fr a o q (none_of e1 q')

/-! ### data in the known part -/
/-- keys of dicts as data -/
def kD : Key → PyData
  | .inl i => .int i
  | .inr x => .str x
/-- a dict of ints; a dict of texts by tuples -/
def dictK (kvs : List (Key × Int)) : PyData := .dict ((.int 0, .none) :: kvs.map fun kv => (kD kv.1, .int kv.2))
def dictT (kvs : List (List Key × Str)) : PyData := .dict ((.int 1, .none) :: kvs.map fun kv => (.tuple (kv.1.map kD), .str kv.2))
/-- a reference itself, whatever stands there -/
def refD (a : Addr) : PyData := .dict [(.int 3, .none), (.int (a : Int), .none)]
/-- a dict of ints while a loop walks it -/
def dictF (kvs : List (Key × Int)) : PyData := .dict ((.int 2, .none) :: kvs.map fun kv => (kD kv.1, .int kv.2))
mutual
inductive Dt (G : Hp) : V → PyData → Prop
  | non : Dt G .non .none
  | bl (b : Bool) : Dt G (.bl b) (.bool b)
  | int (i : Int) : Dt G (.int i) (.int i)
  | str (x : Str) : Dt G (.str x) (.str x)
  | lst {a : Addr} {xs : List V} {ds : List PyData} : G a = some (.lst xs) → DtAll G xs ds → Dt G (.ref a) (.list ds)
  | tup {a : Addr} {xs : List V} {ds : List PyData} : G a = some (.tup xs) → DtAll G xs ds → Dt G (.ref a) (.tuple ds)
  | dK {a : Addr} {kvs : List (Key × Int)} : G a = some (.dK (kvs.map fun kv => (kv.1, V.int kv.2))) → Dt G (.ref a) (.dict ((.int 0, .none) :: kvs.map fun kv => (kD kv.1, .int kv.2)))
  | dT {a : Addr} {kvs : List (List Key × Str)} : G a = some (.dT (kvs.map fun kv => (kv.1, V.str kv.2))) → Dt G (.ref a) (.dict ((.int 1, .none) :: kvs.map fun kv => (.tuple (kv.1.map kD), .str kv.2)))
  | fK {a : Addr} {o : Obj} {kvs : List (Key × Int)} : G a = some (.frz o (.dK (kvs.map fun kv => (kv.1, V.int kv.2)))) → Dt G (.ref a) (.dict ((.int 2, .none) :: kvs.map fun kv => (kD kv.1, .int kv.2)))
  | rf (a : Addr) : Dt G (.ref a) (.dict [(.int 3, .none), (.int (a : Int), .none)])
inductive DtAll (G : Hp) : List V → List PyData → Prop
  | nil : DtAll G [] []
  | cons {v : V} {vs : List V} {d : PyData} {ds : List PyData} : Dt G v d → DtAll G vs ds → DtAll G (v :: vs) (d :: ds)
end

mutual
theorem Dt.mono {G G' : Hp} (e : Ex G G') : ∀ {v : V} {d : PyData}, Dt G v d → Dt G' v d
  | _, _, .non => .non
  | _, _, .bl b => .bl b
  | _, _, .int i => .int i
  | _, _, .str x => .str x
  | _, _, .lst h t => .lst (e _ _ h) (DtAll.mono e t)
  | _, _, .tup h t => .tup (e _ _ h) (DtAll.mono e t)
  | _, _, .dK h => .dK (e _ _ h)
  | _, _, .dT h => .dT (e _ _ h)
  | _, _, .fK h => .fK (e _ _ h)
  | _, _, .rf a => .rf a
theorem DtAll.mono {G G' : Hp} (e : Ex G G') : ∀ {vs : List V} {ds : List PyData}, DtAll G vs ds → DtAll G' vs ds
  | _, _, .nil => .nil
  | _, _, .cons h t => .cons (Dt.mono e h) (DtAll.mono e t)
end
mutual
theorem Dt.dp {K : PySem.W.Frag} {G : Hp} : ∀ {v : V} {d : PyData}, d.canLay0 = true → Dt G v d → Dp K G v d
  | _, _, _, .non => .non
  | _, _, _, .bl b => .bl b
  | _, _, _, .int i => .int i
  | _, _, _, .str x => .str x
  | _, _, c, .lst h t => .lst (SqL.of h) (DtAll.dp (by simpa [PyData.canLay0] using c) t)
  | _, _, c, .tup h t => .tup (SqT.of h) (DtAll.dp (by simpa [PyData.canLay0] using c) t)
  | _, _, c, .dK h => by simp [PyData.canLay0] at c
  | _, _, c, .dT h => by simp [PyData.canLay0] at c
  | _, _, c, .fK h => by simp [PyData.canLay0] at c
  | _, _, c, .rf _ => by simp [PyData.canLay0] at c
theorem DtAll.dp {K : PySem.W.Frag} {G : Hp} : ∀ {vs : List V} {ds : List PyData}, PyData.canLayAll0 ds = true → DtAll G vs ds → DpAll K G vs ds
  | _, _, _, .nil => .nil
  | _, _, c, .cons h t => by
    rw [PyData.canLayAll0, Bool.and_eq_true] at c
    exact .cons (Dt.dp c.1 h) (DtAll.dp c.2 t)
end
section
variable {G : Hp} {v : V} {d : PyData} {vs ws : List V} {ds es : List PyData}
theorem Dt.int_eq {i : Int} (h : Dt G v (.int i)) : v = .int i := by cases h; rfl
theorem Dt.str_eq {x : Str} (h : Dt G v (.str x)) : v = .str x := by cases h; rfl
theorem Dt.bl_eq {b : Bool} (h : Dt G v (.bool b)) : v = .bl b := by cases h; rfl
theorem Dt.lst_eq (h : Dt G v (.list ds)) : ∃ a xs, v = .ref a ∧ G a = some (.lst xs) ∧ DtAll G xs ds := by cases h with | lst a b => exact ⟨_, _, rfl, a, b⟩
theorem Dt.tup_eq (h : Dt G v (.tuple ds)) : ∃ a xs, v = .ref a ∧ G a = some (.tup xs) ∧ DtAll G xs ds := by cases h with | tup a b => exact ⟨_, _, rfl, a, b⟩
theorem DtAll.length : ∀ {vs : List V} {ds : List PyData}, DtAll G vs ds → vs.length = ds.length
  | _, _, .nil => rfl
  | _, _, .cons _ t => congrArg Nat.succ (DtAll.length t)
theorem DtAll.append : ∀ {vs ws : List V} {ds es : List PyData}, DtAll G vs ds → DtAll G ws es → DtAll G (vs ++ ws) (ds ++ es)
  | _, _, _, _, .nil, h => h
  | _, _, _, _, .cons a t, h => .cons a (DtAll.append t h)
theorem DtAll.one (h : Dt G v d) : DtAll G [v] [d] := .cons h .nil
theorem DtAll.get : ∀ {vs : List V} {ds : List PyData} {i : Nat} {d : PyData}, DtAll G vs ds → ds[i]? = some d → ∃ v, vs[i]? = some v ∧ Dt G v d
  | _, _, 0, _, .cons a _, h => ⟨_, rfl, by cases h; exact a⟩
  | _, _, i + 1, _, .cons _ t, h => DtAll.get (i := i) t h
theorem DtAll.get' : ∀ {vs : List V} {ds : List PyData} {i : Nat} {v : V}, DtAll G vs ds → vs[i]? = some v → ∃ d, ds[i]? = some d ∧ Dt G v d
  | _, _, 0, _, .cons a _, h => ⟨_, rfl, by cases h; exact a⟩
  | _, _, i + 1, _, .cons _ t, h => DtAll.get' (i := i) t h
theorem DtAll.dropLast : ∀ {vs : List V} {ds : List PyData}, DtAll G vs ds → DtAll G vs.dropLast ds.dropLast
  | _, _, .nil => .nil
  | _, _, .cons a .nil => .nil
  | _, _, .cons a (.cons b t) => .cons a (DtAll.dropLast (.cons b t))
theorem DtAll.atI {vs : List V} {ds : List PyData} {i : Int} {d : PyData} (t : DtAll G vs ds) (h : L2.atI ds i = some d) : ∃ v, L2.atI vs i = some v ∧ Dt G v d := by
  unfold L2.atI at h ⊢
  rw [t.length]
  cases q : ixN ds.length i with
  | none => rw [q] at h; cases h
  | some j =>
    rw [q] at h
    obtain ⟨v, h1, h2⟩ := t.get (i := j) (show ds[j]? = some d from h)
    exact ⟨v, h1, h2⟩
theorem DtAll.ints : ∀ {vs : List V} {ns : List Int}, DtAll G vs (ns.map .int) → vs = ns.map V.int
  | _, [], h => by cases h; rfl
  | _, n :: ns, h => by
    cases h with
    | cons a t => rw [a.int_eq, DtAll.ints t]; rfl
theorem DtAll.strs : ∀ {vs : List V} {ns : List Str}, DtAll G vs (ns.map .str) → vs = ns.map V.str
  | _, [], h => by cases h; rfl
  | _, n :: ns, h => by
    cases h with
    | cons a t => rw [a.str_eq, DtAll.strs t]; rfl
theorem dtAll_ints : ∀ (ns : List Int), DtAll G (ns.map V.int) (ns.map .int)
  | [] => .nil
  | n :: ns => .cons (.int n) (dtAll_ints ns)
theorem dtAll_strs : ∀ (ns : List Str), DtAll G (ns.map V.str) (ns.map .str)
  | [] => .nil
  | n :: ns => .cons (.str n) (dtAll_strs ns)
end
theorem Dt.key {G : Hp} {k : Key} {v : V} (h : Dt G v (kD k)) : v = kV k := by
  cases k with
  | inl i => exact h.int_eq
  | inr x => exact h.str_eq
theorem DtAll.keys {G : Hp} : ∀ {ks : List Key} {vs : List V}, DtAll G vs (ks.map kD) → vs = ks.map kV
  | [], _, h => by cases h; rfl
  | k :: ks, _, h => by
    cases h with
    | cons a t => rw [a.key, DtAll.keys t]; rfl
theorem Dt.keyTup {G : Hp} {ks : List Key} {v : V} (h : Dt G v (.tuple (ks.map kD))) : ∃ a, v = .ref a ∧ G a = some (.tup (ks.map kV)) := by
  obtain ⟨a, xs, e, h1, h2⟩ := h.tup_eq
  exact ⟨a, e, by rw [h1, h2.keys]⟩

/-! ### the state at the level of data -/
/-- what a slot holds: nothing that matters; data; a thing that is being made; a written tuple; the script -/
inductive Sv where
  | non
  | dat (d : PyData)
  | ref (a : Addr)
  | wt (ds : List PyData)
  | scr (ns : List Int)
/-- a thing that is being made: a list, a dict by ints and texts, a dict by tuples -/
inductive MO where
  | lst (ds : List PyData)
  | dK (kvs : List (Key × PyData))
  | dT (kvs : List (List Key × PyData))
  | ob (o : HO) (vs : List V) (ds : List PyData)
/-- flat written data -/
inductive FlatD : V → PyData → Prop
  | int (i : Int) : FlatD (.int i) (.int i)
  | str (x : Str) : FlatD (.str x) (.str x)
def SvOk (K : PySem.W.Frag) (G : Hp) (o : Option (Option V)) : Sv → Prop
  | .non => True
  | .dat d => ∃ v, o = some (some v) ∧ Dt G v d
  | .ref a => o = some (some (.ref a))
  | .wt ds => ∃ a vs, o = some (some (.ref a)) ∧ SqT K G a vs ∧ Paired FlatD vs ds
  | .scr ns => ∃ a, o = some (some (.ref a)) ∧ SqL K G a (ns.map V.int)
def Sl (K : PySem.W.Frag) (G : Hp) (σ : L2.St) (Δ : List Sv) : Prop := σ.length = Δ.length ∧ ∀ (i : Nat) (s : Sv), Δ[i]? = some s → SvOk K G σ[i]? s
def KDt {κ : Type} (G : Hp) : List (κ × V) → List (κ × PyData) → Prop := Paired fun p q => p.1 = q.1 ∧ Dt G p.2 q.2
def MOk (G H : Hp) (a : Addr) : MO → Prop
  | .lst ds => ∃ vs, H a = some (.lst vs) ∧ DtAll G vs ds
  | .dK kvs => ∃ ks, H a = some (.dK ks) ∧ KDt G ks kvs
  | .dT kvs => ∃ ks, H a = some (.dT ks) ∧ KDt G ks kvs
  | .ob o vs ds => H a = some o ∧ DtAll G vs ds ∧ ∀ xs, o ≠ .tup xs
abbrev MS := List (Addr × MO)
/-- each stands in the whole, is not known, was not there at the entry -/
def Ms (H0 G H : Hp) (M : MS) : Prop := (M.map (·.1)).Nodup ∧ ∀ p ∈ M, H0 p.1 = none ∧ G p.1 = none ∧ MOk G H p.1 p.2
structure Sta (K : PySem.W.Frag) (G0 H0 Gs : Hp) (Δ : List Sv) (M : MS) (G : Hp) (σ : L2.St) (H : Hp) : Prop where
  ext : Ext G0 H0 G H
  sl : Sl K G σ Δ
  ms : Ms H0 G H M
  kp : Ex Gs G

theorem SvOk.mono {K : PySem.W.Frag} {G G' : Hp} (e : Ex G G') {o : Option (Option V)} : ∀ {s : Sv}, SvOk K G o s → SvOk K G' o s
  | .non, _ => trivial
  | .dat d, ⟨v, h1, h2⟩ => ⟨v, h1, h2.mono e⟩
  | .ref a, h => h
  | .wt ds, ⟨a, vs, h1, h2, h3⟩ => ⟨a, vs, h1, Evl.ex_t e h2, h3⟩
  | .scr ns, ⟨a, h1, h2⟩ => ⟨a, h1, Evl.ex_l e h2⟩
theorem Sl.mono {K : PySem.W.Frag} {G G' : Hp} (e : Ex G G') {σ : L2.St} {Δ : List Sv} (h : Sl K G σ Δ) : Sl K G' σ Δ := ⟨h.1, fun i s q => (h.2 i s q).mono e⟩
theorem Sl.set {K : PySem.W.Frag} {G : Hp} {σ : L2.St} {Δ : List Sv} (h : Sl K G σ Δ) (i : Nat) {v : V} {s : Sv} (hs : SvOk K G (some (some v)) s) : Sl K G (σ.set i (some v)) (Δ.set i s) := by
  refine ⟨by rw [List.length_set, List.length_set]; exact h.1, fun j u q => ?_⟩
  by_cases hj : i = j
  · subst hj
    by_cases hl : i < Δ.length
    · rw [List.getElem?_set_self hl] at q
      rw [List.getElem?_set_self (by rw [h.1]; exact hl)]
      cases q; exact hs
    · rw [List.getElem?_eq_none (by rw [List.length_set]; omega)] at q; cases q
  · rw [List.getElem?_set_ne hj] at q ⊢
    exact h.2 j u q
/-- a slot forgotten -/
theorem Sl.wipe {K : PySem.W.Frag} {G : Hp} {σ : L2.St} {Δ : List Sv} (h : Sl K G σ Δ) (i : Nat) : Sl K G (σ.set i none) (Δ.set i .non) := by
  refine ⟨by rw [List.length_set, List.length_set]; exact h.1, fun j u q => ?_⟩
  by_cases hj : i = j
  · subst hj
    by_cases hl : i < Δ.length
    · rw [List.getElem?_set_self hl] at q
      cases q; trivial
    · rw [List.getElem?_eq_none (by rw [List.length_set]; omega)] at q; cases q
  · rw [List.getElem?_set_ne hj] at q ⊢
    exact h.2 j u q
theorem KDt.mono {κ : Type} {G G' : Hp} (e : Ex G G') : ∀ {ks : List (κ × V)} {kvs : List (κ × PyData)}, KDt G ks kvs → KDt G' ks kvs
  | _, _, .nil => .nil
  | _, _, .cons h t => .cons ⟨h.1, h.2.mono e⟩ (KDt.mono e t)
theorem MOk.ext {G H G' H' : Hp} (e : Ex G G') (e' : Ex H H') {a : Addr} : ∀ {m : MO}, MOk G H a m → MOk G' H' a m
  | .lst ds, ⟨vs, h1, h2⟩ => ⟨vs, e' _ _ h1, h2.mono e⟩
  | .dK kvs, ⟨ks, h1, h2⟩ => ⟨ks, e' _ _ h1, h2.mono e⟩
  | .dT kvs, ⟨ks, h1, h2⟩ => ⟨ks, e' _ _ h1, h2.mono e⟩
  | .ob o vs ds, ⟨h1, h2, h3⟩ => ⟨e' _ _ h1, h2.mono e, h3⟩
theorem MOk.at_ {G H : Hp} {a : Addr} : ∀ {m : MO}, MOk G H a m → ∃ o, H a = some o ∧ ∀ xs, o ≠ .tup xs
  | .lst ds, ⟨vs, h1, h2⟩ => ⟨_, h1, fun _ h => nomatch h⟩
  | .dK kvs, ⟨ks, h1, h2⟩ => ⟨_, h1, fun _ h => nomatch h⟩
  | .dT kvs, ⟨ks, h1, h2⟩ => ⟨_, h1, fun _ h => nomatch h⟩
  | .ob o vs ds, ⟨h1, h2, h3⟩ => ⟨_, h1, h3⟩
theorem Ms.ext {H0 G H G' H' : Hp} {M : MS} (h : Ms H0 G H M) (e : Ext G H G' H') : Ms H0 G' H' M := ⟨h.1, fun p hp => by
  obtain ⟨h1, h2, h3⟩ := h.2 p hp
  obtain ⟨o, ho, ht⟩ := h3.at_
  exact ⟨h1, e.keepNone h2 ho ht, h3.ext e.gg e.hh⟩⟩
theorem Sta.grow {K : PySem.W.Frag} {G0 H0 Gs : Hp} {Δ : List Sv} {M : MS} {G : Hp} {σ : L2.St} {H G' H' : Hp} (h : Sta K G0 H0 Gs Δ M G σ H) (e : Ext G H G' H') : Sta K G0 H0 Gs Δ M G' σ H' :=
  ⟨h.ext.trans e, h.sl.mono e.gg, h.ms.ext e, h.kp.trans e.gg⟩
theorem Sta.set {K : PySem.W.Frag} {G0 H0 Gs : Hp} {Δ : List Sv} {M : MS} {G : Hp} {σ : L2.St} {H : Hp} (h : Sta K G0 H0 Gs Δ M G σ H) (i : Nat) {v : V} {s : Sv} (hs : SvOk K G (some (some v)) s) : Sta K G0 H0 Gs (Δ.set i s) M G (σ.set i (some v)) H :=
  ⟨h.ext, h.sl.set i hs, h.ms, h.kp⟩
theorem Sta.dat {K : PySem.W.Frag} {G0 H0 Gs : Hp} {Δ : List Sv} {M : MS} {G : Hp} {σ : L2.St} {H : Hp} (h : Sta K G0 H0 Gs Δ M G σ H) (i : Nat) {v : V} {d : PyData} (hs : Dt G v d) : Sta K G0 H0 Gs (Δ.set i (.dat d)) M G (σ.set i (some v)) H :=
  h.set i ⟨v, rfl, hs⟩
/-- a new thing that is being made -/
theorem Sta.make {K : PySem.W.Frag} {G0 H0 Gs : Hp} {Δ : List Sv} {M : MS} {G : Hp} {σ : L2.St} {H : Hp} (h : Sta K G0 H0 Gs Δ M G σ H) {p : Addr} {o : HO} {m : MO} (hp : H p = none) (hm : MOk G (upd H p o) p m) : Sta K G0 H0 Gs Δ ((p, m) :: M) G σ (upd H p o) := by
  have e := Ext.newM (o := o) h.ext.gh hp
  refine ⟨h.ext.trans e, h.sl, ⟨?_, fun q hq => ?_⟩, h.kp⟩
  · refine List.nodup_cons.mpr ⟨fun z => ?_, h.ms.1⟩
    obtain ⟨q, hq, eq⟩ := List.mem_map.mp z
    obtain ⟨_, _, h3⟩ := h.ms.2 q hq
    obtain ⟨u, hu, _⟩ := h3.at_
    have eq' : q.1 = p := eq
    rw [eq', hp] at hu; cases hu
  · rcases List.mem_cons.mp hq with rfl | hq
    · exact ⟨none_of h.ext.hh hp, none_of h.ext.gh hp, hm⟩
    · exact (h.ms.ext e).2 q hq
/-- a thing that is being made is changed -/
theorem Sta.change {K : PySem.W.Frag} {G0 H0 Gs : Hp} {Δ : List Sv} {M : MS} {G : Hp} {σ : L2.St} {H : Hp} (h : Sta K G0 H0 Gs Δ M G σ H) {j : Nat} {p : Addr} {o : HO} {m m' : MO} (hj : M[j]? = some (p, m)) (hm : MOk G (upd H p o) p m') : Sta K G0 H0 Gs Δ (M.set j (p, m')) G σ (upd H p o) := by
  have hmem : (p, m) ∈ M := List.mem_of_getElem? hj
  obtain ⟨h1, h2, h3⟩ := h.ms.2 _ hmem
  have hmap : (M.set j (p, m')).map (·.1) = M.map (·.1) := by
    rw [List.map_set]
    refine List.ext_getElem? fun k => ?_
    by_cases hk : j = k
    · subst hk
      have hl : j < (M.map (·.1)).length := by
        rw [List.length_map]
        exact (List.getElem?_eq_some_iff.mp hj).1
      rw [List.getElem?_set_self hl, List.getElem?_map, hj]
      rfl
    · rw [List.getElem?_set_ne hk]
  refine ⟨h.ext.mut h1 h2, h.sl, ⟨by rw [hmap]; exact h.ms.1, fun q hq => ?_⟩, h.kp⟩
  obtain ⟨k, hk⟩ := List.mem_iff_getElem?.mp hq
  by_cases hjk : j = k
  · subst hjk
    rw [List.getElem?_set_self (List.getElem?_eq_some_iff.mp hj).1] at hk
    cases hk
    exact ⟨h1, h2, hm⟩
  · rw [List.getElem?_set_ne hjk] at hk
    obtain ⟨q1, q2, q3⟩ := h.ms.2 q (List.mem_of_getElem? hk)
    have ne : q.1 ≠ p := fun z => by
      have nd := h.ms.1
      have ej : (M.map (·.1))[j]? = some p := by rw [List.getElem?_map, hj]; rfl
      have ek : (M.map (·.1))[k]? = some p := by rw [List.getElem?_map, hk, ← z]; rfl
      exact hjk (nd_ix nd ej ek)
    refine ⟨q1, q2, ?_⟩
    obtain ⟨a, m2⟩ := q
    cases m2 with
    | lst ds => obtain ⟨vs, z1, z2⟩ := q3; exact ⟨vs, by rw [upd_ne ne]; exact z1, z2⟩
    | dK ds => obtain ⟨vs, z1, z2⟩ := q3; exact ⟨vs, by rw [upd_ne ne]; exact z1, z2⟩
    | dT ds => obtain ⟨vs, z1, z2⟩ := q3; exact ⟨vs, by rw [upd_ne ne]; exact z1, z2⟩
    | ob o vs ds => obtain ⟨z1, z2, z3⟩ := q3; exact ⟨by rw [upd_ne ne]; exact z1, z2, z3⟩
theorem Sta.since {K : PySem.W.Frag} {G0 H0 Gs Gt : Hp} {Δ : List Sv} {M : MS} {G : Hp} {σ : L2.St} {H : Hp} (h : Sta K G0 H0 Gs Δ M G σ H) (e : Ex Gt Gs) : Sta K G0 H0 Gt Δ M G σ H := ⟨h.ext, h.sl, h.ms, e.trans h.kp⟩
theorem Sta.now {K : PySem.W.Frag} {G0 H0 Gs : Hp} {Δ : List Sv} {M : MS} {G : Hp} {σ : L2.St} {H : Hp} (h : Sta K G0 H0 Gs Δ M G σ H) : Sta K G0 H0 G Δ M G σ H := ⟨h.ext, h.sl, h.ms, .refl _⟩
end Ck
end Ck0Part

/-! ## Ck1 -/
section Ck1Part
set_option Elab.async false
set_option linter.all false
set_option maxRecDepth 100000
set_option maxHeartbeats 4000000
/-! Expressions at the level of data. -/
namespace Ck
open PySem PySem.Spec PyProof.Rows L2

section
variable (U : Vw)
def EvX (e : Expr) (Δ : List Sv) (M : MS) (s : Sv) : Prop := ∀ G0 H0 Gs G σ H, Sta U.K G0 H0 Gs Δ M G σ H → ∀ Q : VK, (∀ v G' H', Ext G H G' H' → SvOk U.K G' (some (some v)) s → Q v H') → rE U e σ H Q
def EvD (e : Expr) (Δ : List Sv) (M : MS) (d : PyData) : Prop := ∀ G0 H0 Gs G σ H, Sta U.K G0 H0 Gs Δ M G σ H → ∀ Q : VK, (∀ v G' H', Ext G H G' H' → Dt G' v d → Q v H') → rE U e σ H Q
def EvT (e : Expr) (Δ : List Sv) (M : MS) (b : Bool) : Prop := ∀ G0 H0 Gs G σ H, Sta U.K G0 H0 Gs Δ M G σ H → ∀ Q : Bool → Hp → Prop, (∀ G' H', Ext G H G' H' → Q b H') → rT U e σ H Q
def EvW (e : Expr) (Δ : List Sv) (M : MS) (b : Bool) : Prop := ∀ G0 H0 Gs G σ H, Sta U.K G0 H0 Gs Δ M G σ H → ∀ Q : Bool → Hp → Prop, (∀ G' H', Ext G H G' H' → Q b H') → rW U e σ H Q
def EvTs (e : List Expr) (Δ : List Sv) (M : MS) (b : Bool) : Prop := ∀ G0 H0 Gs G σ H, Sta U.K G0 H0 Gs Δ M G σ H → ∀ Q : Bool → Hp → Prop, (∀ G' H', Ext G H G' H' → Q b H') → rTs U e σ H Q
def EvA (es : List Expr) (Δ : List Sv) (M : MS) (S : List Sv) : Prop := ∀ G0 H0 Gs G σ H, Sta U.K G0 H0 Gs Δ M G σ H → ∀ Q : List L2.V → Hp → Prop, (∀ vs G' H', Ext G H G' H' → Paired (fun v s => SvOk U.K G' (some (some v)) s) vs S → Q vs H') → rA U es σ H Q
end

section
variable {U : Vw} {Δ : List Sv} {M : MS} {e a b c : Expr} {es : List Expr} {d da db : PyData} {x : Str} {pos p : Pos} {i : Nat}
theorem EvD.toX (h : EvD U e Δ M d) : EvX U e Δ M (.dat d) := fun G0 H0 Gs G σ H st Q q => h G0 H0 Gs G σ H st Q fun v G' H' e1 h1 => q v G' H' e1 ⟨v, rfl, h1⟩
theorem EvX.toD (h : EvX U e Δ M (.dat d)) : EvD U e Δ M d := fun G0 H0 Gs G σ H st Q q => h G0 H0 Gs G σ H st Q fun v G' H' e1 ⟨v', h0, h1⟩ => q v G' H' e1 (by cases h0; exact h1)
theorem EvD.to {d' : PyData} (h : EvD U e Δ M d) (e1 : d = d') : EvD U e Δ M d' := e1 ▸ h
theorem EvT.to {k k' : Bool} (h : EvT U e Δ M k) (e1 : k = k') : EvT U e Δ M k' := e1 ▸ h
/-- by a reading -/
theorem ev_rd {t : TE} (p : ∀ r, PE (U.cx r) e t) (h : ∀ G0 H0 Gs G σ H, Sta U.K G0 H0 Gs Δ M G σ H → ∀ Q : VK, (∀ v G' H', Ext G H G' H' → Dt G' v d → Q v H') → t σ H Q) : EvD U e Δ M d :=
  fun G0 H0 Gs G σ H st Q q => ⟨t, p, h G0 H0 Gs G σ H st Q q⟩
theorem et_rd {t : TT} {k : Bool} (p : ∀ r, PT (U.cx r) e t) (h : ∀ G0 H0 Gs G σ H, Sta U.K G0 H0 Gs Δ M G σ H → ∀ Q : Bool → Hp → Prop, (∀ G' H', Ext G H G' H' → Q k H') → t σ H Q) : EvT U e Δ M k :=
  fun G0 H0 Gs G σ H st Q q => ⟨t, p, h G0 H0 Gs G σ H st Q q⟩

/-! ### names, constants -/
theorem ev_varS {s : Sv} (i : Nat) (hN : U.N[i]? = some x) (hv : Vis U.sc x) (hd : (x == ("__debug__" : Str)) = false) (hcd : (x == ("__classdict__" : Str)) = false) (hs : ∀ G (o : Option (Option L2.V)), SvOk U.K G o s → ∃ v, o = some (some v)) (h : Δ[i]? = some s) : EvX U (.Name x pos) Δ M s := fun G0 H0 Gs G σ H st Q q => by
  have ho := st.sl.2 i _ h
  obtain ⟨v, hv'⟩ := hs _ _ ho
  exact ⟨_, fun r => pe_var (X := U.cx r) (i := i) hN hv hd hcd, v, hv', q v G H (.refl st.ext.gh) (by rw [hv'] at ho; exact ho)⟩
theorem ev_var (i : Nat) (h : Δ[i]? = some (.dat d)) (hN : U.N[i]? = some x := by rfl) (hv : Vis U.sc x := by first | exact Or.inl rfl | exact Or.inr (Or.inl rfl) | exact Or.inr (Or.inr rfl)) (hd : (x == ("__debug__" : Str)) = false := by decide) (hcd : (x == ("__classdict__" : Str)) = false := by decide) : EvD U (.Name x pos) Δ M d :=
  (ev_varS (s := .dat d) i hN hv hd hcd (fun _ _ ⟨v, h, _⟩ => ⟨v, h⟩) h).toD
theorem ex_wt {ds : List PyData} (i : Nat) (h : Δ[i]? = some (.wt ds)) (hN : U.N[i]? = some x := by rfl) (hv : Vis U.sc x := by first | exact Or.inl rfl | exact Or.inr (Or.inl rfl) | exact Or.inr (Or.inr rfl)) (hd : (x == ("__debug__" : Str)) = false := by decide) (hcd : (x == ("__classdict__" : Str)) = false := by decide) : EvX U (.Name x pos) Δ M (.wt ds) :=
  ev_varS (s := .wt ds) i hN hv hd hcd (fun _ _ ⟨a, _, h, _⟩ => ⟨.ref a, h⟩) h
theorem ex_scr {ns : List Int} (i : Nat) (h : Δ[i]? = some (.scr ns)) (hN : U.N[i]? = some x := by rfl) (hv : Vis U.sc x := by first | exact Or.inl rfl | exact Or.inr (Or.inl rfl) | exact Or.inr (Or.inr rfl)) (hd : (x == ("__debug__" : Str)) = false := by decide) (hcd : (x == ("__classdict__" : Str)) = false := by decide) : EvX U (.Name x pos) Δ M (.scr ns) :=
  ev_varS (s := .scr ns) i hN hv hd hcd (fun _ _ ⟨a, h, _⟩ => ⟨.ref a, h⟩) h
theorem ex_ref {o : Addr} (i : Nat) (h : Δ[i]? = some (.ref o)) (hN : U.N[i]? = some x := by rfl) (hv : Vis U.sc x := by first | exact Or.inl rfl | exact Or.inr (Or.inl rfl) | exact Or.inr (Or.inr rfl)) (hd : (x == ("__debug__" : Str)) = false := by decide) (hcd : (x == ("__classdict__" : Str)) = false := by decide) : EvX U (.Name x pos) Δ M (.ref o) :=
  ev_varS (s := .ref o) i hN hv hd hcd (fun _ _ h => ⟨.ref o, h⟩) h
theorem ev_int {n : Int} {j : Nat} : EvD U (.Constant (.int n) j pos) Δ M (.int n) := fun G0 H0 Gs G σ H st Q q => ⟨_, fun r => pe_int, q _ G H (.refl st.ext.gh) (.int n)⟩
theorem ev_str {z : Str} {j : Nat} : EvD U (.Constant (.str z) j pos) Δ M (.str z) := fun G0 H0 Gs G σ H st Q q => ⟨_, fun r => pe_str, q _ G H (.refl st.ext.gh) (.str z)⟩
theorem ev_bl {k : Bool} {j : Nat} : EvD U (.Constant (.bool k) j pos) Δ M (.bool k) := fun G0 H0 Gs G σ H st Q q => ⟨_, fun r => pe_bl, q _ G H (.refl st.ext.gh) (.bl k)⟩
theorem ev_non {j : Nat} : EvD U (.Constant .none j pos) Δ M .none := fun G0 H0 Gs G σ H st Q q => ⟨_, fun r => pe_non, q _ G H (.refl st.ext.gh) .non⟩

/-! ### two operands -/
theorem ev_two {t : TE} {r2 : R2} (p : ∀ r, PE (U.cx r) e (tOp r2 (rE U a) (rE U b))) (ha : EvD U a Δ M da) (hb : EvD U b Δ M db)
    (hr : ∀ v w G H, Ex G H → Dt G v da → Dt G w db → ∀ Q : VK, (∀ z G' H', Ext G H G' H' → Dt G' z d → Q z H') → r2 v w H Q) : EvD U e Δ M d := fun G0 H0 Gs G σ H st Q q =>
  ⟨_, p, ha G0 H0 Gs G σ H st _ fun v G1 H1 e1 h1 => hb G0 H0 Gs G1 σ H1 (st.grow e1) _ fun w G2 H2 e2 h2 => hr v w G2 H2 e2.gh (h1.mono e2.gg) h2 Q fun z G3 H3 e3 h3 => q z G3 H3 ((e1.trans e2).trans e3) h3⟩

structure BinR (U : Vw) (op : Operator) (da db d : PyData) : Prop where
  ex : ∃ r2 : R2, (∀ r, OpR (U.cx r) (binaryOp op) r2) ∧ ∀ v w G H, Ex G H → Dt G v da → Dt G w db → ∀ Q : VK, (∀ z G' H', Ext G H G' H' → Dt G' z d → Q z H') → r2 v w H Q
theorem ev_bin {op : Operator} (ha : EvD U a Δ M da) (hb : EvD U b Δ M db) (h : BinR U op da db d) : EvD U (.BinOp a op b pos) Δ M d := by
  obtain ⟨r2, ho, hr⟩ := h
  exact ev_two (t := tC .non) (fun r => pe_op (ho r) pe_r pe_r) ha hb hr
theorem br_add {n m : Int} : BinR U .Add (.int n) (.int m) (.int (n + m)) := ⟨_, fun r => op_add, fun v w G H e h1 h2 Q q => ⟨n, m, h1.int_eq, h2.int_eq, q _ G H (.refl e) (.int _)⟩⟩
theorem br_sub {n m : Int} : BinR U .Sub (.int n) (.int m) (.int (n - m)) := ⟨_, fun r => op_sub, fun v w G H e h1 h2 Q q => ⟨n, m, h1.int_eq, h2.int_eq, q _ G H (.refl e) (.int _)⟩⟩
theorem br_mul {n m : Int} (hc : CMul n m) : BinR U .Mult (.int n) (.int m) (.int (n * m)) := ⟨_, fun r => op_mul, fun v w G H e h1 h2 Q q => ⟨n, m, h1.int_eq, h2.int_eq, hc, q _ G H (.refl e) (.int _)⟩⟩
theorem br_mod {n m : Int} (hc : 0 < m) : BinR U .Mod (.int n) (.int m) (.int (n % m)) := ⟨_, fun r => op_mod, fun v w G H e h1 h2 Q q => ⟨n, m, h1.int_eq, h2.int_eq, hc, q _ G H (.refl e) (.int _)⟩⟩
theorem br_fdiv {n m : Int} (hc : CDiv n m) : BinR U .FloorDiv (.int n) (.int m) (.int (n / m)) := ⟨_, fun r => op_fdiv, fun v w G H e h1 h2 Q q => ⟨n, m, h1.int_eq, h2.int_eq, hc, q _ G H (.refl e) (.int _)⟩⟩
theorem br_addS {n m : Str} (hc : n.length + m.length ≤ sizeLine) : BinR U .Add (.str n) (.str m) (.str (n ++ m)) := ⟨_, fun r => op_add_str, fun v w G H e h1 h2 Q q => ⟨n, m, h1.str_eq, h2.str_eq, hc, q _ G H (.refl e) (.str _)⟩⟩
theorem br_cat {xs ys : List PyData} (hc : xs.length + ys.length ≤ sizeLine) : BinR U .Add (.list xs) (.list ys) (.list (xs ++ ys)) := ⟨_, fun r => op_cat, fun v w G H e h1 h2 Q q => by
  obtain ⟨l, us, rfl, g1, t1⟩ := h1.lst_eq
  obtain ⟨k, ws, rfl, g2, t2⟩ := h2.lst_eq
  exact ⟨l, k, us, ws, rfl, rfl, e _ _ g1, e _ _ g2, by rw [t1.length, t2.length]; exact hc, fun p hp => q _ _ _ (.new e hp) (.lst upd_same ((t1.append t2).mono (Ext.new e hp).gg))⟩⟩
theorem br_catT {xs ys : List PyData} (hc : xs.length + ys.length ≤ sizeLine) : BinR U .Add (.tuple xs) (.tuple ys) (.tuple (xs ++ ys)) := ⟨rCatA U.K, fun r => op_catA, fun v w G H e h1 h2 Q q => by
  obtain ⟨l, us, rfl, g1, t1⟩ := h1.tup_eq
  obtain ⟨k, ws, rfl, g2, t2⟩ := h2.tup_eq
  refine ⟨l, k, us, ws, rfl, rfl, .of (e _ _ g1), .of (e _ _ g2), by rw [t1.length, t2.length]; exact hc, fun z => ?_, fun z z' => ?_, fun _ _ p hp => q _ _ _ (.new e hp) (.tup upd_same ((t1.append t2).mono (Ext.new e hp).gg))⟩
  · subst z
    cases t1
    exact q _ G H (.refl e) (.tup g2 t2)
  · subst z'
    cases t2
    rw [List.append_nil] at *
    exact q _ G H (.refl e) (.tup g1 t1)⟩

/-! ### comparisons -/
structure CmpR (U : Vw) (op : CmpOp) (da db : PyData) (k : Bool) : Prop where
  ex : ∃ r2 : R2, (∀ r, OpR (U.cx r) (compareOp op) r2) ∧ ∀ v w G H, Ex G H → Dt G v da → Dt G w db → ∀ Q : VK, Q (.bl k) H → r2 v w H Q
theorem ev_cmp {op : CmpOp} {k : Bool} (ha : EvD U a Δ M da) (hb : EvD U b Δ M db) (h : CmpR U op da db k) (hm : behindInMarks op b = false := by first | exact nomark _ | rfl) : EvD U (.Compare a [op] [b] pos) Δ M (.bool k) := by
  obtain ⟨r2, ho, hr⟩ := h
  exact ev_two (t := tC .non) (fun r => pe_cmpR (ho r) pe_r pe_r hm) ha hb fun v w G H e h1 h2 Q q => hr v w G H e h1 h2 Q (q _ G H (.refl e) (.bl k))
theorem et_cmp {op : CmpOp} {k : Bool} (ha : EvD U a Δ M da) (hb : EvD U b Δ M db) (h : CmpR U op da db k) (hm : behindInMarks op b = false := by first | exact nomark _ | rfl) : EvT U (.Compare a [op] [b] pos) Δ M k := by
  obtain ⟨r2, ho, hr⟩ := h
  exact fun G0 H0 Gs G σ H st Q q => ⟨_, fun r => pt_cmpR (ho r) pe_r pe_r hm, ha G0 H0 Gs G σ H st _ fun v G1 H1 e1 h1 => hb G0 H0 Gs G1 σ H1 (st.grow e1) _ fun w G2 H2 e2 h2 => hr v w G2 H2 e2.gh (h1.mono e2.gg) h2 _ ⟨k, rfl, q G2 H2 (e1.trans e2)⟩⟩
theorem cr_eqI {n m : Int} : CmpR U .Eq (.int n) (.int m) (decide (n = m)) := ⟨_, fun r => op_eq, fun v w G H e h1 h2 Q q => by
  rw [h1.int_eq, h2.int_eq]
  refine ⟨rfl, ?_⟩
  have : decide (L2.V.int n = L2.V.int m) = decide (n = m) := by simp
  rw [this]; exact q⟩
theorem cr_neI {n m : Int} : CmpR U .NotEq (.int n) (.int m) (!decide (n = m)) := ⟨_, fun r => op_ne, fun v w G H e h1 h2 Q q => by
  rw [h1.int_eq, h2.int_eq]
  refine ⟨rfl, ?_⟩
  have : decide (L2.V.int n = L2.V.int m) = decide (n = m) := by simp
  rw [this]; exact q⟩
theorem cr_eqS {n m : Str} : CmpR U .Eq (.str n) (.str m) (decide (n = m)) := ⟨_, fun r => op_eq, fun v w G H e h1 h2 Q q => by
  rw [h1.str_eq, h2.str_eq]
  refine ⟨rfl, ?_⟩
  have : decide (L2.V.str n = L2.V.str m) = decide (n = m) := by simp
  rw [this]; exact q⟩
theorem cr_neS {n m : Str} : CmpR U .NotEq (.str n) (.str m) (!decide (n = m)) := ⟨_, fun r => op_ne, fun v w G H e h1 h2 Q q => by
  rw [h1.str_eq, h2.str_eq]
  refine ⟨rfl, ?_⟩
  have : decide (L2.V.str n = L2.V.str m) = decide (n = m) := by simp
  rw [this]; exact q⟩
theorem cr_lt {n m : Int} : CmpR U .Lt (.int n) (.int m) (decide (n < m)) := ⟨_, fun r => op_lt, fun v w G H e h1 h2 Q q => ⟨n, m, h1.int_eq, h2.int_eq, q⟩⟩
theorem cr_le {n m : Int} : CmpR U .LtE (.int n) (.int m) (decide (n ≤ m)) := ⟨_, fun r => op_le, fun v w G H e h1 h2 Q q => ⟨n, m, h1.int_eq, h2.int_eq, q⟩⟩
theorem cr_gt {n m : Int} : CmpR U .Gt (.int n) (.int m) (decide (m < n)) := ⟨_, fun r => op_gt, fun v w G H e h1 h2 Q q => ⟨n, m, h1.int_eq, h2.int_eq, q⟩⟩
theorem cr_ge {n m : Int} : CmpR U .GtE (.int n) (.int m) (decide (m ≤ n)) := ⟨_, fun r => op_ge, fun v w G H e h1 h2 Q q => ⟨n, m, h1.int_eq, h2.int_eq, q⟩⟩
theorem dp_whole {K : PySem.W.Frag} {G H : Hp} (e : Ex G H) {v : L2.V} {d : PyData} (c : d.canLay0 = true) (h : Dt G v d) : Dp K H v d := (h.mono e).dp c
theorem cr_eqD {d1 d2 : PyData} (hu : U.A.units + 64 < cLine) (s1 : SeqAt.shaped d1 = true) (s2 : SeqAt.shaped d2 = true) : CmpR U .Eq d1 d2 (PyData.eqv d1 d2) := ⟨rEqD U.K, fun r => op_eqD (X := U.cx r) hu, fun v w G H e h1 h2 Q q => ⟨d1, d2, dp_whole e (SeqAt.canLay_of_shaped s1) h1, dp_whole e (SeqAt.canLay_of_shaped s2) h2, s1, s2, q⟩⟩
theorem cr_neD {d1 d2 : PyData} (hu : U.A.units + 64 < cLine) (s1 : SeqAt.shaped d1 = true) (s2 : SeqAt.shaped d2 = true) : CmpR U .NotEq d1 d2 (!PyData.eqv d1 d2) := ⟨rNeD U.K, fun r => op_neD (X := U.cx r) hu, fun v w G H e h1 h2 Q q => ⟨d1, d2, dp_whole e (SeqAt.canLay_of_shaped s1) h1, dp_whole e (SeqAt.canLay_of_shaped s2) h2, s1, s2, q⟩⟩
theorem cr_eqP {d1 d2 : PyData} {k : Bool} (hu : U.A.units + 64 < cLine) (o1 : okD 8 d1 = true) (o2 : okD 8 d2 = true) (h : k = true ↔ d1 = d2) : CmpR U .Eq d1 d2 k := by
  have e : PyData.eqv d1 d2 = k := Bool.eq_iff_iff.mpr ((eqv_ok 8 d1 d2 o1 o2).trans h.symm)
  exact e ▸ cr_eqD hu (okD_shaped (by decide) o1) (okD_shaped (by decide) o2)
theorem cr_neP {d1 d2 : PyData} {k : Bool} (hu : U.A.units + 64 < cLine) (o1 : okD 8 d1 = true) (o2 : okD 8 d2 = true) (h : k = true ↔ d1 ≠ d2) : CmpR U .NotEq d1 d2 k := by
  have e : (!PyData.eqv d1 d2) = k := by
    refine Bool.eq_iff_iff.mpr (Iff.trans ?_ h.symm)
    refine Iff.trans ?_ (not_congr (eqv_ok 8 d1 d2 o1 o2))
    cases PyData.eqv d1 d2 <;> simp
  exact e ▸ cr_neD hu (okD_shaped (by decide) o1) (okD_shaped (by decide) o2)
theorem CmpR.to {op : CmpOp} {k k' : Bool} (h : CmpR U op da db k) (e : k = k') : CmpR U op da db k' := e ▸ h

/-! ### tests -/
theorem et_val {k : Bool} (h : EvD U e Δ M (.bool k)) (he : ∀ r whole, isTrue e (U.cx r).env whole = (do let v ← whole; standAt e.pos; holding [v] (truthy v)) := by intro _ _; rfl) : EvT U e Δ M k :=
  fun G0 H0 Gs G σ H st Q q => ⟨_, fun r => pt_val pe_r (he r), h G0 H0 Gs G σ H st _ fun v G' H' e1 h1 => ⟨k, h1.bl_eq, q G' H' e1⟩⟩
theorem et_not {k : Bool} (h : EvT U e Δ M k) : EvT U (.UnaryOp .Not e pos) Δ M (!k) := fun G0 H0 Gs G σ H st Q q => ⟨_, fun r => pt_not pt_r, h G0 H0 Gs G σ H st _ fun G' H' e1 => q G' H' e1⟩
theorem ew_and1 {k : Bool} (h : EvT U e Δ M k) : EvW U (.BoolOp .And [e] pos) Δ M k := fun G0 H0 Gs G σ H st Q q => ⟨_, fun r => pw_and1 pt_r, h G0 H0 Gs G σ H st _ q⟩
theorem ew_or1 {k : Bool} (h : EvT U e Δ M k) : EvW U (.BoolOp .Or [e] pos) Δ M k := fun G0 H0 Gs G σ H st Q q => ⟨_, fun r => pw_or1 pt_r, h G0 H0 Gs G σ H st _ q⟩
theorem ew_and {k l : Bool} (h : EvT U a Δ M k) (h2 : k = true → EvW U (.BoolOp .And (b :: es) pos) Δ M l) : EvW U (.BoolOp .And (a :: b :: es) pos) Δ M (k && l) := fun G0 H0 Gs G σ H st Q q => ⟨_, fun r => pw_and pt_r pw_r, h G0 H0 Gs G σ H st _ fun G' H' e1 => by
  cases k with
  | true =>
    show rW U (.BoolOp .And (b :: es) pos) σ H' Q
    exact h2 rfl G0 H0 Gs G' σ H' (st.grow e1) Q fun G2 H2 e2 => q G2 H2 (e1.trans e2)
  | false =>
    show Q false H'
    exact q G' H' e1⟩
theorem ew_or {k l : Bool} (h : EvT U a Δ M k) (h2 : k = false → EvW U (.BoolOp .Or (b :: es) pos) Δ M l) : EvW U (.BoolOp .Or (a :: b :: es) pos) Δ M (k || l) := fun G0 H0 Gs G σ H st Q q => ⟨_, fun r => pw_or pt_r pw_r, h G0 H0 Gs G σ H st _ fun G' H' e1 => by
  cases k with
  | true =>
    show Q true H'
    exact q G' H' e1
  | false =>
    show rW U (.BoolOp .Or (b :: es) pos) σ H' Q
    exact h2 rfl G0 H0 Gs G' σ H' (st.grow e1) Q fun G2 H2 e2 => q G2 H2 (e1.trans e2)⟩
theorem et_w {k : Bool} (h : EvW U e Δ M k) : EvT U e Δ M k := fun G0 H0 Gs G σ H st Q q => ⟨_, fun r => (pw_r (V := U) (r := r) (e := e)).pt, h G0 H0 Gs G σ H st Q q⟩
/-- as values -/
theorem ev_one {op : BoolOp} (h : EvD U e Δ M d) : EvD U (.BoolOp op [e] pos) Δ M d := fun G0 H0 Gs G σ H st Q q => ⟨_, fun r => pe_one pe_r, h G0 H0 Gs G σ H st Q q⟩
theorem ev_and {k l : Bool} (h : EvD U a Δ M (.bool k)) (h2 : k = true → EvD U (.BoolOp .And (b :: es) pos) Δ M (.bool l)) : EvD U (.BoolOp .And (a :: b :: es) pos) Δ M (.bool (k && l)) := fun G0 H0 Gs G σ H st Q q => ⟨_, fun r => pe_and pe_r pe_r, h G0 H0 Gs G σ H st _ fun v G' H' e1 h1 => ⟨k, h1.bl_eq, by
  cases k with
  | true =>
    show rE U (.BoolOp .And (b :: es) pos) σ H' Q
    exact h2 rfl G0 H0 Gs G' σ H' (st.grow e1) Q fun z G2 H2 e2 => q z G2 H2 (e1.trans e2)
  | false =>
    show Q (.bl false) H'
    exact q _ G' H' e1 (.bl _)⟩⟩
theorem ev_or {k l : Bool} (h : EvD U a Δ M (.bool k)) (h2 : k = false → EvD U (.BoolOp .Or (b :: es) pos) Δ M (.bool l)) : EvD U (.BoolOp .Or (a :: b :: es) pos) Δ M (.bool (k || l)) := fun G0 H0 Gs G σ H st Q q => ⟨_, fun r => pe_or pe_r pe_r, h G0 H0 Gs G σ H st _ fun v G' H' e1 h1 => ⟨k, h1.bl_eq, by
  cases k with
  | true =>
    show Q (.bl true) H'
    exact q _ G' H' e1 (.bl _)
  | false =>
    show rE U (.BoolOp .Or (b :: es) pos) σ H' Q
    exact h2 rfl G0 H0 Gs G' σ H' (st.grow e1) Q fun z G2 H2 e2 => q z G2 H2 (e1.trans e2)⟩⟩
theorem ev_not {k : Bool} (h : EvD U e Δ M (.bool k)) : EvD U (.UnaryOp .Not e pos) Δ M (.bool (!k)) := fun G0 H0 Gs G σ H st Q q => ⟨_, fun r => pe_not pe_r, h G0 H0 Gs G σ H st _ fun v G' H' e1 h1 => ⟨k, h1.bl_eq, q _ G' H' e1 (.bl _)⟩⟩

/-! ### arguments, tuples, lists -/
theorem ea_nil : EvA U [] Δ M [] := fun G0 H0 Gs G σ H st Q q => ⟨_, fun r => pa_nil, q [] G H (.refl st.ext.gh) .nil⟩
theorem paired_mono {K : PySem.W.Frag} {G G' : Hp} (e : Ex G G') : ∀ {vs : List L2.V} {S : List Sv}, Paired (fun v s => SvOk K G (some (some v)) s) vs S → Paired (fun v s => SvOk K G' (some (some v)) s) vs S
  | _, _, .nil => .nil
  | _, _, .cons h t => .cons (SvOk.mono e h) (paired_mono e t)
theorem ea_consX {s : Sv} {S : List Sv} (h : EvX U e Δ M s) (h2 : EvA U es Δ M S) (hs : ∀ r, starEach (e :: es) (U.cx r).env = (false, eval e (U.cx r).env) :: starEach es (U.cx r).env := by intro _; rfl) : EvA U (e :: es) Δ M (s :: S) := fun G0 H0 Gs G σ H st Q q =>
  ⟨_, fun r => pa_cons pe_r pa_r (hs r), h G0 H0 Gs G σ H st _ fun v G1 H1 e1 h1 => h2 G0 H0 Gs G1 σ H1 (st.grow e1) _ fun vs G2 H2 e2 hvs => q _ G2 H2 (e1.trans e2) (.cons (h1.mono e2.gg) hvs)⟩
theorem ea_cons {S : List Sv} (h : EvD U e Δ M d) (h2 : EvA U es Δ M S) (hs : ∀ r, starEach (e :: es) (U.cx r).env = (false, eval e (U.cx r).env) :: starEach es (U.cx r).env := by intro _; rfl) : EvA U (e :: es) Δ M (.dat d :: S) := ea_consX h.toX h2 hs
theorem paired_dat {K : PySem.W.Frag} {G : Hp} : ∀ {vs : List L2.V} {ds : List PyData}, Paired (fun v s => SvOk K G (some (some v)) s) vs (ds.map .dat) → DtAll G vs ds
  | _, [], h => by cases h; exact .nil
  | _, d :: ds, h => by
    cases h with
    | cons a t =>
      obtain ⟨v', e, h1⟩ := a
      cases e
      exact .cons h1 (paired_dat t)
theorem ev_tup {ds : List PyData} (h : EvA U es Δ M (ds.map .dat)) (hl : ds.length ≤ sizeLine := by show _ ≤ sizeLine; decide) {x1 : Nat} : EvD U (.Tuple es x1 pos) Δ M (.tuple ds) := fun G0 H0 Gs G σ H st Q q =>
  ⟨_, fun r => pe_tup pa_r, h G0 H0 Gs G σ H st _ fun vs G1 H1 e1 hvs => ⟨by rw [(paired_dat hvs).length]; exact hl, fun p hp => q _ _ _ (e1.trans (.new e1.gh hp)) (.tup upd_same ((paired_dat hvs).mono (Ext.new e1.gh hp).gg))⟩⟩
theorem ev_lst {ds : List PyData} (h : EvA U es Δ M (ds.map .dat)) (hl : ds.length ≤ sizeLine := by show _ ≤ sizeLine; decide) : EvD U (.List es pos) Δ M (.list ds) := fun G0 H0 Gs G σ H st Q q =>
  ⟨_, fun r => pe_lst pa_r, h G0 H0 Gs G σ H st _ fun vs G1 H1 e1 hvs => ⟨by rw [(paired_dat hvs).length]; exact hl, fun p hp => q _ _ _ (e1.trans (.new e1.gh hp)) (.lst upd_same ((paired_dat hvs).mono (Ext.new e1.gh hp).gg))⟩⟩

/-! ### subscripts -/
inductive IxD : PyData → PyData → PyData → Prop
  | lst {ds : List PyData} {n : Int} {d : PyData} (h : L2.atI ds n = some d) : IxD (.list ds) (.int n) d
  | tup {ds : List PyData} {n : Int} {d : PyData} (h : L2.atI ds n = some d) : IxD (.tuple ds) (.int n) d
  | str {z : Str} {n : Int} {c : Nat} (hl : z.length ≤ sizeLine) (h : L2.atI z.cps.toList n = some c) : IxD (.str z) (.int n) (.str ⟨#[c]⟩)
theorem ev_ix (ha : EvD U a Δ M da) (hb : EvD U b Δ M db) (h : IxD da db d) (hs : PlainIx b := by exact fun _ _ => rfl) : EvD U (.Subscript a b pos) Δ M d :=
  ev_two (t := tC .non) (r2 := rIx U.K) (fun r => pe_ix ix_seq pe_r pe_r hs) ha hb fun v w G H e h1 h2 Q q => by
    cases h with
    | @lst ds n d h =>
      obtain ⟨l, us, rfl, g1, t1⟩ := h1.lst_eq
      obtain ⟨z, z1, z2⟩ := t1.atI h
      exact .inl ⟨l, us, n, z, rfl, h2.int_eq, .of (e _ _ g1), z1, q _ G H (.refl e) z2⟩
    | @tup ds n d h =>
      obtain ⟨l, us, rfl, g1, t1⟩ := h1.tup_eq
      obtain ⟨z, z1, z2⟩ := t1.atI h
      exact .inr (.inl ⟨l, us, n, z, rfl, h2.int_eq, .of (e _ _ g1), z1, q _ G H (.refl e) z2⟩)
    | @str z n c hl h => exact .inr (.inr ⟨z, n, c, h1.str_eq, h2.int_eq, hl, h, q _ G H (.refl e) (.str _)⟩)

/-! ### dicts that are being made -/
def valD {κ : Type} [DecidableEq κ] (kvs : List (κ × PyData)) (k : κ) : Option PyData := (kvs.find? fun kv => decide (kv.1 = k)).map (·.2)
theorem KDt.val {κ : Type} [DecidableEq κ] {G : Hp} (k : κ) : ∀ {ks : List (κ × L2.V)} {kvs : List (κ × PyData)}, KDt G ks kvs → match valD kvs k with | some d => ∃ v, valV ks k = some v ∧ Dt G v d | none => valV ks k = none
  | _, _, .nil => rfl
  | p :: ps, q :: qs, .cons h t => by
    have ih := KDt.val k t
    by_cases e : q.1 = k
    · have e1 : valD (q :: qs) k = some q.2 := by simp [valD, List.find?_cons, e]
      rw [e1]
      exact ⟨p.2, valV_pos (h.1.trans e), h.2⟩
    · have e1 : valD (q :: qs) k = valD qs k := by simp [valD, List.find?_cons, e]
      rw [e1, valV_neg (fun z => e (h.1.symm.trans z))]
      exact ih
theorem KDt.some {κ : Type} [DecidableEq κ] {G : Hp} {k : κ} {ks : List (κ × L2.V)} {kvs : List (κ × PyData)} {d : PyData} (t : KDt G ks kvs) (h : valD kvs k = some d) : ∃ v, valV ks k = some v ∧ Dt G v d := by
  have := t.val k
  rw [h] at this; exact this
theorem KDt.isSome {κ : Type} [DecidableEq κ] {G : Hp} {k : κ} {ks : List (κ × L2.V)} {kvs : List (κ × PyData)} (t : KDt G ks kvs) : (valV ks k).isSome = (valD kvs k).isSome := by
  have := t.val k
  cases h : valD kvs k with
  | none => rw [h] at this; rw [this]; rfl
  | some d => rw [h] at this; obtain ⟨v, h1, _⟩ := this; rw [h1]; rfl
theorem KDt.length {κ : Type} {G : Hp} {ks : List (κ × L2.V)} {kvs : List (κ × PyData)} (t : KDt G ks kvs) : ks.length = kvs.length := Paired.length t
def putD {κ : Type} [DecidableEq κ] (kvs : List (κ × PyData)) (k : κ) (d : PyData) : List (κ × PyData) :=
  if kvs.any fun kv => decide (kv.1 = k) then kvs.map fun kv => if kv.1 = k then (kv.1, d) else kv else kvs ++ [(k, d)]
theorem KDt.put {κ : Type} [DecidableEq κ] {G : Hp} {k : κ} {v : L2.V} {d : PyData} {ks : List (κ × L2.V)} {kvs : List (κ × PyData)} (t : KDt G ks kvs) (h : Dt G v d) : KDt G (putK ks k v) (putD kvs k d) := by
  have hany : (ks.any fun kv => decide (kv.1 = k)) = (kvs.any fun kv => decide (kv.1 = k)) := by
    clear h
    induction t with
    | nil => rfl
    | cons a t ih => rw [List.any_cons, List.any_cons, ih, a.1]
  unfold putK putD
  rw [hany]
  split
  · clear hany
    rename_i hz
    clear hz
    induction t with
    | nil => exact .nil
    | @cons p q ps qs a t ih =>
      rw [List.map_cons, List.map_cons]
      refine .cons ?_ ?_
      · rw [a.1]
        split
        · exact ⟨rfl, h⟩
        · exact a
      · exact ih
  · clear hany
    rename_i hz
    clear hz
    induction t with
    | nil => exact .cons ⟨rfl, h⟩ .nil
    | cons a t ih => exact .cons a ih
end
end Ck
end Ck1Part

/-! ## Ck2 -/
section Ck2Part
set_option Elab.async false
set_option linter.all false
set_option maxRecDepth 100000
set_option maxHeartbeats 4000000
/-! Statements, loops, defs at the level of data. -/
namespace Ck
open PySem PySem.Spec PyProof.Rows L2

/-- what is wanted behind a statement -/
structure DE where
  nx : List Sv → MS → Prop
  rt : PyData → Prop
  bk : List Sv → MS → Prop := fun _ _ => False
  ct : List Sv → MS → Prop := fun _ _ => False
  fin : PyData → Prop := fun _ => False
structure Lands (K : PySem.W.Frag) (G0 H0 Gs : Hp) (E : DE) (D : Ends) : Prop where
  nx : ∀ Δ M G σ H, E.nx Δ M → Sta K G0 H0 Gs Δ M G σ H → D.nx σ H
  rt : ∀ d v G H, E.rt d → Ext G0 H0 G H → Dt G v d → D.rt v H
  bk : ∀ Δ M G σ H, E.bk Δ M → Sta K G0 H0 Gs Δ M G σ H → D.bk σ H
  ct : ∀ Δ M G σ H, E.ct Δ M → Sta K G0 H0 Gs Δ M G σ H → D.ct σ H
  fin : ∀ d v H, E.fin d → Dt (fun _ => none) v d → D.rt v H
def HT (U : Vw) (st : Stmt) (Δ : List Sv) (M : MS) (E : DE) : Prop := ∀ G0 H0 Gs G σ H D, Sta U.K G0 H0 Gs Δ M G σ H → Lands U.K G0 H0 Gs E D → rS U st D σ H
def HS (U : Vw) (sts : List Stmt) (Δ : List Sv) (M : MS) (E : DE) : Prop := ∀ G0 H0 Gs G σ H D, Sta U.K G0 H0 Gs Δ M G σ H → Lands U.K G0 H0 Gs E D → rSs U sts D σ H
/-- targets: data d to the target, the slots `is` stored -/
def Tgt (U : Vw) (tg : Expr) (is : List Nat) (Δ : List Sv) (d : PyData) (Δ' : List Sv) : Prop := ∀ G H σ v, Ex G H → Sl U.K G σ Δ → Dt G v d → ∀ Q : L2.St → Hp → Prop, (∀ σ', Sl U.K G σ' Δ' → (∀ vs : List Nat, (∀ i ∈ is, i ∈ vs) → wipe σ' vs = wipe σ vs) → Q σ' H) → rG U tg v σ H Q
def rGs (U : Vw) (tgs : List Expr) : TGs := fun vs σ H Q => ∃ t : TGs, (∀ r, PGs (U.cx r) tgs t) ∧ t vs σ H Q
theorem pgs_r {U : Vw} {r : Cx} {tgs : List Expr} : PGs (U.cx r) tgs (rGs U tgs) := ⟨fun pins s σ H vs us Q I rv ⟨_, p, q⟩ => (p r).run pins s σ H vs us Q I rv q⟩
def Tgts (U : Vw) (tgs : List Expr) (is : List Nat) (Δ : List Sv) (ds : List PyData) (Δ' : List Sv) : Prop := ∀ G H σ vs, Ex G H → Sl U.K G σ Δ → DtAll G vs ds → ∀ Q : L2.St → Hp → Prop, (∀ σ', Sl U.K G σ' Δ' → (∀ ws : List Nat, (∀ i ∈ is, i ∈ ws) → wipe σ' ws = wipe σ ws) → Q σ' H) → rGs U tgs vs σ H Q
section
variable {U : Vw} {Δ Δ' Δ'' : List Sv} {M : MS} {E : DE} {e a b c tg it : Expr} {es tgs : List Expr} {d da db : PyData} {ds : List PyData} {x : Str} {pos p : Pos} {i : Nat} {is js : List Nat} {st : Stmt} {sts body : List Stmt}
theorem set_wipe {σ : L2.St} {i : Nat} {o : Option L2.V} : ∀ {vs : List Nat}, i ∈ vs → wipe (σ.set i o) vs = wipe σ vs
  | [], h => by cases h
  | v :: vs, h => by
    show (wipe (σ.set i o) vs).set v none = (wipe σ vs).set v none
    by_cases hv : i ∈ vs
    · rw [set_wipe hv]
    · have e : i = v := by
        rcases List.mem_cons.mp h with h | h
        · exact h
        · exact absurd h hv
      subst e
      have q : ∀ (vs : List Nat) (τ : L2.St), i ∉ vs → (wipe (τ.set i o) vs).set i none = (wipe τ vs).set i none := by
        intro vs
        induction vs with
        | nil => intro τ _; show (τ.set i o).set i none = τ.set i none; rw [List.set_set]
        | cons w ws ih =>
          intro τ hn
          rw [List.mem_cons, not_or] at hn
          show ((wipe (τ.set i o) ws).set w none).set i none = ((wipe τ ws).set w none).set i none
          rw [List.set_comm _ _ (fun z => hn.1 z.symm), ih τ hn.2, List.set_comm _ _ hn.1]
      exact q vs σ hv
theorem tg_name (i : Nat) (hN : U.N.Nodup) (hi : U.N[i]? = some x := by rfl) (hx : Loc U.sc x := by first | exact Or.inl rfl | exact Or.inr rfl) (hf : U.fn x = true ∨ U.sc.names.lookup x = some .local := by first | exact .inl rfl | exact .inr rfl) : Tgt U (.Name x pos) [i] Δ d (Δ.set i (.dat d)) := fun G H σ v e sl h Q q =>
  ⟨_, fun r => pg_name (X := U.cx r) hN hi hx hf, q _ (sl.set i ⟨v, rfl, h⟩) fun vs hv => set_wipe (hv i List.mem_cons_self)⟩
theorem tgs_nil : Tgts U [] [] Δ [] Δ := fun G H σ vs e sl h Q q => by
  cases h
  exact ⟨_, fun r => pgs_nil, rfl, q σ sl fun _ _ => rfl⟩
theorem tgs_cons (h1 : Tgt U tg is Δ d Δ') (h2 : Tgts U tgs js Δ' ds Δ'') (hs : ∀ r, (assignEach (tg :: tgs) (U.cx r).env).map (·.2) = assign tg (U.cx r).env :: (assignEach tgs (U.cx r).env).map (·.2) := by intro _; rfl) : Tgts U (tg :: tgs) (is ++ js) Δ (d :: ds) Δ'' := fun G H σ vs e sl h Q q => by
  cases h with
  | cons a t =>
    refine ⟨_, fun r => pgs_cons pg_r pgs_r (hs r), _, _, rfl, h1 G H σ _ e sl a _ fun σ1 s1 w1 => h2 G H σ1 _ e s1 t _ fun σ2 s2 w2 => q σ2 s2 fun vs hv => ?_⟩
    rw [w2 vs fun i hi => hv i (List.mem_append_right _ hi), w1 vs fun i hi => hv i (List.mem_append_left _ hi)]
theorem tg_tup {k : Nat} (h : Tgts U tgs is Δ ds Δ') (hl : tgs.length = ds.length := by rfl) (hc : ∀ r, (U.cx r).calm = true := by intro _; rfl) (hn : ∀ r, (assignEach tgs (U.cx r).env).length = ds.length := by intro _; rfl) (hst : ∀ r, (assignEach tgs (U.cx r).env).findIdx? (·.1) = none := by intro _; rfl) : Tgt U (.Tuple tgs k pos) is Δ (.tuple ds) Δ' := fun G H σ v e sl hd Q q => by
  obtain ⟨a, xs, rfl, g, t⟩ := hd.tup_eq
  exact ⟨gTup U.K ds.length (rGs U tgs), fun r => pg_tup (hc r) pgs_r (hn := hn r) (hst := hst r), a, xs, rfl, .of (e _ _ g), t.length, h G H σ xs e sl t Q q⟩

/-! ### statements -/
theorem hs_nil (h : E.nx Δ M) : HS U [] Δ M E := fun G0 H0 Gs G σ H D st L => ⟨_, fun r => pss_nil, L.nx _ _ _ _ _ h st⟩
theorem hs_cons (h : HT U st Δ M { E with nx := fun Δ' M' => HS U sts Δ' M' E }) : HS U (st :: sts) Δ M E := fun G0 H0 Gs G σ H D s L =>
  ⟨_, fun r => pss_cons ps_r pss_r, h G0 H0 Gs G σ H { D with nx := rSs U sts D } s ⟨fun Δ M G σ H hs st => hs G0 H0 Gs G σ H D st L, L.rt, L.bk, L.ct, L.fin⟩⟩
theorem Lands.mono {K : PySem.W.Frag} {G0 H0 Gs : Hp} {E E' : DE} {D : Ends} (L : Lands K G0 H0 Gs E' D) (h1 : ∀ Δ M, E.nx Δ M → E'.nx Δ M) (h2 : ∀ d, E.rt d → E'.rt d) (h3 : ∀ Δ M, E.bk Δ M → E'.bk Δ M) (h4 : ∀ Δ M, E.ct Δ M → E'.ct Δ M) (h5 : ∀ d, E.fin d → E'.fin d) : Lands K G0 H0 Gs E D :=
  ⟨fun Δ M G σ H q => L.nx Δ M G σ H (h1 _ _ q), fun d v G H q => L.rt d v G H (h2 _ q), fun Δ M G σ H q => L.bk Δ M G σ H (h3 _ _ q), fun Δ M G σ H q => L.ct Δ M G σ H (h4 _ _ q), fun d v H q => L.fin d v H (h5 _ q)⟩
theorem HS.imp {E' : DE} (h : HS U sts Δ M E) (h1 : ∀ Δ M, E.nx Δ M → E'.nx Δ M) (h2 : ∀ d, E.rt d → E'.rt d) (h3 : ∀ Δ M, E.bk Δ M → E'.bk Δ M) (h4 : ∀ Δ M, E.ct Δ M → E'.ct Δ M) (h5 : ∀ d, E.fin d → E'.fin d) : HS U sts Δ M E' := fun G0 H0 Gs G σ H D st L => h G0 H0 Gs G σ H D st (L.mono h1 h2 h3 h4 h5)
/-- x = e, any target -/
theorem ht_asg (he : EvD U e Δ M d) (hg : Tgt U tg is Δ d Δ') (k : E.nx Δ' M) (hs : ∀ r, swapsWithSole [tg] e pos.line (U.cx r).env = pure false := by intro _; rfl) (hw : ∀ r, swappedStores [tg] e (U.cx r).env = pure none := by intro _; rfl) (h1' : ∀ r, (assignEach [tg] (U.cx r).env).map (·.2) = [assign tg (U.cx r).env] := by intro _; rfl) : HT U (.Assign [tg] e pos) Δ M E := fun G0 H0 Gs G σ H D st L =>
  ⟨_, fun r => ps_asg pe_r pg_r (hs r) (hw r) (h1' r), he G0 H0 Gs G σ H st _ fun v G' H' e1 h1 => hg G' H' σ v e1.gh (st.grow e1).sl h1 _ fun σ' s' _ => L.nx _ _ G' σ' H' k ⟨(st.grow e1).ext, s', (st.grow e1).ms, (st.grow e1).kp⟩⟩
/-- x = e -/
theorem ht_set (i : Nat) (hN : U.N.Nodup) (he : EvD U e Δ M d) (k : E.nx (Δ.set i (.dat d)) M) {pos' : Pos} (hi : U.N[i]? = some x := by rfl) (hx : Loc U.sc x := by first | exact Or.inl rfl | exact Or.inr rfl)
    (hs : ∀ r, swapsWith e (some (.Name x pos')) pos.line (U.cx r).env = pure false := by intro _; rfl) (hf : U.fn x = true ∨ U.sc.names.lookup x = some .local := by first | exact .inl rfl | exact .inr rfl) : HT U (.Assign [.Name x pos'] e pos) Δ M E := fun G0 H0 Gs G σ H D st L =>
  ⟨_, fun r => ps_set (X := U.cx r) hN hi hx pe_r (hs r), he G0 H0 Gs G σ H st _ fun v G' H' e1 h1 => L.nx _ _ G' _ H' k ((st.grow e1).dat i h1)⟩
/-- x = e, whatever e is -/
theorem ht_setX {s : Sv} (i : Nat) (hN : U.N.Nodup) (he : EvX U e Δ M s) (k : E.nx (Δ.set i s) M) {pos' : Pos} (hi : U.N[i]? = some x := by rfl) (hx : Loc U.sc x := by first | exact Or.inl rfl | exact Or.inr rfl)
    (hs : ∀ r, swapsWith e (some (.Name x pos')) pos.line (U.cx r).env = pure false := by intro _; rfl) (hf : U.fn x = true ∨ U.sc.names.lookup x = some .local := by first | exact .inl rfl | exact .inr rfl) : HT U (.Assign [.Name x pos'] e pos) Δ M E := fun G0 H0 Gs G σ H D st L =>
  ⟨_, fun r => ps_set (X := U.cx r) hN hi hx pe_r (hs r), he G0 H0 Gs G σ H st _ fun v G' H' e1 h1 => L.nx _ _ G' _ H' k ((st.grow e1).set i h1)⟩
/-- a, b = b, a and the like -/
theorem ht_par {y : Str} {px py pt : Pos} {kt k2 : Nat} {pt2 : Pos} (i : Nat) (j : Nat) (hN : U.N.Nodup) (ha : EvA U [a, b] Δ M [.dat da, .dat db]) (k : E.nx ((Δ.set i (.dat da)).set j (.dat db)) M) (hij : i ≠ j := by decide) (hi : U.N[i]? = some x := by rfl) (hj : U.N[j]? = some y := by rfl)
    (hx : U.sc.names.lookup x = some .local := by rfl) (hy : U.sc.names.lookup y = some .local := by rfl) (hw : ∀ r, swappedStores [.Tuple [.Name x px, .Name y py] kt pt] (.Tuple [a, b] k2 pt2) (U.cx r).env = pure (some [x, y]) := by intro _; rfl) (hc : ∀ r, (U.cx r).calm = true := by intro _; rfl) :
    HT U (.Assign [.Tuple [.Name x px, .Name y py] kt pt] (.Tuple [a, b] k2 pt2) pos) Δ M E := fun G0 H0 Gs G σ H D st L =>
  ⟨_, fun r => ps_par (X := U.cx r) (hc r) hN hi hj hij hx hy pa_r (hw r), ha G0 H0 Gs G σ H st _ fun vs G' H' e1 hv => by
    cases hv with
    | cons h1 t =>
      cases t with
      | cons h2 t =>
        cases t
        obtain ⟨_, z1, h1⟩ := h1
        obtain ⟨_, z2, h2⟩ := h2
        cases z1
        cases z2
        exact ⟨_, _, rfl, L.nx _ _ G' _ H' k (((st.grow e1).dat i h1).dat j h2)⟩⟩
theorem ht_ret (he : EvD U e Δ M d) (k : E.rt d) : HT U (.Return (some e) pos) Δ M E := fun G0 H0 Gs G σ H D st L =>
  ⟨_, fun r => ps_ret pe_r, he G0 H0 Gs G σ H st _ fun v G' H' e1 h1 => L.rt d v G' H' k (st.ext.trans e1) h1⟩
theorem ht_if {k : Bool} {p q : List Stmt} (hc : EvT U c Δ M k) (h1 : k = true → HS U p Δ M E) (h2 : k = false → HS U q Δ M E) : HT U (.If c p q pos) Δ M E := fun G0 H0 Gs G σ H D st L =>
  ⟨_, fun r => ps_if pt_r pss_r pss_r, hc G0 H0 Gs G σ H st _ fun G' H' e1 => by
    cases k with
    | true =>
      show rSs U p D σ H'
      exact h1 rfl G0 H0 Gs G' σ H' D (st.grow e1) L
    | false =>
      show rSs U q D σ H'
      exact h2 rfl G0 H0 Gs G' σ H' D (st.grow e1) L⟩
theorem ht_while (W : Nat → List Sv → MS → Prop) (m0 : Nat) (h0 : W m0 Δ M)
    (hs : ∀ m Δ' M', W m Δ' M' → ∃ k, EvT U c Δ' M' k ∧ (k = true → HS U body Δ' M' ⟨fun Δ2 M2 => ∃ m', m' < m ∧ W m' Δ2 M2, E.rt, E.nx, fun Δ2 M2 => ∃ m', m' < m ∧ W m' Δ2 M2, fun _ => False⟩) ∧ (k = false → E.nx Δ' M')) : HT U (.While c body [] pos) Δ M E := fun G0 H0 Gs G σ H D st L =>
  ⟨_, fun r => ps_while PassesOwn.never pt_r pss_r, fun m σ' H' => ∃ Δ' M' G', W m Δ' M' ∧ Sta U.K G0 H0 Gs Δ' M' G' σ' H', ⟨m0, Δ, M, G, h0, st⟩, fun m σ' H' ⟨Δ', M', G', w, st'⟩ => by
    obtain ⟨k, hk, k1, k2⟩ := hs m Δ' M' w
    refine hk G0 H0 Gs G' σ' H' st' _ fun G2 H2 e2 => ?_
    cases k with
    | true =>
      refine iteT ⟨fun σ3 H3 => ∃ Δ3 M3 G3, (∃ m', m' < m ∧ W m' Δ3 M3) ∧ Sta U.K G0 H0 Gs Δ3 M3 G3 σ3 H3, fun σ3 H3 ⟨Δ3, M3, G3, ⟨m', l, w3⟩, st3⟩ => ⟨m', l, Δ3, M3, G3, w3, st3⟩, ?_⟩
      exact k1 rfl G0 H0 Gs G2 σ' H2 _ (st'.grow e2) ⟨fun Δ3 M3 G3 σ3 H3 q st3 => ⟨Δ3, M3, G3, q, st3⟩, L.rt, L.nx, fun Δ3 M3 G3 σ3 H3 q st3 => ⟨Δ3, M3, G3, q, st3⟩, fun _ _ _ h => h.elim⟩
    | false => exact iteF (L.nx _ _ G2 σ' H2 (k2 rfl) (st'.grow e2))⟩

/-! ### what a for walks -/
/-- from G on: at turn i the i-th of ds comes, the heap may grow -/
def JOk (J : It) (G : Hp) (ds : List PyData) : Prop := ∀ G1 H1, Ex G G1 → Ex G1 H1 → ∀ i : Nat, (∀ d, ds[i]? = some d → J.go i H1 ∧ ∀ x H2, J.yld i H1 x H2 → ∃ G2, Ext G1 H1 G2 H2 ∧ Dt G2 x d) ∧ (ds.length ≤ i → J.stop i H1)
def IterD (U : Vw) (tg it : Expr) (Δ : List Sv) (M : MS) (ds : List PyData) : Prop := ∀ G0 H0 Gs G σ H, Sta U.K G0 H0 Gs Δ M G σ H → ∀ R : It → Hp → Prop, (∀ J G' H', Ext G H G' H' → JOk J G' ds → R J H') → rI U tg it σ H R
theorem it_list (h : EvD U it Δ M (.list ds)) : IterD U tg it Δ M ds := fun G0 H0 Gs G σ H st R q =>
  ⟨iList U.K (rE U it), fun r => pi_list pe_r, h G0 H0 Gs G σ H st _ fun v G' H' e1 h1 => by
    obtain ⟨a, xs, rfl, g, t⟩ := h1.lst_eq
    refine ⟨a, rfl, ⟨xs, .of (e1.gh _ _ g)⟩, q _ G' H' e1 fun G1 H1 z1 z2 i => ⟨fun d hd => ?_, fun hl => ?_⟩⟩
    · obtain ⟨v, h3, h4⟩ := t.get hd
      refine ⟨⟨xs, v, .of (z2 _ _ (z1 _ _ g)), h3⟩, fun x H2 hy => ?_⟩
      obtain ⟨rfl, hy⟩ := hy
      have := hy xs (.of (z2 _ _ (z1 _ _ g)))
      rw [h3] at this
      cases this
      exact ⟨G1, .refl z2, h4.mono z1⟩
    · exact ⟨xs, .of (z2 _ _ (z1 _ _ g)), by rw [t.length]; exact hl⟩⟩
theorem it_tup (h : EvD U it Δ M (.tuple ds)) : IterD U tg it Δ M ds := fun G0 H0 Gs G σ H st R q =>
  ⟨iTup U.K (rE U it), fun r => pi_tup pe_r, h G0 H0 Gs G σ H st _ fun v G' H' e1 h1 => by
    obtain ⟨a, xs, rfl, g, t⟩ := h1.tup_eq
    refine ⟨a, rfl, ⟨xs, .of (e1.gh _ _ g)⟩, q _ G' H' e1 fun G1 H1 z1 z2 i => ⟨fun d hd => ?_, fun hl => ?_⟩⟩
    · obtain ⟨v, h3, h4⟩ := t.get hd
      refine ⟨⟨xs, v, .of (z2 _ _ (z1 _ _ g)), h3⟩, fun x H2 hy => ?_⟩
      obtain ⟨rfl, hy⟩ := hy
      have := hy xs (.of (z2 _ _ (z1 _ _ g)))
      rw [h3] at this
      cases this
      exact ⟨G1, .refl z2, h4.mono z1⟩
    · exact ⟨xs, .of (z2 _ _ (z1 _ _ g)), by rw [t.length]; exact hl⟩⟩
theorem Paired.at_ {α β : Type} {F : α → β → Prop} : ∀ {l₁ : List α} {l₂ : List β} {i : Nat} {y : β}, Paired F l₁ l₂ → l₂[i]? = some y → ∃ x, l₁[i]? = some x ∧ F x y
  | _, _, 0, _, .cons h _, e => ⟨_, rfl, by cases e; exact h⟩
  | _, _, i + 1, _, .cons _ t, e => Paired.at_ (i := i) t e
theorem FlatD.dt {G : Hp} {v : L2.V} {d : PyData} (h : FlatD v d) : Dt G v d := by
  cases h with
  | int i => exact .int i
  | str x => exact .str x
theorem it_wt (h : EvX U it Δ M (.wt ds)) : IterD U tg it Δ M ds := fun G0 H0 Gs G σ H st R q =>
  ⟨iTup U.K (rE U it), fun r => pi_tup pe_r, h G0 H0 Gs G σ H st _ fun v G' H' e1 h1 => by
    obtain ⟨a, xs, ev, g, t⟩ := h1
    cases ev
    have g' : ∀ {G1 H1}, Ex G' G1 → Ex G1 H1 → SqT U.K H1 a xs := fun z1 z2 => Evl.ex_t z2 (Evl.ex_t z1 g)
    refine ⟨a, rfl, ⟨xs, Evl.ex_t e1.gh g⟩, q _ G' H' e1 fun G1 H1 z1 z2 i => ⟨fun d hd => ?_, fun hl => ?_⟩⟩
    · obtain ⟨v, h3, h4⟩ := Paired.at_ t hd
      refine ⟨⟨xs, v, g' z1 z2, h3⟩, fun x H2 hy => ?_⟩
      obtain ⟨rfl, hy⟩ := hy
      have := hy xs (g' z1 z2)
      rw [h3] at this
      cases this
      exact ⟨G1, .refl z2, h4.dt⟩
    · exact ⟨xs, g' z1 z2, by rw [Paired.length t]; exact hl⟩⟩
theorem paired_one {K : PySem.W.Frag} {G : Hp} {vs : List L2.V} {d : PyData} (h : Paired (fun v s => SvOk K G (some (some v)) s) vs [.dat d]) : ∃ v, vs = [v] ∧ Dt G v d := by
  have := paired_dat (ds := [d]) h
  cases this with
  | cons a t => cases t; exact ⟨_, rfl, a⟩
theorem paired_two {K : PySem.W.Frag} {G : Hp} {vs : List L2.V} {d d' : PyData} (h : Paired (fun v s => SvOk K G (some (some v)) s) vs [.dat d, .dat d']) : ∃ v w, vs = [v, w] ∧ Dt G v d ∧ Dt G w d' := by
  have := paired_dat (ds := [d, d']) h
  cases this with
  | cons a t => cases t with | cons b t => cases t; exact ⟨_, _, rfl, a, b⟩
def intsD (lo : Int) (n : Nat) : List PyData := (List.range n).map fun (k : Nat) => PyData.int (lo + (k : Int))
theorem jok_range {G : Hp} (lo : Int) (n : Nat) : JOk (Itr lo n) G (intsD lo n) := fun G1 H1 z1 z2 i => ⟨fun d hd => by
  unfold intsD at hd
  rw [List.getElem?_map] at hd
  cases q : (List.range n)[i]? with
  | none => rw [q] at hd; cases hd
  | some k =>
    have hi : i < n := by
      have := (List.getElem?_eq_some_iff.mp q).1
      rwa [List.length_range] at this
    rw [List.getElem?_range hi] at q
    cases q
    rw [List.getElem?_range hi] at hd
    cases hd
    refine ⟨hi, fun x H2 hy => ?_⟩
    obtain ⟨rfl, rfl⟩ := hy
    exact ⟨G1, .refl z2, .int _⟩, fun hl => by
  unfold intsD at hl
  rw [List.length_map, List.length_range] at hl
  exact hl⟩
theorem intsD_zero (n : Nat) : intsD 0 n = (List.range n).map fun (k : Nat) => PyData.int (k : Int) := by
  unfold intsD
  congr 1
  funext k
  rw [Int.zero_add]
theorem it_range1' {n : Int} (ha : EvD U a Δ M (.int n)) (hn : -(2 ^ 62) ≤ n ∧ n < 2 ^ 62) (hm : U.mg "range" = none) {p : Pos} (hg : U.sc.names.lookup ("range" : Str) = some .globalImplicit := by rfl) (hs : ∀ r, starEach [a] (U.cx r).env = [(false, eval a (U.cx r).env)] := by intro _; rfl) : IterD U tg (.Call (.Name "range" p) [a] [] pos) Δ M (intsD 0 n.toNat) := fun G0 H0 Gs G σ H st R q =>
  ⟨_, fun r => pi_range1 (X := U.cx r) hg hm pa_r (hs r), ea_cons ha ea_nil (hs := fun r => by rw [hs r]; rfl) G0 H0 Gs G σ H st _ fun vs G' H' e1 h1 => by
    obtain ⟨v, rfl, h2⟩ := paired_one h1
    exact ⟨n, by rw [h2.int_eq], hn.1, hn.2, q _ G' H' e1 (jok_range 0 _)⟩⟩

theorem it_range1 {n : Nat} (ha : EvD U a Δ M (.int (n : Int))) (hn : n ≤ 1000000) (hm : U.mg "range" = none) {p : Pos} (hg : U.sc.names.lookup ("range" : Str) = some .globalImplicit := by rfl) (hs : ∀ r, starEach [a] (U.cx r).env = [(false, eval a (U.cx r).env)] := by intro _; rfl) : IterD U tg (.Call (.Name "range" p) [a] [] pos) Δ M ((List.range n).map fun (k : Nat) => PyData.int (k : Int)) := by
  have := it_range1' (tg := tg) (pos := pos) ha (by omega) hm (p := p) hg hs
  rw [Int.toNat_natCast, intsD_zero] at this
  exact this

/-- for tg in it: body -/
theorem ht_for {α : Type} {xs : List α} {g : α → PyData} (W : Nat → List Sv → MS → Prop) (hi : IterD U tg it Δ M (xs.map g)) (h0 : W 0 Δ M)
    (hs : ∀ (i : Nat) (y : α) Δ' M', xs[i]? = some y → W i Δ' M' → ∃ is Δ2, Tgt U tg is Δ' (g y) Δ2 ∧ HS U body Δ2 M' ⟨W (i + 1), E.rt, E.nx, W (i + 1), fun _ => False⟩) (hd : ∀ Δ' M', W xs.length Δ' M' → E.nx Δ' M')
    (hfs : ∀ r x, foldedSetIterable it (U.cx r).env x = pure x := by intro _ _; rfl) (hc : ∀ r, (U.cx r).calm = true := by intro _; rfl) : HT U (.For tg it body [] pos) Δ M E := fun G0 H0 Gs G σ H D st L =>
  ⟨_, fun r => ps_for PassesOwn.never (hc r) pi_r pg_r pss_r (hfs r), hi G0 H0 Gs G σ H st _ fun J G1 H1 e1 jok =>
    ⟨fun i m σ' H' => m = xs.length - i ∧ i ≤ xs.length ∧ ∃ Δ' M' G', W i Δ' M' ∧ Ex G1 G' ∧ Sta U.K G0 H0 Gs Δ' M' G' σ' H', ⟨_, rfl, Nat.zero_le _, Δ, M, G1, h0, .refl _, st.grow e1⟩, fun i m σ' H' ⟨em, hle, Δ', M', G', w, eg, st'⟩ => by
      obtain ⟨j1, j2⟩ := jok G' H' eg st'.ext.gh i
      by_cases hlt : i < xs.length
      · obtain ⟨y, hy'⟩ : ∃ y, xs[i]? = some y := ⟨xs[i], List.getElem?_eq_getElem hlt⟩
        obtain ⟨g1, g2⟩ := j1 (g y) (by rw [List.getElem?_map, hy']; rfl)
        obtain ⟨is, Δ2, ht, hb⟩ := hs i y Δ' M' hy' w
        refine .inr ⟨g1, fun σ3 H3 => ∃ Δ3 M3 G3, W (i + 1) Δ3 M3 ∧ Ex G1 G3 ∧ Sta U.K G0 H0 Gs Δ3 M3 G3 σ3 H3, fun σ3 H3 ⟨Δ3, M3, G3, w3, eg3, st3⟩ => ⟨_, by omega, rfl, hlt, Δ3, M3, G3, w3, eg3, st3⟩, fun x H2 hy => ?_⟩
        obtain ⟨G2, e2, hx⟩ := g2 x H2 hy
        have st2 := st'.grow e2
        refine ht G2 H2 σ' x e2.gh st2.sl hx _ fun σ2 sl2 _ => ?_
        have back : ∀ Δ3 M3 G3 σ3 H3, W (i + 1) Δ3 M3 → Sta U.K G0 H0 G2 Δ3 M3 G3 σ3 H3 → ∃ Δ3 M3 G3, W (i + 1) Δ3 M3 ∧ Ex G1 G3 ∧ Sta U.K G0 H0 Gs Δ3 M3 G3 σ3 H3 := fun Δ3 M3 G3 σ3 H3 q st3 =>
          ⟨Δ3, M3, G3, q, (eg.trans e2.gg).trans st3.kp, st3.since st2.kp⟩
        exact hb G0 H0 G2 G2 σ2 H2 _ ⟨st2.ext, sl2, st2.ms, .refl _⟩ ⟨back, L.rt, fun Δ3 M3 G3 σ3 H3 q st3 => L.nx _ _ _ _ _ q (st3.since st2.kp), back, fun _ _ _ h => h.elim⟩
      · have : i = xs.length := by omega
        subst this
        exact .inl ⟨j2 (by rw [List.length_map]; exact Nat.le_refl _), L.nx _ _ G' σ' H' (hd Δ' M' w) st'⟩⟩⟩

/-! ### comprehensions -/
def wipeS (Δ : List Sv) : List Nat → List Sv
  | [] => Δ
  | v :: vs => (wipeS Δ vs).set v .non
theorem Sl.wipes {K : PySem.W.Frag} {G : Hp} {σ : L2.St} {Δ : List Sv} (h : Sl K G σ Δ) : ∀ vs : List Nat, Sl K G (L2.wipe σ vs) (wipeS Δ vs)
  | [] => h
  | v :: vs => (Sl.wipes h vs).wipe v
theorem Sta.drop {K : PySem.W.Frag} {G0 H0 Gs : Hp} {Δ : List Sv} {M : MS} {q : Addr × MO} {G : Hp} {σ : L2.St} {H : Hp} (h : Sta K G0 H0 Gs Δ (q :: M) G σ H) : Sta K G0 H0 Gs Δ M G σ H :=
  ⟨h.ext, h.sl, ⟨(List.nodup_cons.mp h.ms.1).2, fun p hp => h.ms.2 p (List.mem_cons_of_mem _ hp)⟩, h.kp⟩
theorem lc_read {elt tg iter : Expr} {ifs : List Expr} {scope : Scope} {own : List Nat} {α : Type} {xs : List α} {g : α → PyData} (f : α → PyData) (p : α → Bool) (hi : IterD U tg iter Δ M (xs.map g)) (hl : xs.length < sizeLine)
    (hb : ∀ (i : Nat) (d : α), xs[i]? = some d → ∃ is Δ2, Tgt (U.blk scope) tg is (wipeS Δ own) (g d) Δ2 ∧ (∀ i ∈ is, i ∈ own) ∧ EvTs (U.blk scope) ifs Δ2 M (p d) ∧ (p d = true → EvD (U.blk scope) elt Δ2 M (f d)))
    {G0 H0 Gs G : Hp} {σ : L2.St} {H : Hp} (st : Sta U.K G0 H0 Gs Δ M G σ H) {Q : VK} (q : ∀ v G' H', Ext G H G' H' → Dt G' v (.list ((xs.filter p).map f)) → Q v H') :
    tLc (rI U tg iter) (rG (U.blk scope) tg) (rTs (U.blk scope) ifs) (rE (U.blk scope) elt) own σ H Q := by
  refine hi G0 H0 Gs G σ H st _ fun J G1 H1 e1 jok => fun D hD => ?_
  have st1 := st.grow e1
  have hDH : H D = none := none_of e1.hh hD
  have ext0 : Ext G H G1 (upd H1 D (.lst [])) := e1.trans (.newM e1.gh hD)
  refine ⟨fun i m H' => m = xs.length - i ∧ i ≤ xs.length ∧ ∃ G', Ex G1 G' ∧ Ext G H G' H' ∧ Sta U.K G0 H0 Gs Δ ((D, .lst (((xs.take i).filter p).map f)) :: M) G' σ H', ⟨_, rfl, Nat.zero_le _, G1, .refl _, ext0, st1.make hD ⟨[], upd_same, .nil⟩⟩, ?_⟩
  rintro i m H' ⟨em, hle, G', eg, ex, st'⟩
  obtain ⟨hD1, hD2, vs, hD3, hD4⟩ := st'.ms.2 _ List.mem_cons_self
  obtain ⟨j1, j2⟩ := jok G' H' eg ex.gh i
  by_cases hlt : i < xs.length
  · obtain ⟨d, hd'⟩ : ∃ d : α, xs[i]? = some d := ⟨xs[i], List.getElem?_eq_getElem hlt⟩
    obtain ⟨g1, g2⟩ := j1 (g d) (by rw [List.getElem?_map, hd']; rfl)
    obtain ⟨is, Δ2, ht, hsub, htest, helt⟩ := hb i d hd'
    have etake : xs.take (i + 1) = xs.take i ++ [d] := by rw [List.take_add_one, hd']; rfl
    refine .inr ⟨g1, fun H3 => ∃ G3, Ex G1 G3 ∧ Ext G H G3 H3 ∧ Sta U.K G0 H0 Gs Δ ((D, .lst (((xs.take (i + 1)).filter p).map f)) :: M) G3 σ H3, fun H3 ⟨G3, eg3, ex3, st3⟩ => ⟨_, by omega, rfl, hlt, G3, eg3, ex3, st3⟩, fun x H2 hy => ?_⟩
    obtain ⟨G2, e2, hx⟩ := g2 x H2 hy
    have st2 := st'.grow e2
    refine ht G2 H2 (wipe σ own) x e2.gh (st2.sl.wipes own) hx _ fun σ2 sl2 w2 => ?_
    refine ⟨by rw [w2 own hsub]; exact (by
      have : ∀ (ws : List Nat) (τ : L2.St), wipe (wipe τ own) own = wipe τ own := fun _ τ => by
        have aux : ∀ (l : List Nat) (τ : L2.St), (∀ i ∈ l, i ∈ own) → wipe (wipe τ l) own = wipe τ own := by
          intro l
          induction l with
          | nil => intro τ _; rfl
          | cons v vs ih =>
            intro τ hv
            show wipe ((wipe τ vs).set v none) own = wipe τ own
            rw [set_wipe (hv v List.mem_cons_self), ih τ fun i hi => hv i (List.mem_cons_of_mem _ hi)]
        exact aux own τ fun _ h => h
      exact this [] σ), ?_⟩
    have st2' : Sta U.K G0 H0 Gs Δ2 ((D, .lst (((xs.take i).filter p).map f)) :: M) G2 σ2 H2 := ⟨st2.ext, sl2, st2.ms, st2.kp⟩
    refine htest G0 H0 Gs G2 σ2 H2 st2'.drop _ fun G3 H3 e3 => ?_
    have st3 := st2'.grow e3
    have stD := (st2.grow e3)
    cases hp : p d with
    | true =>
      refine iteT (helt hp G0 H0 Gs G3 σ2 H3 st3.drop _ fun y G4 H4 e4 hy4 => ?_)
      have stD4 := stD.grow e4
      obtain ⟨k1, k2, vs4, k3, k4⟩ := stD4.ms.2 _ List.mem_cons_self
      refine ⟨vs4, k3, ?_, G4, (eg.trans e2.gg).trans (e3.gg.trans e4.gg), ?_, ?_⟩
      · rw [k4.length, List.length_map]
        have := List.length_filter_le p (xs.take i)
        rw [List.length_take] at this
        omega
      · exact ((ex.trans e2).trans (e3.trans e4)).mut hDH k2
      · have := stD4.change (j := 0) (p := D) (o := .lst (vs4 ++ [y])) (m' := .lst (((xs.take (i + 1)).filter p).map f)) rfl ⟨_, upd_same, by
          rw [etake, List.filter_append, List.map_append, List.filter_cons, if_pos hp]
          exact k4.append (.one hy4)⟩
        exact this
    | false =>
      refine iteF ⟨G3, (eg.trans e2.gg).trans e3.gg, (ex.trans e2).trans e3, ?_⟩
      have : ((xs.take (i + 1)).filter p).map f = ((xs.take i).filter p).map f := by
        rw [etake, List.filter_append, List.map_append, List.filter_cons, if_neg (by rw [hp]; decide)]
        simp
      rw [this]
      exact stD
  · have : i = xs.length := by omega
    subst this
    refine .inl ⟨j2 (by rw [List.length_map]; exact Nat.le_refl _), q _ (upd G' D (.lst vs)) H' (ex.know hDH hD3 hD2) (.lst upd_same ?_)⟩
    rw [List.take_length] at hD4
    exact hD4.mono (Evl.Ex.new hD2)
theorem ets_nil : EvTs U [] Δ M true := fun G0 H0 Gs G σ H st Q q => ⟨_, fun r => pts_nil, q G H (.refl st.ext.gh)⟩
theorem ets_one {k : Bool} (h : EvT U c Δ M k) : EvTs U [c] Δ M k := fun G0 H0 Gs G σ H st Q q => ⟨_, fun r => pts_one pt_r, h G0 H0 Gs G σ H st Q q⟩
theorem ev_lc {elt tg iter : Expr} {ifs : List Expr} {scope : Scope} (own : List (Str × Nat)) {α : Type} {xs : List α} {g : α → PyData} (f : α → PyData) (p : α → Bool) (hN : U.N.Nodup) (ok : blkC U.N U.sc scope own = true) (hi : IterD U tg iter Δ M (xs.map g)) (hl : xs.length < sizeLine)
    (hb : ∀ (i : Nat) (d : α), xs[i]? = some d → ∃ is Δ2, Tgt (U.blk scope) tg is (wipeS Δ (own.map (·.2))) (g d) Δ2 ∧ (∀ i ∈ is, i ∈ own.map (·.2)) ∧ EvTs (U.blk scope) ifs Δ2 M (p d) ∧ (p d = true → EvD (U.blk scope) elt Δ2 M (f d)))
    (hfs : ∀ r x, foldedSetIterable iter (U.cx r).env x = pure x := by intro _ _; rfl) (hc : ∀ r, (U.cx r).calm = true := by intro _; rfl) : EvD U (.ListComp elt [⟨tg, iter, ifs, 0⟩] scope pos) Δ M (.list ((xs.filter p).map f)) := fun G0 H0 Gs G σ H st Q q =>
  ⟨_, fun r => pe_lc (X := U.cx r) (own := own) (hc r) hN pi_r (blkOk_by ok) (fun s H C cl fp => pg_r (V := U.blk scope) (r := (U.cx r).blk s H scope (compEnvC scope cl C (U.cx r).env) fp)) (fun s H C cl fp => pts_r (V := U.blk scope) (r := (U.cx r).blk s H scope (compEnvC scope cl C (U.cx r).env) fp)) (fun s H C cl fp => pe_r (V := U.blk scope) (r := (U.cx r).blk s H scope (compEnvC scope cl C (U.cx r).env) fp)) (hfs r), lc_read f p hi hl hb st q⟩
theorem ht_setLc {elt tg iter : Expr} {ifs : List Expr} {scope : Scope} {y : Str} {py spos : Pos} (i : Nat) (own : List (Str × Nat)) {α : Type} {xs : List α} {g : α → PyData} (f : α → PyData) (p : α → Bool) (hN : U.N.Nodup) (ok : blkC U.N U.sc scope own = true) (hi : IterD U tg iter Δ M (xs.map g)) (hl : xs.length < sizeLine)
    (hb : ∀ (i : Nat) (d : α), xs[i]? = some d → ∃ is Δ2, Tgt (U.blk scope) tg is (wipeS Δ (own.map (·.2))) (g d) Δ2 ∧ (∀ i ∈ is, i ∈ own.map (·.2)) ∧ EvTs (U.blk scope) ifs Δ2 M (p d) ∧ (p d = true → EvD (U.blk scope) elt Δ2 M (f d)))
    (k : E.nx (Δ.set i (.dat (.list ((xs.filter p).map f)))) M) (hy : U.N[i]? = some y := by rfl) (hyl : U.sc.names.lookup y = some .local := by rfl) (hsw : ∀ r, swapsWith (.ListComp elt [⟨tg, iter, ifs, 0⟩] scope pos) (some (.Name y py)) spos.line (U.cx r).env = pure true := by exact fun r => sw_true rfl rfl rfl (by decide +kernel))
    (hfs : ∀ r x, foldedSetIterable iter (U.cx r).env x = pure x := by intro _ _; rfl) (hc : ∀ r, (U.cx r).calm = true := by intro _; rfl) : HT U (.Assign [.Name y py] (.ListComp elt [⟨tg, iter, ifs, 0⟩] scope pos) spos) Δ M E := fun G0 H0 Gs G σ H D st L =>
  ⟨_, fun r => ps_setLc (X := U.cx r) (own := own) (hc r) hN hy hyl (hsw r) pi_r (blkOk_by ok) (fun s H C cl fp => pg_r (V := U.blk scope) (r := (U.cx r).blk s H scope (compEnvC scope cl C (U.cx r).env) fp)) (fun s H C cl fp => pts_r (V := U.blk scope) (r := (U.cx r).blk s H scope (compEnvC scope cl C (U.cx r).env) fp)) (fun s H C cl fp => pe_r (V := U.blk scope) (r := (U.cx r).blk s H scope (compEnvC scope cl C (U.cx r).env) fp)) (hfs r), lc_read f p hi hl hb st fun v G' H' e1 h1 => L.nx _ _ G' _ H' k ((st.grow e1).dat i h1)⟩

/-! ### calls of defs of the text -/
def SpD (K : PySem.W.Frag) (P : List Sv → PyData → Prop) : Sp := fun vs H Q _ => ∃ G S d, Ex G H ∧ Paired (fun v s => SvOk K G (some (some v)) s) vs S ∧ P S d ∧ ∀ v G' H', Ext G H G' H' → Dt G' v d → Q v H'
/-- the def x can be called with k rooms: on slots S it gives data d where P S d -/
def CalK (P : Program) (w : World) (K : PySem.W.Frag) (mg : Str → Option Value) (base : Heap) (k : Nat) (x : Str) (ps : List Str) (R : List Sv → PyData → Prop) : Prop := ∃ f fd, FnOk P w K mg base CX0 k f fd ps (SpD K R) ∧ mg x = some (.ref f) ∧ PySem.W.keepIn K (.ref f) = true ∧ Binds K fd ps []
abbrev Cal (U : Vw) (k : Nat) (x : Str) (ps : List Str) (R : List Sv → PyData → Prop) : Prop := CalK U.prog U.w U.K U.mg U.base k x ps R
theorem CalK.mono {P : Program} {w : World} {K : PySem.W.Frag} {mg : Str → Option Value} {base : Heap} {j k : Nat} {x : Str} {ps : List Str} {R : List Sv → PyData → Prop} (C : CalK P w K mg base j x ps R) (h : j ≤ k) : CalK P w K mg base k x ps R :=
  let ⟨f, fd, a, b, c, d⟩ := C
  ⟨f, fd, a.mono h, b, c, d⟩
theorem ev_call {k : Nat} {ps : List Str} {P : List Sv → PyData → Prop} {S : List Sv} (C : Cal U k x ps P) (hr : Room k U.A) (ha : EvA U (a :: es) Δ M S) (h : P S d) (hg : U.sc.names.lookup x = some .globalImplicit := by rfl)
    (he : ∀ r, starEach (a :: es) (U.cx r).env = (false, eval a (U.cx r).env) :: starEach es (U.cx r).env := by intro _; rfl) (hpl : ∀ r, (backTo pos (starEach es (U.cx r).env)).any (·.1) = false := by intro _; rfl) (hd : (x == ("__debug__" : Str)) = false := by decide) : EvD U (.Call (.Name x p) (a :: es) [] pos) Δ M d := fun G0 H0 Gs G σ H st Q q => by
  obtain ⟨f, fd, F, hm, hk, hb⟩ := C
  exact ⟨tCall (SpD U.K P) [] E0 (rA U (a :: es)), fun r => pe_call (X := U.cx r) F hr hg hm hk hb .nil pass0 pa_r hd (he r) (hpl r), ha G0 H0 Gs G σ H st _ fun vs G1 H1 e1 hvs => ⟨G1, S, d, e1.gh, by rw [List.append_nil]; exact hvs, h, fun v G2 H2 e2 h2 => q v G2 H2 (e1.trans e2) h2⟩⟩
theorem ev_call0 {k : Nat} {ps : List Str} {P : List Sv → PyData → Prop} (C : Cal U k x ps P) (hr : Room k U.A) (h : P [] d) (hg : U.sc.names.lookup x = some .globalImplicit := by rfl) (hd : (x == ("__debug__" : Str)) = false := by decide) : EvD U (.Call (.Name x p) [] [] pos) Δ M d := fun G0 H0 Gs G σ H st Q q => by
  obtain ⟨f, fd, F, hm, hk, hb⟩ := C
  exact ⟨tCall (SpD U.K P) [] E0 tNil, fun r => pe_call0 (X := U.cx r) F hr hg hm hk hb .nil pass0 hd, ⟨G, [], d, st.ext.gh, .nil, h, fun v G2 H2 e2 h2 => q v G2 H2 e2 h2⟩⟩
end

/-! ### a def -/
section
variable {P : Program} {w : World} {K : PySem.W.Frag} {mg : Str → Option Value} {base : Heap}
theorem paired_len {α β : Type} {F : α → β → Prop} {l₁ : List α} {l₂ : List β} (h : Paired F l₁ l₂) : l₁.length = l₂.length := Paired.length h
theorem sl_start {K : PySem.W.Frag} {G : Hp} {N : List Str} {vs : List L2.V} {S : List Sv} (h : Paired (fun v s => SvOk K G (some (some v)) s) vs S) : Sl K G (L2.start N vs) (S ++ List.replicate (N.length - S.length) .non) := by
  have hl := Paired.length h
  unfold L2.start
  refine ⟨by rw [List.length_append, List.length_append, List.length_map, List.length_replicate, List.length_replicate, hl], fun i s hs => ?_⟩
  by_cases hi : i < S.length
  · rw [List.getElem?_append_left hi] at hs
    obtain ⟨v, hv, hx⟩ := Paired.at_ h hs
    rw [List.getElem?_append_left (by rw [List.length_map, hl]; exact hi), List.getElem?_map, hv]
    exact hx
  · rw [List.getElem?_append_right (by omega)] at hs
    have := List.mem_of_getElem? hs
    rw [List.mem_replicate] at this
    rw [this.2]
    trivial
theorem fn_ok {x qual : Str} {st : Stmt} {f : Addr} {fd : FuncData} {N ps : List Str} {k : Nat} {R : List Sv → PyData → Prop} (F : Fun K x qual st f fd) (S : FnScope N ps (defScope st)) (len : ∀ S d, R S d → S.length = ps.length)
    (body : ∀ A, Room k A → ∀ S d, R S d → HS (vwOf P w K mg base A N (defScope st)) (defBody st) (S ++ List.replicate (N.length - S.length) .non) [] ⟨fun _ _ => d = .none, fun d' => d' = d, fun _ _ => False, fun _ _ => False, fun _ => False⟩) : FnOk P w K mg base CX0 (k + 1) f fd ps (SpD K R) := by
  refine F.ok S (fun vs H Q E h => ?_) (fun cdv A outer s H vs Q E hr h => ?_)
  · obtain ⟨G, T, d, e, hv, hR, q⟩ := h
    rw [Paired.length hv]
    exact len T d hR
  · obtain ⟨G, T, d, e, hv, hR, q⟩ := h
    obtain ⟨t, pt, qt⟩ := body _ hr T d hR G H G G (L2.start N vs) H { nx := fun _ H' => Q .non H', rt := Q } ⟨.refl e, sl_start hv, ⟨List.nodup_nil, fun _ h => nomatch h⟩, .refl _⟩
      ⟨fun Δ M G' σ H' hd st' => q .non G' H' st'.ext (by rw [hd]; exact .non), fun d' v G' H' hd e' h' => q v G' H' e' (by rw [← hd]; exact h'), fun _ _ _ _ _ h => h.elim, fun _ _ _ _ _ h => h.elim, fun _ _ _ h => h.elim⟩
    exact ⟨t, pt (cxOf CX0 P w K mg base N qual (defScope st) f cdv A outer s H E), qt⟩
end
end Ck
end Ck2Part

/-! ## Ck4 -/
section Ck4Part
set_option Elab.async false
set_option linter.all false
set_option maxRecDepth 100000
set_option maxHeartbeats 4000000
/-! Things that are being made: lists, dicts. -/
namespace Ck
open PySem PySem.Spec PyProof.Rows L2
section
variable {U : Vw} {Δ : List Sv} {M : MS} {E : DE} {e a b c tg it : Expr} {es : List Expr} {d da db : PyData} {ds : List PyData} {x : Str} {pos p : Pos} {i j : Nat} {o : Addr} {m : MO}
theorem Sta.ref {K : PySem.W.Frag} {G0 H0 Gs : Hp} {Δ : List Sv} {M : MS} {G : Hp} {σ : L2.St} {H : Hp} (h : Sta K G0 H0 Gs Δ M G σ H) {j : Nat} {o : Addr} {m : MO} (hj : M[j]? = some (o, m)) : H0 o = none ∧ G o = none ∧ MOk G H o m := h.ms.2 _ (List.mem_of_getElem? hj)
/-- x = a new thing -/
theorem ht_make {m : MO} {e : Expr} {t : TE} (i : Nat) (hN : U.N.Nodup) (pe : ∀ r, PE (U.cx r) e t) (he : ∀ G0 H0 Gs G σ H, Sta U.K G0 H0 Gs Δ M G σ H → ∀ Q : VK, (∀ G' H' p ob, Ext G H G' H' → H' p = none → MOk G' (upd H' p ob) p m → Q (.ref p) (upd H' p ob)) → t σ H Q) (k : ∀ o, E.nx (Δ.set i (.ref o)) ((o, m) :: M)) {pos' : Pos} (hi : U.N[i]? = some x) (hx : Loc U.sc x)
    (hs : ∀ r, swapsWith e (some (.Name x pos')) pos.line (U.cx r).env = pure false) (hf : U.fn x = true ∨ U.sc.names.lookup x = some .local) : HT U (.Assign [.Name x pos'] e pos) Δ M E := fun G0 H0 Gs G σ H D st L =>
  ⟨_, fun r => ps_set (X := U.cx r) hN hi hx (pe r) (hs r) hf, he G0 H0 Gs G σ H st _ fun G' H' p ob e1 hp hm => L.nx _ _ G' _ _ (k p) (((st.grow e1).make hp hm).set i (s := .ref p) rfl)⟩
/-- x = [e, ..], to be changed -/
theorem ht_newL (i : Nat) (hN : U.N.Nodup) (ha : EvA U es Δ M (ds.map .dat)) (k : ∀ o, E.nx (Δ.set i (.ref o)) ((o, .lst ds) :: M)) (hl : ds.length ≤ 1000 := by exact Nat.le_of_ble_eq_true rfl) {pos' p1 : Pos} (hi : U.N[i]? = some x := by rfl) (hx : Loc U.sc x := by first | exact Or.inl rfl | exact Or.inr rfl)
    (hs : ∀ r, swapsWith (.List es p1) (some (.Name x pos')) pos.line (U.cx r).env = pure false := by intro _; rfl) (hf : U.fn x = true ∨ U.sc.names.lookup x = some .local := by first | exact .inl rfl | exact .inr rfl) : HT U (.Assign [.Name x pos'] (.List es p1) pos) Δ M E :=
  ht_make (m := .lst ds) i hN (fun r => pe_lst pa_r) (fun G0 H0 Gs G σ H st Q q => ha G0 H0 Gs G σ H st _ fun vs G' H' e1 hv => ⟨by rw [(paired_dat hv).length]; exact Nat.le_of_lt (small1000 hl), fun p hp => q G' H' p _ e1 hp ⟨vs, upd_same, paired_dat hv⟩⟩) k hi hx hs hf
/-- x = {}, its keys will be tuples -/
theorem ht_newT (i : Nat) (hN : U.N.Nodup) (k : ∀ o, E.nx (Δ.set i (.ref o)) ((o, .dT []) :: M)) {pos' p1 : Pos} (hi : U.N[i]? = some x := by rfl) (hx : Loc U.sc x := by first | exact Or.inl rfl | exact Or.inr rfl)
    (hs : ∀ r, swapsWith (.Dict [] [] p1) (some (.Name x pos')) pos.line (U.cx r).env = pure false := by intro _; rfl) (hf : U.fn x = true ∨ U.sc.names.lookup x = some .local := by first | exact .inl rfl | exact .inr rfl) : HT U (.Assign [.Name x pos'] (.Dict [] [] p1) pos) Δ M E :=
  ht_make (m := .dT []) i hN (fun r => pe_dnewT) (fun G0 H0 Gs G σ H st Q q => fun p hp => q G H p _ (.refl st.ext.gh) hp ⟨[], upd_same, .nil⟩) k hi hx hs hf
/-- x = {}, its keys will be ints and texts -/
theorem ht_newK (i : Nat) (hN : U.N.Nodup) (k : ∀ o, E.nx (Δ.set i (.ref o)) ((o, .dK []) :: M)) {pos' p1 : Pos} (hi : U.N[i]? = some x := by rfl) (hx : Loc U.sc x := by first | exact Or.inl rfl | exact Or.inr rfl)
    (hs : ∀ r, swapsWith (.Dict [] [] p1) (some (.Name x pos')) pos.line (U.cx r).env = pure false := by intro _; rfl) (hf : U.fn x = true ∨ U.sc.names.lookup x = some .local := by first | exact .inl rfl | exact .inr rfl) : HT U (.Assign [.Name x pos'] (.Dict [] [] p1) pos) Δ M E :=
  ht_make (m := .dK []) i hN (fun r => pe_dnewK) (fun G0 H0 Gs G σ H st Q q => fun p hp => q G H p _ (.refl st.ext.gh) hp ⟨[], upd_same, .nil⟩) k hi hx hs hf
/-- x.append(e) -/
theorem ht_app (j : Nat) (ho : EvX U a Δ M (.ref o)) (hj : M[j]? = some (o, .lst ds)) (he : EvD U e Δ M d) (hl : ds.length < 100000) (k : E.nx Δ (M.set j (o, .lst (ds ++ [d])))) {p1 p2 : Pos} 
    (hm1 : ∀ r, swapsWith (.Call (.Attribute a "append" p1) [e] [] p2) none pos.line (U.cx r).env = pure false := by intro _; rfl)
    (h1 : ∀ r : Cx, PE (U.cx r) (.Call (.Attribute a "append" p1) [e] [] p2) (tBM U.K "list" rAppend (rE U a) (tCons (rE U e) tNil)) := by exact fun r => pe_bm PySem.F.plainAttrs_list PySem.F.slot_list_append PySem.F.type_list_append mt_append pe_r (pa_cons pe_r pa_nil)) :
    HT U (.Expr (.Call (.Attribute a "append" p1) [e] [] p2) pos) Δ M E := fun G0 H0 Gs G σ H D st L =>
  ⟨_, fun r => ps_expr (h1 r) (hm1 r), ho G0 H0 Gs G σ H st _ fun v G1 H1 e1 hv => by
    cases hv
    obtain ⟨_, _, vs, q3, q4⟩ := (st.grow e1).ref hj
    refine ⟨.inl ⟨rfl, vs, .of q3⟩, he G0 H0 Gs G1 σ H1 (st.grow e1) _ fun w G2 H2 e2 hw => ?_⟩
    obtain ⟨_, _, vs2, q3, q4⟩ := ((st.grow e1).grow e2).ref hj
    refine ⟨o, vs2, w, rfl, rfl, q3, by rw [q4.length]; exact Evl.sz_lt hl, L.nx _ _ G2 _ _ k (((st.grow e1).grow e2).change hj ⟨_, upd_same, q4.append (.one hw)⟩)⟩⟩
/-- x.extend(e) -/
theorem ht_ext (j : Nat) (ho : EvX U a Δ M (.ref o)) (hj : M[j]? = some (o, .lst ds)) {es' : List PyData} (he : EvD U e Δ M (.list es')) (hl : ds.length + es'.length ≤ 100000) (k : E.nx Δ (M.set j (o, .lst (ds ++ es')))) {p1 p2 : Pos} 
    (hm1 : ∀ r, swapsWith (.Call (.Attribute a "extend" p1) [e] [] p2) none pos.line (U.cx r).env = pure false := by intro _; rfl)
    (h1 : ∀ r : Cx, PE (U.cx r) (.Call (.Attribute a "extend" p1) [e] [] p2) (tBM U.K "list" rExtend (rE U a) (tCons (rE U e) tNil)) := by exact fun r => pe_bm PySem.F.plainAttrs_list PySem.F.slot_list_extend PySem.F.type_list_extend mt_extend pe_r (pa_cons pe_r pa_nil)) :
    HT U (.Expr (.Call (.Attribute a "extend" p1) [e] [] p2) pos) Δ M E := fun G0 H0 Gs G σ H D st L =>
  ⟨_, fun r => ps_expr (h1 r) (hm1 r), ho G0 H0 Gs G σ H st _ fun v G1 H1 e1 hv => by
    cases hv
    obtain ⟨_, _, vs, q3, q4⟩ := (st.grow e1).ref hj
    refine ⟨.inl ⟨rfl, vs, .of q3⟩, he G0 H0 Gs G1 σ H1 (st.grow e1) _ fun w G2 H2 e2 hw => ?_⟩
    obtain ⟨_, _, vs2, q3, q4⟩ := ((st.grow e1).grow e2).ref hj
    obtain ⟨l, us, rfl, g, t⟩ := hw.lst_eq
    refine ⟨o, l, vs2, us, rfl, rfl, q3, e2.gh _ _ g, by rw [q4.length, t.length]; exact Evl.sz_of hl, L.nx _ _ G2 _ _ k (((st.grow e1).grow e2).change hj ⟨_, upd_same, q4.append t⟩)⟩⟩
/-- y = x.pop() -/
theorem ht_pop (i j : Nat) (hN : U.N.Nodup) (ho : EvX U a Δ M (.ref o)) (hj : M[j]? = some (o, .lst ds)) (hd : ds[ds.length - 1]? = some d) (k : E.nx (Δ.set i (.dat d)) (M.set j (o, .lst ds.dropLast))) {p1 p2 pos' : Pos} (hi : U.N[i]? = some x := by rfl) (hx : Loc U.sc x := by first | exact Or.inl rfl | exact Or.inr rfl)
    (hs : ∀ r, swapsWith (.Call (.Attribute a "pop" p1) [] [] p2) (some (.Name x pos')) pos.line (U.cx r).env = pure false := by intro _; rfl) (hf : U.fn x = true ∨ U.sc.names.lookup x = some .local := by first | exact .inl rfl | exact .inr rfl)
    (h1 : ∀ r : Cx, PE (U.cx r) (.Call (.Attribute a "pop" p1) [] [] p2) (tBM0 U.K "list" rPop (rE U a)) := by exact fun r => pe_bm0 PySem.F.plainAttrs_list PySem.F.slot_list_pop PySem.F.type_list_pop mt_pop pe_r) :
    HT U (.Assign [.Name x pos'] (.Call (.Attribute a "pop" p1) [] [] p2) pos) Δ M E := fun G0 H0 Gs G σ H D st L =>
  ⟨_, fun r => ps_set (X := U.cx r) hN hi hx (h1 r) (hs r) hf, ho G0 H0 Gs G σ H st _ fun v G1 H1 e1 hv => by
    cases hv
    obtain ⟨_, _, vs, q3, q4⟩ := (st.grow e1).ref hj
    obtain ⟨y, y1, y2⟩ := q4.get hd
    refine ⟨.inl ⟨rfl, vs, .of q3⟩, o, vs, y, rfl, rfl, q3, by rw [q4.length]; exact y1, L.nx _ _ G1 _ _ k ?_⟩
    have := ((st.grow e1).change (m' := .lst ds.dropLast) (o := .lst vs.dropLast) hj ⟨_, upd_same, q4.dropLast⟩).dat i y2
    exact this⟩
/-- x != [] -/
theorem et_neNil {k : Bool} (hu : U.A.units + 64 < cLine) (ho : EvX U a Δ M (.ref o)) (hj : M[j]? = some (o, .lst ds)) (ok : okL 7 ds = true) (h : k = true ↔ ds ≠ []) {p1 : Pos} : EvT U (.Compare a [.NotEq] [.List [] p1] pos) Δ M k := fun G0 H0 Gs G σ H st Q q =>
  ⟨tTest (tOp (rNeD U.K) (rE U a) (tLst tNil)), fun r => pt_cmpR (op_neD (X := U.cx r) hu) pe_r (pe_lst pa_nil) (nomark _), ho G0 H0 Gs G σ H st _ fun v G1 H1 e1 hv => by
    cases hv
    refine ⟨Nat.zero_le _, fun p hp => ?_⟩
    have e2 : Ext G1 H1 (upd G1 p (.lst [])) (upd H1 p (.lst [])) := .new e1.gh hp
    have st2 := (st.grow e1).grow e2
    obtain ⟨_, _, vs, q3, q4⟩ := st2.ref hj
    have o1 : okD 8 (.list ds) = true := by rw [okD]; exact ok
    have o2 : okD 8 (.list []) = true := rfl
    have e : (!PyData.eqv (.list ds) (.list [])) = k := by
      refine Bool.eq_iff_iff.mpr (Iff.trans ?_ h.symm)
      have := eqv_ok 8 _ _ o1 o2
      rw [PyData.list.injEq] at this
      refine Iff.trans ?_ (not_congr this)
      cases PyData.eqv (.list ds) (.list []) <;> simp
    refine ⟨.list ds, .list [], .lst (.of q3) (DtAll.dp (okL_lay 7 ds ok).1 (q4.mono st2.ext.gh)), .lst (.of upd_same) .nil, okD_shaped (by decide) o1, okD_shaped (by decide) o2, k, by rw [e], q _ _ (e1.trans e2)⟩⟩
/-- e not in d, its keys tuples -/
theorem et_ninT {ks : List Key} {kvs : List (List Key × PyData)} (hu : U.A.units + 1 < cLine) (he : EvD U e Δ M (.tuple (ks.map kD))) (ho : EvX U a Δ M (.ref o)) (hj : M[j]? = some (o, .dT kvs)) (hm : behindInMarks .NotIn a = false := by rfl) : EvT U (.Compare e [.NotIn] [a] pos) Δ M (!(valD kvs ks).isSome) := fun G0 H0 Gs G σ H st Q q =>
  ⟨_, fun r => pt_cmp (pc_dnotin (X := U.cx r) hu pe_r pe_r) hm, he G0 H0 Gs G σ H st _ fun w G1 H1 e1 hw => ho G0 H0 Gs G1 σ H1 (st.grow e1) _ fun v G2 H2 e2 hv => by
    cases hv
    obtain ⟨b, rfl, hb⟩ := (hw.mono e2.gg).keyTup
    obtain ⟨_, _, vs, q3, q4⟩ := ((st.grow e1).grow e2).ref hj
    exact ⟨o, _, rfl, DGet.t q3 (e2.gh _ _ hb), _, rfl, by rw [q4.isSome]; exact q _ _ (e1.trans e2)⟩⟩
/-- d[e] = v, its keys tuples -/
theorem ht_putT (j : Nat) {ks : List Key} {kvs : List (List Key × PyData)} (hu : U.A.units + 1 < cLine) (hv : EvD U b Δ M d) (ho : EvX U a Δ M (.ref o)) (hj : M[j]? = some (o, .dT kvs)) (he : EvD U e Δ M (.tuple (ks.map kD))) (hl : kvs.length < 100000) (k : E.nx Δ (M.set j (o, .dT (putD kvs ks d)))) {p1 : Pos} (hs : ∀ r, swapsWith b (some (.Subscript a e p1)) pos.line (U.cx r).env = pure false := by intro _; rfl) : HT U (.Assign [.Subscript a e p1] b pos) Δ M E := fun G0 H0 Gs G σ H D st L =>
  ⟨_, fun r => ps_dput (X := U.cx r) hu pe_r pe_r pe_r (hs r), hv G0 H0 Gs G σ H st _ fun w G1 H1 e1 hw => ho G0 H0 Gs G1 σ H1 (st.grow e1) _ fun v G2 H2 e2 hv' => he G0 H0 Gs G2 σ H2 ((st.grow e1).grow e2) _ fun y G3 H3 e3 hy => by
    cases hv'
    obtain ⟨b, rfl, hb⟩ := hy.keyTup
    have st3 := ((st.grow e1).grow e2).grow e3
    obtain ⟨_, _, vs, q3, q4⟩ := st3.ref hj
    exact ⟨o, _, rfl, DPut.t q3 (e3.gh _ _ hb) (by rw [q4.length]; exact Evl.sz_lt hl), L.nx _ _ G3 _ _ k (st3.change hj ⟨_, upd_same, q4.put ((hw.mono e2.gg).mono e3.gg)⟩)⟩⟩
/-- d[e], its keys tuples -/
theorem ev_getT {ks : List Key} {kvs : List (List Key × PyData)} (hu : U.A.units + 1 < cLine) (ho : EvX U a Δ M (.ref o)) (hj : M[j]? = some (o, .dT kvs)) (he : EvD U e Δ M (.tuple (ks.map kD))) (h : valD kvs ks = some d) (hs : NoSl e := by exact fun _ _ => rfl) : EvD U (.Subscript a e pos) Δ M d := fun G0 H0 Gs G σ H st Q q =>
  ⟨_, fun r => pe_dget (X := U.cx r) hu pe_r pe_r hs, ho G0 H0 Gs G σ H st _ fun v G1 H1 e1 hv => he G0 H0 Gs G1 σ H1 (st.grow e1) _ fun y G2 H2 e2 hy => by
    cases hv
    obtain ⟨b, rfl, hb⟩ := hy.keyTup
    have st2 := (st.grow e1).grow e2
    obtain ⟨_, _, vs, q3, q4⟩ := st2.ref hj
    obtain ⟨z, z1, z2⟩ := q4.some h
    exact ⟨o, z, rfl, by rw [← z1]; exact DGet.t q3 (e2.gh _ _ hb), q z G2 H2 (e1.trans e2) z2⟩⟩
/-- keys that are ints or texts -/
theorem ev_getK {ks : Key} {kvs : List (Key × PyData)} (hu : U.A.units + 1 < cLine) (ho : EvX U a Δ M (.ref o)) (hj : M[j]? = some (o, .dK kvs)) (he : EvD U e Δ M (kD ks)) (h : valD kvs ks = some d) (hs : NoSl e := by exact fun _ _ => rfl) : EvD U (.Subscript a e pos) Δ M d := fun G0 H0 Gs G σ H st Q q =>
  ⟨_, fun r => pe_dget (X := U.cx r) hu pe_r pe_r hs, ho G0 H0 Gs G σ H st _ fun v G1 H1 e1 hv => he G0 H0 Gs G1 σ H1 (st.grow e1) _ fun y G2 H2 e2 hy => by
    cases hv
    have st2 := (st.grow e1).grow e2
    obtain ⟨_, _, vs, q3, q4⟩ := st2.ref hj
    obtain ⟨z, z1, z2⟩ := q4.some h
    rw [hy.key]
    exact ⟨o, z, rfl, by rw [← z1]; exact DGet.k q3, q z G2 H2 (e1.trans e2) z2⟩⟩
theorem ht_putK (j : Nat) {ks : Key} {kvs : List (Key × PyData)} (hu : U.A.units + 1 < cLine) (hv : EvD U b Δ M d) (ho : EvX U a Δ M (.ref o)) (hj : M[j]? = some (o, .dK kvs)) (he : EvD U e Δ M (kD ks)) (hl : kvs.length < 100000) (k : E.nx Δ (M.set j (o, .dK (putD kvs ks d)))) {p1 : Pos} (hs : ∀ r, swapsWith b (some (.Subscript a e p1)) pos.line (U.cx r).env = pure false := by intro _; rfl) : HT U (.Assign [.Subscript a e p1] b pos) Δ M E := fun G0 H0 Gs G σ H D st L =>
  ⟨_, fun r => ps_dput (X := U.cx r) hu pe_r pe_r pe_r (hs r), hv G0 H0 Gs G σ H st _ fun w G1 H1 e1 hw => ho G0 H0 Gs G1 σ H1 (st.grow e1) _ fun v G2 H2 e2 hv' => he G0 H0 Gs G2 σ H2 ((st.grow e1).grow e2) _ fun y G3 H3 e3 hy => by
    cases hv'
    have st3 := ((st.grow e1).grow e2).grow e3
    obtain ⟨_, _, vs, q3, q4⟩ := st3.ref hj
    rw [hy.key]
    exact ⟨o, _, rfl, DPut.k q3 (by rw [q4.length]; exact Evl.sz_lt hl), L.nx _ _ G3 _ _ k (st3.change hj ⟨_, upd_same, q4.put ((hw.mono e2.gg).mono e3.gg)⟩)⟩⟩
/-- d.get(k, x) -/
theorem ev_get2K {ks : Key} {kvs : List (Key × PyData)} (hu : U.A.units + 1 < cLine) (ho : EvX U a Δ M (.ref o)) (hj : M[j]? = some (o, .dK kvs)) (he : EvD U e Δ M (kD ks)) (hb : EvD U b Δ M db) {p1 p2 : Pos} (m : ∀ r, M2 (U.cx r) a "get" p1 e b p2) : EvD U (.Call (.Attribute a "get" p1) [e, b] [] p2) Δ M ((valD kvs ks).getD db) := fun G0 H0 Gs G σ H st Q q =>
  ⟨_, fun r => pe_dget2 (X := U.cx r) hu pe_r pe_r pe_r (m r), ho G0 H0 Gs G σ H st _ fun v G1 H1 e1 hv => by
    cases hv
    obtain ⟨_, _, vs, q3, q4⟩ := (st.grow e1).ref hj
    refine ⟨o, rfl, .inl ⟨vs, .inl q3⟩, he G0 H0 Gs G1 σ H1 (st.grow e1) _ fun y G2 H2 e2 hy => hb G0 H0 Gs G2 σ H2 ((st.grow e1).grow e2) _ fun z G3 H3 e3 hz => ?_⟩
    have st3 := ((st.grow e1).grow e2).grow e3
    obtain ⟨_, _, vs, q3, q4⟩ := st3.ref hj
    rw [hy.key]
    refine ⟨_, DGet.k q3, ?_⟩
    have := q4.val ks
    cases h : valD kvs ks with
    | none =>
      rw [h] at this q
      rw [this]
      exact q z G3 H3 ((e1.trans e2).trans e3) hz
    | some d =>
      rw [h] at this q
      obtain ⟨u, u1, u2⟩ := this
      rw [u1]
      exact q u G3 H3 ((e1.trans e2).trans e3) u2⟩
/-- a list that was made is data from here on -/
theorem Sta.freeze {K : PySem.W.Frag} {G0 H0 Gs : Hp} {Δ : List Sv} {M : MS} {G : Hp} {σ : L2.St} {H : Hp} (h : Sta K G0 H0 Gs Δ M G σ H) {i j : Nat} {o : Addr} {ds : List PyData} (hi : Δ[i]? = some (.ref o)) (hj : M[j]? = some (o, .lst ds)) : ∃ G', Ex G G' ∧ Dt G' (.ref o) (.list ds) ∧ Sta K G0 H0 Gs (Δ.set i (.dat (.list ds))) (M.eraseIdx j) G' σ H := by
  obtain ⟨q1, q2, vs, q3, q4⟩ := h.ref hj
  have hd : Dt (upd G o (.lst vs)) (.ref o) (.list ds) := .lst upd_same (q4.mono (Evl.Ex.new q2))
  refine ⟨_, Evl.Ex.new q2, hd, h.ext.know q1 q3 q2, ?_, ⟨?_, fun p hp => ?_⟩, h.kp.trans (Evl.Ex.new q2)⟩
  · have sl := h.sl.mono (Evl.Ex.new (o := .lst vs) q2)
    have hs := sl.2 i _ hi
    have hs : σ[i]? = some (some (.ref o)) := hs
    have e : σ.set i (some (.ref o)) = σ := by
      refine List.ext_getElem? fun k => ?_
      by_cases hk : i = k
      · subst hk
        rw [List.getElem?_set_self (List.getElem?_eq_some_iff.mp hs).1, hs]
      · rw [List.getElem?_set_ne hk]
    rw [← e]
    exact sl.set i ⟨_, rfl, hd⟩
  · exact h.ms.1.sublist ((List.eraseIdx_sublist M j).map _)
  · obtain ⟨k, hk⟩ := List.mem_iff_getElem?.mp hp
    have hpM : p ∈ M := (List.eraseIdx_sublist M j).mem hp
    obtain ⟨p1, p2, p3⟩ := h.ms.2 p hpM
    have ne : p.1 ≠ o := by
      intro z
      have nd := h.ms.1
      rw [List.getElem?_eraseIdx] at hk
      split at hk
      · rename_i hlt
        have ek : (M.map (·.1))[k]? = some o := by rw [List.getElem?_map, hk, ← z]; rfl
        have ej : (M.map (·.1))[j]? = some o := by rw [List.getElem?_map, hj]; rfl
        have := nd_ix nd ek ej
        omega
      · rename_i hge
        have ek : (M.map (·.1))[k + 1]? = some o := by rw [List.getElem?_map, hk, ← z]; rfl
        have ej : (M.map (·.1))[j]? = some o := by rw [List.getElem?_map, hj]; rfl
        have := nd_ix nd ek ej
        omega
    exact ⟨p1, by rw [upd_ne ne]; exact p2, p3.ext (Evl.Ex.new q2) (.refl _)⟩
theorem hs_freeze {sts : List Stmt} (i j : Nat) (hi : Δ[i]? = some (.ref o)) (hj : M[j]? = some (o, .lst ds)) (h : HS U sts (Δ.set i (.dat (.list ds))) (M.eraseIdx j) E) : HS U sts Δ M E := fun G0 H0 Gs G σ H D st L => by
  obtain ⟨G', e, _, st'⟩ := st.freeze hi hj
  exact h G0 H0 Gs G' σ H D st' L
/-- return x, the list that was made -/
theorem ht_retM (i j : Nat) (hi : Δ[i]? = some (.ref o)) (hj : M[j]? = some (o, .lst ds)) (hN : U.N[i]? = some x) (hv : Vis U.sc x := by first | exact Or.inl rfl | exact Or.inr (Or.inl rfl) | exact Or.inr (Or.inr rfl)) (k : E.rt (.list ds)) (hd : (x == ("__debug__" : Str)) = false := by decide) (hcd : (x == ("__classdict__" : Str)) = false := by decide) : HT U (.Return (some (.Name x p)) pos) Δ M E := fun G0 H0 Gs G σ H D st L => by
  obtain ⟨G', e, hd', st'⟩ := st.freeze hi hj
  have hs := st.sl.2 i _ hi
  exact ⟨_, fun r => ps_ret (pe_var (X := U.cx r) (i := i) hN hv hd hcd), .ref o, hs, L.rt _ _ G' H k st'.ext hd'⟩
end
end Ck
end Ck4Part

/-! ## Ck5 -/
section Ck5Part
set_option Elab.async false
set_option linter.all false
set_option maxRecDepth 100000
set_option maxHeartbeats 4000000
/-! Rules that the layer lacks: sorted of data and of a dict with tuple keys, a display with one tuple key. -/
namespace Ck
open PySem PySem.Spec PyProof.Rows L2
open PySem.W (EachIs AllAlike Sortable dataLe alike)
section
variable {X : Cx} {pins : List (Addr × Obj)} {σ : L2.St} {H : Hp} {s : Shared}
def encK (ks : List Key) : PyData := .tuple (ks.map kD)
theorem reads_keys {h : Heap} : ∀ {ks : List Key} {us : List Value}, Vals (ks.map kV) us → ReadsAll h us (ks.map kD) []
  | [], _, r => by cases r; exact .nil
  | k :: ks, _, r => by
    rw [List.map_cons] at r
    cases r with
    | cons a t =>
      rw [List.map_cons]
      refine .cons (as := []) (bs := []) ?_ (reads_keys t)
      cases k with
      | inl i => obtain ⟨t, rfl⟩ := a; exact .int i t
      | inr x => obtain ⟨t, rfl⟩ := a; exact .str x t
theorem reads_key (I : Inv X pins σ H s) {b : Addr} {ks : List Key} (hb : H b = some (.tup (ks.map kV))) : Reads s.heap (.ref b) (encK ks) [] := by
  obtain ⟨_, its, r, o, h1, h2, n, h3⟩ := (show ObjOk X.prog X.w H s.heap b (.tup (ks.map kV)) from I.hok b _ hb)
  exact .tuple h1 h2 h3 (by simpa using reads_keys r)
theorem depth_keys : ∀ ks : List Key, PyData.depthAll (ks.map kD) = 0
  | [] => by simp [PyData.depthAll]
  | k :: ks => by
    rw [List.map_cons, PyData.depthAll, depth_keys ks]
    cases k <;> simp [kD, PyData.depth]
theorem depth_encK (ks : List Key) : (encK ks).depth = 1 := by
  unfold encK
  rw [PyData.depth, depth_keys]
theorem each_vals : ∀ {ys : List (List Key × Addr × Value)} {out : List Value}, EachIs (fun v x => v = Value.ref x.2.1) out ys → Vals (ys.map fun x => V.ref x.2.1) out
  | _, _, .nil => .nil
  | _, _, .cons h t => by
    subst h
    exact .cons rfl (each_vals t)
theorem KT.each {H : Hp} : ∀ {kvs : List (List Key × L2.V)} {xs : List (List Key × Addr × Value)}, KT H kvs xs → ∀ x ∈ xs, H x.2.1 = some (.tup (x.1.map kV))
  | _, _, .nil, _, h => nomatch h
  | _, _, .cons a t, x, h => by
    rcases List.mem_cons.mp h with e | h
    · subst e
      rw [← a.1]; exact a.2.1
    · exact KT.each t x h
theorem KT.keys {H : Hp} : ∀ {kvs : List (List Key × L2.V)} {xs : List (List Key × Addr × Value)}, KT H kvs xs → xs.map (·.1) = kvs.map (·.1)
  | _, _, .nil => rfl
  | _, _, .cons a t => by rw [List.map_cons, List.map_cons, KT.keys t, a.1]
def leK : List Key → List Key → Bool := dataLe false encK
/-- sorted(d), d's keys tuples -/
theorem call_sortedDT (hcalm : X.calm = true) (hu : X.A.units + 64 < cLine) : CallR X (.builtin "sorted") (fun xs H Q => ∃ (a : Addr) (kvs : List (List Key × L2.V)), xs = [.ref a] ∧ H a = some (.dT kvs) ∧ AllAlike (kvs.map fun kv => encK kv.1) ∧ Sortable (kvs.map fun kv => encK kv.1) ∧
    ∀ (ys : List (List Key × Addr)) p, ys.map (·.1) = (kvs.map (·.1)).mergeSort leK → (∀ y ∈ ys, H y.2 = some (.tup (y.1.map kV))) → H p = none → Q (.ref p) (upd H p (.lst (ys.map fun y => V.ref y.2)))) := by
  intro pins s σ H xs us Q I r q
  obtain ⟨a, kvs, ex, hd, hal, hso, q⟩ := q
  subst ex
  obtain ⟨u, eu, rx⟩ := vals1 r
  subst eu
  cases rx
  obtain ⟨z, lo, ys, rel, dd⟩ := dt_of I.hok hd
  obtain ⟨es, ep, raw, hsz, hes⟩ := dd.raw
  have hlen : kvs.length = ys.length := Paired.length rel
  have h16 : es.size ≤ sizeLine := by rw [hsz, ← hlen]; exact z
  refine Calls.call_function_entry PyProof.Rows.kind_sorted PyProof.Rows.plain_sorted PyProof.Rows.entry_sorted (PyProof.Rows.args_sorted1 _) ?_
  unfold Builtin.«sorted»
  refine wpAny_bind (m := checkCount "sorted" 1 1 _) (wpAny_pure ?_)
  refine wpAny_bind (PySem.W.kdu_collect (A := X.A.in1) (KdlSrc.rawDict (es := es) (ep := ep) lo) (I.ok.hd hcalm) raw h16 fun h' tk acc hk hacc => ?_)
  have hacl : acc.toList.length = ys.length := by rw [Array.length_toList, hacc.1, hsz]
  have I1 : Inv X pins σ H { s with heap := h', toks := tk } := I.kept hk
  -- the values are the keys' tuples
  have e : EachIs (fun (v : Value) (x : List Key × Addr × Value) => v = Value.ref x.2.1) acc.toList ys := by
    refine EachIs.of_zip hacl fun p hp => ?_
    obtain ⟨j, hj⟩ := List.mem_iff_getElem?.mp hp
    rw [List.getElem?_zip_eq_some] at hj
    obtain ⟨hi, e1⟩ := hacc.2 j p.1 (by rw [← Array.getElem?_toList]; exact hj.1)
    obtain ⟨y, y1, y2, _, _⟩ := hes j hi
    rw [y1] at hj
    rw [e1, y2]
    exact congrArg (fun z : List Key × Addr × Value => Value.ref z.2.1) (Option.some.inj hj.2)
  refine wpAny_bind (wpAny_newList ?_ (by rw [hacl, ← hlen]; exact z))
  have hoL : (h'.push (seqObj "list" acc.toList.toArray 0)).get? h'.objs.size = some (seqObj "list" acc.toList.toArray 0) := Heap.get?_push_size _ rfl
  show wpAny _ _ _ _ _ { s with heap := h'.push (seqObj "list" acc.toList.toArray 0), toks := tk }
  have er : EachIs (fun v (x : List Key × Addr × Value) => ∃ as, Reads (h'.push (seqObj "list" acc.toList.toArray 0)) v (encK x.1) as ∧ h'.objs.size ∉ as) acc.toList ys := by
    refine EachIs.of_zip hacl fun p hp => ?_
    have h1 := e.zip p hp
    have h2 : p.2 ∈ ys := (List.of_mem_zip hp).2
    refine ⟨[], ?_, by simp⟩
    rw [h1]
    exact PyProof.Rows.Reads.keeps (fun _ _ q => Heap.get?_push_of_some _ q) (reads_key I1 (KT.each rel p.2 h2))
  have ekeys : ys.map (fun x => encK x.1) = kvs.map fun kv => encK kv.1 := by
    have := congrArg (List.map encK) (KT.keys rel)
    rw [List.map_map, List.map_map] at this
    exact this
  refine wpAny_bind (wpAny_holding (PySem.W.list_sort_data (s := { s with heap := h'.push (seqObj "list" acc.toList.toArray 0), toks := tk }) (enc := fun x : List Key × Addr × Value => encK x.1) hoL e er (by rw [ekeys]; exact hal) (by rw [ekeys]; exact hso) (by rw [← hlen]; exact z) (fun b _ => by rw [depth_encK]; show X.A.in1.units + 1 + 1 < cLine; show X.A.units + 1 + 1 + 1 < cLine; omega) fun out hout hev => ?_))
  obtain ⟨e', he'⟩ := PyProof.Rows.sortedHeap_at (vs := acc.toList) (out := out.toArray) hoL
  have hmem : ∀ x ∈ ys.mergeSort (dataLe false fun x : List Key × Addr × Value => encK x.1), x ∈ ys := fun x hx => (List.mergeSort_perm ys _).mem_iff.mp hx
  refine wpAny_pure ⟨_, rfl, .ref h'.objs.size, _, I1.laid (t' := tk) (fun b u e => ?_) (Nat.le_refl _)
    (show ObjOk X.prog X.w _ _ _ (.lst (((ys.mergeSort (dataLe false fun x : List Key × Addr × Value => encK x.1)).map fun x => (x.1, x.2.1)).map fun y => V.ref y.2)) from ⟨?_, out, e', ?_, he'⟩), rfl, q _ _ ?_ ?_ (I1.hok.fresh (Nat.le_refl _))⟩
  · have hb : b < h'.objs.size := Heap.lt_size e
    show (sortedHeap (h'.push (seqObj "list" acc.toList.toArray 0)) h'.objs.size acc.toList out.toArray).get? b = some u
    rw [PyProof.Rows.sortedHeap_old (Nat.ne_of_lt hb) (by rw [size_push']; exact Nat.lt_succ_of_lt hb)]
    exact Heap.get?_push_of_some _ e
  · rw [List.length_map, List.length_map, List.length_mergeSort, ← hlen]
    exact z
  · rw [List.map_map]
    exact each_vals hev
  · rw [List.map_map, ← KT.keys rel]
    exact PySem.W.sort_maps (s := leK) (fun x : List Key × Addr × Value => x.1) fun _ _ _ _ => rfl
  · intro y hy
    obtain ⟨x, hx, rfl⟩ := List.mem_map.mp hy
    exact KT.each rel x (hmem x hx)
theorem pair_vals : ∀ {ys : List (L2.V × PyData)} {out : List Value}, EachIs (fun v (x : L2.V × PyData) => RelV x.1 v) out ys → Vals (ys.map (·.1)) out
  | _, _, .nil => .nil
  | _, _, .cons h t => .cons h (pair_vals t)
/-- sorted(xs), xs a list of data -/
theorem call_sortedL : CallR X (.builtin "sorted") (fun xs H Q => ∃ (a : Addr) (ps : List (L2.V × PyData)), xs = [.ref a] ∧ SqL X.K H a (ps.map (·.1)) ∧ (∀ p ∈ ps, Dp X.K H p.1 p.2) ∧ AllAlike (ps.map (·.2)) ∧ Sortable (ps.map (·.2)) ∧ (∀ p ∈ ps, X.A.units + 2 + p.2.depth < cLine) ∧
    ∀ p, H p = none → Q (.ref p) (upd H p (.lst ((ps.mergeSort (dataLe false (·.2))).map (·.1))))) := by
  intro pins s σ H xs us Q I r q
  obtain ⟨a, ps, ex, hS, hD, hal, hso, hdep, q⟩ := q
  subst ex
  obtain ⟨u, eu, rx⟩ := vals1 r
  subst eu
  cases rx
  obtain ⟨its, rv, hl, hz⟩ := I.list hS
  have hlen : its.length = ps.length := by have := rv.length; rw [List.length_map] at this; exact this.symm
  have e : EachIs (fun (v : Value) (x : L2.V × PyData) => RelV x.1 v) its ps := by
    refine EachIs.of_zip hlen fun p hp => ?_
    obtain ⟨j, hj⟩ := List.mem_iff_getElem?.mp hp
    rw [List.getElem?_zip_eq_some] at hj
    obtain ⟨u, u1, u2⟩ := rv.get (i := j) (x := p.2.1) (by rw [List.getElem?_map, hj.2]; rfl)
    rw [hj.1] at u1
    cases u1
    exact u2
  have er : EachIs (fun v (x : L2.V × PyData) => ∃ as, Reads s.heap v x.2 as) its ps := by
    refine EachIs.of_zip hlen fun p hp => ?_
    exact Dp.reads I p.2.2 p.2.1 p.1 (hD p.2 (List.of_mem_zip hp).2) (e.zip p hp)
  refine PySem.W.sorted_data hl.isList e er hal hso (by rw [List.length_map] at hz; exact hz) hdep fun out hout hev => ?_
  obtain ⟨e', he'⟩ := PyProof.Rows.sortedAll_at s.heap its out.toArray
  refine ⟨.ref (s.heap.objs.size + 1), _, I.laid (t' := s.toks) (fun b u e => PyProof.Rows.sortedAll_old e) (Nat.le_succ _)
    (show ObjOk X.prog X.w _ _ _ (.lst ((ps.mergeSort (dataLe false (·.2))).map (·.1))) from ⟨?_, out, e', pair_vals hev, he'⟩), rfl, q _ (I.hok.fresh (Nat.le_succ _))⟩
  rw [List.length_map, List.length_mergeSort]
  rw [List.length_map] at hz
  exact hz
/-- {k: v}, k a tuple -/
def tDisp1 (tk tv : TE) : TE := fun σ H Q => ∀ p, H p = none → tk σ (upd H p (.dT [])) fun x H1 => tv σ H1 fun y H2 => ∃ ks b, x = .ref b ∧ H2 b = some (.tup (ks.map kV)) ∧ H2 p = some (.dT []) ∧ Q (.ref p) (upd H2 p (.dT [(ks, y)]))
theorem pe_disp1 (hu : X.A.units + 1 < cLine) {k v : Expr} {pos : Pos} {tk tv : TE} (hk : PE X k tk) (hv : PE X v tv) : PE X (.Dict [some k] [v] pos) (tDisp1 tk tv) := by
  refine ⟨fun pins s σ H Q I q => ?_⟩
  have hn := I.hok.fresh (Nat.le_refl s.heap.objs.size)
  have I1 := I.laid (a := s.heap.objs.size) (o := .dT []) (h' := s.heap.push { cls := .type "dict", data := .dict #[] }) (t' := s.toks) (fun _ _ q => Heap.get?_push_of_some _ q) (Nat.le_refl _) (dt_empty s.heap I.big)
  have hshape : (evalEachOpt [some k] X.env).zip ((evalEach [v] X.env).map fun v => do let x ← v; standAt pos; pure x) = [(eval k X.env, (do let x ← eval v X.env; standAt pos; pure x : Sem Value))].map fun p => (some p.1, p.2) := by rfl
  rw [arm_eval_Dict, hshape]
  rw [dictDisplay_pairs _ (by simp) (by simp)]
  refine wpAny_bind (wpAny_standAt (wpAny_bind (wpAny_subDictH (knd := tupleKind (mixKind X.prog X.w)) (Q := fun d s' => wpAny (model X.prog X.w) X.A (pure (Value.ref d)) (EP X pins σ Q) X.xe s') (Nat.lt_trans (Nat.lt_succ_self _) hu) (by simp) ?_)))
  refine evalPairs_cons (thn (hk.run pins _ σ _ _ I1 (q _ hn)) fun u s1 ⟨x, H1, I1, rx, q1⟩ => ?_)
  refine wpAny_bind (thn (hv.run pins s1 σ H1 _ I1 q1) fun w2 s2 ⟨y, H2, I2, ry, q2⟩ => wpAny_bind (wpAny_standAt (wpAny_pure ?_)))
  refine evalPairs_nil ?_
  obtain ⟨ks, b, ex, hb, hp, q3⟩ := q2
  subst ex
  cases rx
  obtain ⟨z, hd, xs, rel, dd⟩ := dt_of I2.hok hp
  cases rel
  refine ⟨[(ks, b, w2)], ⟨rfl, rfl, key_of I2.hok hb, trivial⟩, dd, fun h' tk dd' hs => wpAny_pure ⟨.ref s.heap.objs.size, _, ?_, rfl, q3⟩⟩
  obtain ⟨qo, es, ep, hq, h2, h3, h4, _, h5⟩ := dd'
  refine d_write I2 (by rw [hp]; exact True.intro) hs ⟨qo, hq⟩ ⟨by show 1 ≤ sizeLine; decide, hd, [(ks, b, w2)], .cons ⟨rfl, ?_, ry⟩ .nil, qo, es, ep, hq, h2, h3, h4, h5⟩
  rw [upd_ne (ne_of hb hp (fun z => nomatch z))]
  exact hb
end
section
variable {U : Vw} {Δ : List Sv} {M : MS} {E : DE} {e a b c tg it : Expr} {es : List Expr} {d da db : PyData} {ds : List PyData} {x : Str} {pos p : Pos} {i j : Nat} {o : Addr} {m : MO}
theorem KDt.keys {κ : Type} {G : Hp} : ∀ {ks : List (κ × L2.V)} {kvs : List (κ × PyData)}, KDt G ks kvs → ks.map (·.1) = kvs.map (·.1)
  | _, _, .nil => rfl
  | _, _, .cons a t => by rw [List.map_cons, List.map_cons, KDt.keys t, a.1]
/-- x = {k: v}, k a tuple -/
theorem ht_newT1 (i : Nat) (hN : U.N.Nodup) (hu : U.A.units + 1 < cLine) {ks : List Key} (hk : EvD U a Δ M (.tuple (ks.map kD))) (hv : EvD U b Δ M d) (k : ∀ o, E.nx (Δ.set i (.ref o)) ((o, .dT [(ks, d)]) :: M)) {pos' p1 : Pos} (hi : U.N[i]? = some x := by rfl) (hx : Loc U.sc x := by first | exact Or.inl rfl | exact Or.inr rfl)
    (hs : ∀ r, swapsWith (.Dict [some a] [b] p1) (some (.Name x pos')) pos.line (U.cx r).env = pure false := by intro _; rfl) (hf : U.fn x = true ∨ U.sc.names.lookup x = some .local := by first | exact .inl rfl | exact .inr rfl) : HT U (.Assign [.Name x pos'] (.Dict [some a] [b] p1) pos) Δ M E := fun G0 H0 Gs G σ H D st L =>
  ⟨_, fun r => ps_set (X := U.cx r) hN hi hx (pe_disp1 hu pe_r pe_r) (hs r) hf, fun p hp => by
    have st0 := st.make (m := .dT []) (o := .dT []) hp ⟨[], upd_same, .nil⟩
    refine hk G0 H0 Gs G σ _ st0.drop _ fun v G1 H1 e1 h1 => hv G0 H0 Gs G1 σ H1 (st0.drop.grow e1) _ fun w G2 H2 e2 h2 => ?_
    obtain ⟨b, rfl, hb⟩ := (h1.mono e2.gg).keyTup
    have st2 := (st0.grow e1).grow e2
    obtain ⟨q1, q2, q3⟩ := st2.ms.2 _ List.mem_cons_self
    obtain ⟨vs, q3, q4⟩ := q3
    cases q4
    have st3 := st2.change (j := 0) (p := p) (m' := .dT [(ks, d)]) (o := .dT [(ks, w)]) rfl ⟨_, upd_same, .cons ⟨rfl, h2⟩ .nil⟩
    exact ⟨ks, b, rfl, e2.gh _ _ hb, q3, L.nx _ _ G2 _ _ (k p) (st3.set i (s := .ref p) rfl)⟩⟩
/-- sorted(d) -/
theorem ev_sortedT {kvs : List (List Key × PyData)} (hu : U.A.units + 64 < cLine) (ho : EvX U a Δ M (.ref o)) (hj : M[j]? = some (o, .dT kvs)) (hal : AllAlike (kvs.map fun kv => encK kv.1)) (hso : Sortable (kvs.map fun kv => encK kv.1)) (hm : U.mg "sorted" = none) (hg : U.sc.names.lookup ("sorted" : Str) = some .globalImplicit := by rfl) (hc : ∀ r, (U.cx r).calm = true := by intro _; rfl)
    (he : ∀ r, starEach [a] (U.cx r).env = (false, eval a (U.cx r).env) :: starEach [] (U.cx r).env := by intro _; rfl) : EvD U (.Call (.Name "sorted" p) [a] [] pos) Δ M (.list (((kvs.map (·.1)).mergeSort leK).map encK)) := fun G0 H0 Gs G σ H st Q q =>
  ⟨_, fun r => pe_callB (X := U.cx r) (call_sortedDT (hc r) hu) hg hm (by decide +kernel) (pa_cons pe_r pa_nil (he r)) (he := he r), ho G0 H0 Gs G σ H st _ fun v G1 H1 e1 hv => by
    cases hv
    obtain ⟨_, _, vs, q3, q4⟩ := (st.grow e1).ref hj
    have ek : vs.map (·.1) = kvs.map (·.1) := q4.keys
    have ek2 : vs.map (fun kv => encK kv.1) = kvs.map fun kv => encK kv.1 := by
      have := congrArg (List.map encK) ek
      rw [List.map_map, List.map_map] at this
      exact this
    refine ⟨o, vs, rfl, q3, by rw [ek2]; exact hal, by rw [ek2]; exact hso, fun ys p hys hmem hp => ?_⟩
    have e2 : Ext G1 H1 (tups G1 H1) H1 := .tups e1.gh
    refine q _ _ _ ((e1.trans e2).trans (.new e2.gh hp)) (.lst upd_same ?_)
    refine DtAll.mono (Ext.new e2.gh hp).gg ?_
    rw [← ek, ← hys, List.map_map]
    clear hys
    induction ys with
    | nil => exact .nil
    | cons y ys ih =>
      rw [List.map_cons, List.map_cons]
      refine .cons (.tup (tups_at e1.gh (hmem y List.mem_cons_self)) ?_) (ih fun z hz => hmem z (List.mem_cons_of_mem _ hz))
      show DtAll _ (y.1.map kV) (y.1.map kD)
      generalize y.1 = ks
      induction ks with
      | nil => exact .nil
      | cons k ks ih =>
        refine .cons ?_ ih
        cases k with
        | inl i => exact .int i
        | inr x => exact .str x⟩
/-- sorted(xs) of data -/
theorem ev_sortedL (hu : U.A.units + 64 < cLine) (ha : EvD U a Δ M (.list ds)) (hal : AllAlike ds) (hso : Sortable ds) (hdep : ∀ d ∈ ds, d.canLay0 = true ∧ d.depth ≤ 60) (hm : U.mg "sorted" = none) (hg : U.sc.names.lookup ("sorted" : Str) = some .globalImplicit := by rfl)
    (he : ∀ r, starEach [a] (U.cx r).env = (false, eval a (U.cx r).env) :: starEach [] (U.cx r).env := by intro _; rfl) : EvD U (.Call (.Name "sorted" p) [a] [] pos) Δ M (.list (ds.mergeSort (dataLe false id))) := fun G0 H0 Gs G σ H st Q q =>
  ⟨tCB (fun xs H Q => ∃ (a : Addr) (ps : List (L2.V × PyData)), xs = [.ref a] ∧ SqL U.K H a (ps.map (·.1)) ∧ (∀ p ∈ ps, Dp U.K H p.1 p.2) ∧ AllAlike (ps.map (·.2)) ∧ Sortable (ps.map (·.2)) ∧ (∀ p ∈ ps, U.A.units + 2 + p.2.depth < cLine) ∧
    ∀ p, H p = none → Q (.ref p) (upd H p (.lst ((ps.mergeSort (dataLe false (·.2))).map (·.1))))) (tCons (rE U a) tNil), fun r => pe_callB (X := U.cx r) call_sortedL hg hm (by decide +kernel) (pa_cons pe_r pa_nil (he r)) (he := he r), ha G0 H0 Gs G σ H st _ fun v G1 H1 e1 hv => by
    obtain ⟨l, us, rfl, g, t⟩ := hv.lst_eq
    have hl := t.length
    have e2 : (us.zip ds).map (·.2) = ds := List.map_snd_zip (by omega)
    have e1' : (us.zip ds).map (·.1) = us := List.map_fst_zip (by omega)
    have hD : ∀ p ∈ us.zip ds, Dt G1 p.1 p.2 := fun p hp => by
      obtain ⟨k, hk⟩ := List.mem_iff_getElem?.mp hp
      rw [List.getElem?_zip_eq_some] at hk
      obtain ⟨d, d1, d2⟩ := t.get' hk.1
      rw [hk.2] at d1
      cases d1
      exact d2
    refine ⟨l, us.zip ds, rfl, by rw [e1']; exact .of (e1.gh _ _ g), fun p hp => dp_whole e1.gh (hdep p.2 (List.of_mem_zip hp).2).1 (hD p hp), by rw [e2]; exact hal, by rw [e2]; exact hso, fun p hp => ?_, fun p hp => q _ _ _ (e1.trans (.new e1.gh hp)) (.lst upd_same ?_)⟩
    · have := (hdep p.2 (List.of_mem_zip hp).2).2
      omega
    · refine DtAll.mono (Ext.new e1.gh hp).gg ?_
      have es : ((us.zip ds).mergeSort (dataLe false (·.2))).map (·.2) = ds.mergeSort (dataLe false id) := by
        have := PySem.W.sort_maps (r := dataLe false (fun p : L2.V × PyData => p.2)) (s := dataLe false id) (fun p : L2.V × PyData => p.2) (l := us.zip ds) fun _ _ _ _ => rfl
        rw [this, e2]
      rw [← es]
      have hperm : ∀ p ∈ (us.zip ds).mergeSort (dataLe false (·.2)), Dt G1 p.1 p.2 := fun p hp => hD p ((List.mergeSort_perm _ _).mem_iff.mp hp)
      revert hperm
      generalize (us.zip ds).mergeSort (dataLe false (·.2)) = L
      intro hperm
      induction L with
      | nil => exact .nil
      | cons p L ih => exact .cons (hperm p List.mem_cons_self) (ih fun z hz => hperm z (List.mem_cons_of_mem _ hz))⟩
end
end Ck
end Ck5Part

/-! ## CkText -/
section CkTextPart
set_option Elab.async false
set_option linter.all false
set_option maxRecDepth 100000
set_option maxHeartbeats 4000000
/-! The text by places. -/
namespace Ck
open PySem PySem.Spec PyProof.Rows L2
def topS (i : Nat) : Stmt := PySem.Challenge.pw_carpetkin_k94_whole_bettered.main.body.getD i (.Pass ⟨0, 0, 0, 0⟩)
abbrev sTurnedPlace : Stmt := topS 3
@[reducible] def nTurnedPlace : List Str := ["way", "place", "a", "b", "c", "d"]
@[reducible] def pTurnedPlace : List Str := ["way", "place"]
theorem scTurnedPlace : FnScope nTurnedPlace pTurnedPlace (defScope sTurnedPlace) := ⟨rfl, rfl, rfl, by decide +kernel, rfl, by decide +kernel, by decide +kernel⟩
abbrev sLed : Stmt := topS 4
@[reducible] def nLed : List Str := ["n", "movement", "place", "r", "c"]
@[reducible] def pLed : List Str := ["n", "movement", "place"]
theorem scLed : FnScope nLed pLed (defScope sLed) := ⟨rfl, rfl, rfl, by decide +kernel, rfl, by decide +kernel, by decide +kernel⟩
abbrev sWayOf : Stmt := topS 5
@[reducible] def nWayOf : List Str := ["signs", "way"]
@[reducible] def pWayOf : List Str := ["signs"]
theorem scWayOf : FnScope nWayOf pWayOf (defScope sWayOf) := ⟨rfl, rfl, rfl, by decide +kernel, rfl, by decide +kernel, by decide +kernel⟩
abbrev sThen : Stmt := topS 6
@[reducible] def nThen : List Str := ["n", "one", "other", "a", "b", "c", "d", "e", "f", "g", "h", "way", "down", "right"]
@[reducible] def pThen : List Str := ["n", "one", "other"]
theorem scThen : FnScope nThen pThen (defScope sThen) := ⟨rfl, rfl, rfl, by decide +kernel, rfl, by decide +kernel, by decide +kernel⟩
abbrev sCircleFrom : Stmt := topS 8
@[reducible] def nCircleFrom : List Str := ["n", "movements", "place", "found", "waiting", "here", "movement", "there"]
@[reducible] def pCircleFrom : List Str := ["n", "movements", "place"]
theorem scCircleFrom : FnScope nCircleFrom pCircleFrom (defScope sCircleFrom) := ⟨rfl, rfl, rfl, by decide +kernel, rfl, by decide +kernel, by decide +kernel⟩
abbrev sCircles : Stmt := topS 9
@[reducible] def nCircles : List Str := ["n", "movements", "seen", "found", "r", "c", "circle", "place"]
@[reducible] def pCircles : List Str := ["n", "movements"]
theorem scCircles : FnScope nCircles pCircles (defScope sCircles) := ⟨rfl, rfl, rfl, by decide +kernel, rfl, by decide +kernel, by decide +kernel⟩
abbrev sMade : Stmt := topS 14
@[reducible] def nMade : List Str := ["n", "movements", "first", "found", "waiting", "one", "other", "more"]
@[reducible] def pMade : List Str := ["n", "movements"]
theorem scMade : FnScope nMade pMade (defScope sMade) := ⟨rfl, rfl, rfl, by decide +kernel, rfl, by decide +kernel, by decide +kernel⟩
abbrev sMostHad : Stmt := topS 16
@[reducible] def nMostHad : List Str := ["carpet", "places", "had", "r", "c", "many", "colour"]
@[reducible] def pMostHad : List Str := ["carpet", "places"]
theorem scMostHad : FnScope nMostHad pMostHad (defScope sMostHad) := ⟨rfl, rfl, rfl, by decide +kernel, rfl, by decide +kernel, by decide +kernel⟩
abbrev sWithColours : Stmt := topS 17
@[reducible] def nWithColours : List Str := ["side", "paper", "knots", "places", "colour", "many", "place", "c", "r"]
@[reducible] def pWithColours : List Str := ["side", "paper"]
theorem scWithColours : FnScope nWithColours pWithColours (defScope sWithColours) := ⟨rfl, rfl, rfl, by decide +kernel, rfl, by decide +kernel, by decide +kernel⟩
abbrev sByPaper : Stmt := topS 18
@[reducible] def nByPaper : List Str := ["carpet", "paper", "side", "found", "changed", "r", "c"]
@[reducible] def pByPaper : List Str := ["carpet", "paper"]
theorem scByPaper : FnScope nByPaper pByPaper (defScope sByPaper) := ⟨rfl, rfl, rfl, by decide +kernel, rfl, by decide +kernel, by decide +kernel⟩
abbrev sMended : Stmt := topS 19
@[reducible] def nMended : List Str := ["carpet", "wish", "paper", "places", "many", "colours"]
@[reducible] def pMended : List Str := ["carpet", "wish"]
theorem scMended : FnScope nMended pMended (defScope sMended) := ⟨rfl, rfl, rfl, by decide +kernel, rfl, by decide +kernel, by decide +kernel⟩
abbrev sLattices : Stmt := topS 24
@[reducible] def nLattices : List Str := ["side", "shoves", "place", "seen", "found", "one", "other", "few", "shove", "key"]
@[reducible] def pLattices : List Str := ["side"]
theorem scLattices : FnScope nLattices pLattices (defScope sLattices) := ⟨rfl, rfl, rfl, by decide +kernel, rfl, by decide +kernel, by decide +kernel⟩
abbrev sLifts : Stmt := topS 25
@[reducible] def nLifts : List Str := ["side", "head", "shoves", "found", "starts", "seen", "down", "right", "way", "more", "beside", "longer", "ahead"]
@[reducible] def pLifts : List Str := ["side", "head", "shoves"]
theorem scLifts : FnScope nLifts pLifts (defScope sLifts) := ⟨rfl, rfl, rfl, by decide +kernel, rfl, by decide +kernel, by decide +kernel⟩
abbrev sDivisor : Stmt := topS 26
@[reducible] def nDivisor : List Str := ["numbers", "found", "number", "one"]
@[reducible] def pDivisor : List Str := ["numbers"]
theorem scDivisor : FnScope nDivisor pDivisor (defScope sDivisor) := ⟨rfl, rfl, rfl, by decide +kernel, rfl, by decide +kernel, by decide +kernel⟩
abbrev sAllGroups : Stmt := topS 27
@[reducible] def nAllGroups : List Str := ["side", "found", "few", "shoves", "place", "head", "ahead"]
@[reducible] def pAllGroups : List Str := ["side"]
theorem scAllGroups : FnScope nAllGroups pAllGroups (defScope sAllGroups) := ⟨rfl, rfl, rfl, by decide +kernel, rfl, by decide +kernel, by decide +kernel⟩
abbrev sBettered : Stmt := topS 28
@[reducible] def nBettered : List Str := ["carpet", "most", "side", "best", "few", "ways", "places", "changed", "some", "bound", "size"]
@[reducible] def pBettered : List Str := ["carpet", "most"]
theorem scBettered : FnScope nBettered pBettered (defScope sBettered) := ⟨rfl, rfl, rfl, by decide +kernel, rfl, by decide +kernel, by decide +kernel⟩
abbrev sLCellAt : Stmt := topS 30
@[reducible] def nLCellAt : List Str := ["_law_script", "_law_k"]
@[reducible] def pLCellAt : List Str := ["_law_script", "_law_k"]
theorem scLCellAt : FnScope nLCellAt pLCellAt (defScope sLCellAt) := ⟨rfl, rfl, rfl, by decide +kernel, rfl, by decide +kernel, by decide +kernel⟩
abbrev sLWhole : Stmt := topS 31
@[reducible] def nLWhole : List Str := ["_law_found"]
@[reducible] def pLWhole : List Str := ["_law_found"]
theorem scLWhole : FnScope nLWhole pLWhole (defScope sLWhole) := ⟨rfl, rfl, rfl, by decide +kernel, rfl, by decide +kernel, by decide +kernel⟩
abbrev sLMixed : Stmt := topS 32
@[reducible] def nLMixed : List Str := ["_law_cell", "_law_k"]
@[reducible] def pLMixed : List Str := ["_law_cell", "_law_k"]
theorem scLMixed : FnScope nLMixed pLMixed (defScope sLMixed) := ⟨rfl, rfl, rfl, by decide +kernel, rfl, by decide +kernel, by decide +kernel⟩
abbrev sLLed : Stmt := topS 33
@[reducible] def nLLed : List Str := ["_law_n", "_law_movement_here", "_law_place", "_law_r", "_law_c", "_law_way", "_law_south", "_law_east"]
@[reducible] def pLLed : List Str := ["_law_n", "_law_movement_here", "_law_place"]
theorem scLLed : FnScope nLLed pLLed (defScope sLLed) := ⟨rfl, rfl, rfl, by decide +kernel, rfl, by decide +kernel, by decide +kernel⟩
abbrev sLMoved : Stmt := topS 34
@[reducible] def nLMoved : List Str := ["_law_carpet_here", "_law_movement_here", "_law_n", "_law_knots", "_law_r", "_law_c"]
@[reducible] def pLMoved : List Str := ["_law_carpet_here", "_law_movement_here"]
theorem scLMoved : FnScope nLMoved pLMoved (defScope sLMoved) := ⟨rfl, rfl, rfl, by decide +kernel, rfl, by decide +kernel, by decide +kernel⟩
abbrev sLAll : Stmt := topS 35
@[reducible] def nLAll : List Str := ["_law_n", "_law_found", "_law_way", "_law_south", "_law_east"]
@[reducible] def pLAll : List Str := ["_law_n"]
theorem scLAll : FnScope nLAll pLAll (defScope sLAll) := ⟨rfl, rfl, rfl, by decide +kernel, rfl, by decide +kernel, by decide +kernel⟩
abbrev sLMovement : Stmt := topS 36
@[reducible] def nLMovement : List Str := ["_law_n", "_law_cell"]
@[reducible] def pLMovement : List Str := ["_law_n", "_law_cell"]
theorem scLMovement : FnScope nLMovement pLMovement (defScope sLMovement) := ⟨rfl, rfl, rfl, by decide +kernel, rfl, by decide +kernel, by decide +kernel⟩
abbrev sLIsMovement : Stmt := topS 37
@[reducible] def nLIsMovement : List Str := ["_law_n", "_law_found"]
@[reducible] def pLIsMovement : List Str := ["_law_n", "_law_found"]
theorem scLIsMovement : FnScope nLIsMovement pLIsMovement (defScope sLIsMovement) := ⟨rfl, rfl, rfl, by decide +kernel, rfl, by decide +kernel, by decide +kernel⟩
abbrev sLLetters : Stmt := topS 38
@[reducible] def nLLetters : List Str := ["_law_seed", "_law_many", "_law_letters_here", "_law_k"]
@[reducible] def pLLetters : List Str := ["_law_seed", "_law_many"]
theorem scLLetters : FnScope nLLetters pLLetters (defScope sLLetters) := ⟨rfl, rfl, rfl, by decide +kernel, rfl, by decide +kernel, by decide +kernel⟩
abbrev sLCarpet : Stmt := topS 39
@[reducible] def nLCarpet : List Str := ["_law_cells", "_law_n", "_law_letters_here", "_law_seed", "_law_rows", "_law_r", "_law_row", "_law_c", "_law_at"]
@[reducible] def pLCarpet : List Str := ["_law_cells", "_law_n", "_law_letters_here", "_law_seed"]
theorem scLCarpet : FnScope nLCarpet pLCarpet (defScope sLCarpet) := ⟨rfl, rfl, rfl, by decide +kernel, rfl, by decide +kernel, by decide +kernel⟩
abbrev sLCircles : Stmt := topS 40
@[reducible] def nLCircles : List Str := ["_law_n", "_law_wish", "_law_met", "_law_found", "_law_k", "_law_first", "_law_spots", "_law_at", "_law_movement_here", "_law_goal"]
@[reducible] def pLCircles : List Str := ["_law_n", "_law_wish"]
theorem scLCircles : FnScope nLCircles pLCircles (defScope sLCircles) := ⟨rfl, rfl, rfl, by decide +kernel, rfl, by decide +kernel, by decide +kernel⟩
abbrev sLHad : Stmt := topS 41
@[reducible] def nLHad : List Str := ["_law_carpet_here", "_law_spots", "_law_had_here", "_law_r", "_law_c"]
@[reducible] def pLHad : List Str := ["_law_carpet_here", "_law_spots"]
theorem scLHad : FnScope nLHad pLHad (defScope sLHad) := ⟨rfl, rfl, rfl, by decide +kernel, rfl, by decide +kernel, by decide +kernel⟩
abbrev sLImage : Stmt := topS 42
@[reducible] def nLImage : List Str := ["_law_ways", "_law_found", "_law_spot", "_law_way"]
@[reducible] def pLImage : List Str := ["_law_ways"]
theorem scLImage : FnScope nLImage pLImage (defScope sLImage) := ⟨rfl, rfl, rfl, by decide +kernel, rfl, by decide +kernel, by decide +kernel⟩
abbrev sLTable : Stmt := topS 43
@[reducible] def nLTable : List Str := ["_law_ways", "_law_table_here", "_law_one", "_law_other", "_law_way"]
@[reducible] def pLTable : List Str := []
theorem scLTable : FnScope nLTable pLTable (defScope sLTable) := ⟨rfl, rfl, rfl, by decide +kernel, rfl, by decide +kernel, by decide +kernel⟩
abbrev sLSize : Stmt := topS 44
@[reducible] def nLSize : List Str := ["_law_n", "_law_wish", "_law_table_here", "_law_met", "_law_ahead", "_law_one", "_law_other", "_law_south", "_law_east", "_law_more"]
@[reducible] def pLSize : List Str := ["_law_n", "_law_wish", "_law_table_here"]
theorem scLSize : FnScope nLSize pLSize (defScope sLSize) := ⟨rfl, rfl, rfl, by decide +kernel, rfl, by decide +kernel, by decide +kernel⟩
abbrev sLPrice : Stmt := topS 45
@[reducible] def nLPrice : List Str := ["_law_carpet_here", "_law_wish", "_law_found", "_law_spots"]
@[reducible] def pLPrice : List Str := ["_law_carpet_here", "_law_wish"]
theorem scLPrice : FnScope nLPrice pLPrice (defScope sLPrice) := ⟨rfl, rfl, rfl, by decide +kernel, rfl, by decide +kernel, by decide +kernel⟩
abbrev sLToldWell : Stmt := topS 46
@[reducible] def nLToldWell : List Str := ["_law_found", "_law_carpet_here", "_law_most", "_law_table_here", "_law_n", "_law_one", "_law_now", "_law_spots", "_law_k"]
@[reducible] def pLToldWell : List Str := ["_law_found", "_law_carpet_here", "_law_most", "_law_table_here"]
theorem scLToldWell : FnScope nLToldWell pLToldWell (defScope sLToldWell) := ⟨rfl, rfl, rfl, by decide +kernel, rfl, by decide +kernel, by decide +kernel⟩
abbrev sLAgain : Stmt := topS 47
@[reducible] def nLAgain : List Str := ["_law_found", "_law_carpet_here", "_law_most", "_law_table_here", "_law_size_here", "_law_price_here", "_law_again_here"]
@[reducible] def pLAgain : List Str := ["_law_found", "_law_carpet_here", "_law_most", "_law_table_here"]
theorem scLAgain : FnScope nLAgain pLAgain (defScope sLAgain) := ⟨rfl, rfl, rfl, by decide +kernel, rfl, by decide +kernel, by decide +kernel⟩
abbrev sLaw : Stmt := topS 48
@[reducible] def nLaw : List Str := ["_law_script", "_law_seed", "_law_n", "_law_other", "_law_letters_here", "_law_cells", "_law_carpet_here", "_law_most", "_law_found", "_law_table_here", "_law_k", "_law_cell", "_law_wish", "_law_j", "_law_price_here", "_law_size_here"]
@[reducible] def pLaw : List Str := ["_law_script"]
theorem scLaw : FnScope nLaw pLaw (defScope sLaw) := ⟨rfl, rfl, rfl, by decide +kernel, rfl, by decide +kernel, by decide +kernel⟩
end Ck
end CkTextPart

/-! ## CkM -/
section CkMPart
/-! The mathematics of movements, in plain Lean. -/
set_option linter.all false
namespace CkM
inductive Way where
  | stay | turn | half | back | side | flip | cross | other
  deriving DecidableEq, Repr
namespace Way
def all : List Way := [stay, turn, half, back, side, flip, cross, other]
theorem mem_all (w : Way) : w ∈ all := by cases w <;> decide
def name : Way → String
  | stay => "stay" | turn => "turn" | half => "half" | back => "back" | side => "side" | flip => "flip" | cross => "cross" | other => "other"
/-- the signs a, b, c, d: (r, c) is led to (a r + b c, c r + d c) -/
def sa : Way → Int
  | stay => 1 | turn => 0 | half => -1 | back => 0 | side => 1 | flip => -1 | cross => 0 | other => 0
def sb : Way → Int
  | stay => 0 | turn => 1 | half => 0 | back => -1 | side => 0 | flip => 0 | cross => 1 | other => -1
def sc : Way → Int
  | stay => 0 | turn => -1 | half => 0 | back => 1 | side => 0 | flip => 0 | cross => 1 | other => -1
def sd : Way → Int
  | stay => 1 | turn => 0 | half => -1 | back => 0 | side => -1 | flip => 1 | cross => 0 | other => 0
/-- the one, then the other -/
def mul : Way → Way → Way
  | stay, stay => stay | stay, turn => turn | stay, half => half | stay, back => back | stay, side => side | stay, flip => flip | stay, cross => cross | stay, other => other
  | turn, stay => turn | turn, turn => half | turn, half => back | turn, back => stay | turn, side => cross | turn, flip => other | turn, cross => flip | turn, other => side
  | half, stay => half | half, turn => back | half, half => stay | half, back => turn | half, side => flip | half, flip => side | half, cross => other | half, other => cross
  | back, stay => back | back, turn => stay | back, half => turn | back, back => half | back, side => other | back, flip => cross | back, cross => side | back, other => flip
  | side, stay => side | side, turn => other | side, half => flip | side, back => cross | side, side => stay | side, flip => half | side, cross => back | side, other => turn
  | flip, stay => flip | flip, turn => cross | flip, half => side | flip, back => other | flip, side => half | flip, flip => stay | flip, cross => turn | flip, other => back
  | cross, stay => cross | cross, turn => side | cross, half => other | cross, back => flip | cross, side => turn | cross, flip => back | cross, cross => stay | cross, other => half
  | other, stay => other | other, turn => flip | other, half => cross | other, back => side | other, side => back | other, flip => turn | other, cross => half | other, other => stay
theorem mul_sa (x y : Way) : (mul x y).sa = y.sa * x.sa + y.sb * x.sc := by cases x <;> cases y <;> decide
theorem mul_sb (x y : Way) : (mul x y).sb = y.sa * x.sb + y.sb * x.sd := by cases x <;> cases y <;> decide
theorem mul_sc (x y : Way) : (mul x y).sc = y.sc * x.sa + y.sd * x.sc := by cases x <;> cases y <;> decide
theorem mul_sd (x y : Way) : (mul x y).sd = y.sc * x.sb + y.sd * x.sd := by cases x <;> cases y <;> decide
theorem signs_inj (x y : Way) (ha : x.sa = y.sa) (hb : x.sb = y.sb) (hc : x.sc = y.sc) (hd : x.sd = y.sd) : x = y := by
  cases x <;> cases y <;> first | rfl | (exfalso; revert ha hb hc hd; decide)
end Way
abbrev Pl := Int × Int
structure Mv where
  w : Way
  d : Int
  r : Int
  deriving DecidableEq, Repr
def turned (w : Way) (p : Pl) : Pl := (w.sa * p.1 + w.sb * p.2, w.sc * p.1 + w.sd * p.2)
def led (n : Int) (m : Mv) (p : Pl) : Pl := (((turned m.w p).1 + m.d) % n, ((turned m.w p).2 + m.r) % n)
def thn (n : Int) (x y : Mv) : Mv := ⟨x.w.mul y.w, (led n y (x.d, x.r)).1, (led n y (x.d, x.r)).2⟩
end CkM
end CkMPart

/-! ## Ck3 -/
section Ck3Part
set_option Elab.async false
set_option linter.all false
set_option maxRecDepth 100000
set_option maxHeartbeats 4000000
/-! Movements: turned_place, led, way_of, then. -/
namespace Ck
open PySem PySem.Spec PyProof.Rows L2 CkM

section
variable {U : Vw} {Δ : List Sv} {M : MS} {E : DE} {e a b c tg it : Expr} {es tgs : List Expr} {d da db : PyData} {ds : List PyData} {x : Str} {pos p : Pos} {i : Nat} {is : List Nat}
theorem ev_v {i : Nat} (hN : U.N[i]? = some x) (h : Δ[i]? = some (.dat d)) (hv : Vis U.sc x := by first | exact Or.inl rfl | exact Or.inr (Or.inl rfl) | exact Or.inr (Or.inr rfl)) (hd : (x == ("__debug__" : Str)) = false := by decide) (hcd : (x == ("__classdict__" : Str)) = false := by decide) : EvD U (.Name x pos) Δ M d := ev_var i h hN hv hd hcd
/-- a written tuple -/
def WrT (K : PySem.W.Frag) (a : Addr) (xs : List L2.V) : Prop := ∃ (o : Obj) (its : Array Value) (n : Nat), K.lookup a = some o ∧ o.cls = .type "tuple" ∧ o.data = .seq its n ∧ its.size ≤ sizeLine ∧ Vals xs its.toList
theorem WrT.sq {K : PySem.W.Frag} {a : Addr} {xs : List L2.V} (h : WrT K a xs) (G : Hp) : SqT K G a xs := .inr h
/-- what the top has written -/
structure Glob (K : PySem.W.Frag) (w : World) (mg : Str → Option Value) : Prop where
  signs : ∃ aS : Addr, mg "SIGNS" = some (.ref aS) ∧ ∀ x : Way, ∃ a : Addr, KDct K w aS (Str.ofString x.name) (.ref a) ∧ WrT K a [.int x.sa, .int x.sb, .int x.sc, .int x.sd]
  ways : ∃ a : Addr, mg "WAYS" = some (.ref a) ∧ WrT K a (Way.all.map fun x => L2.V.str (Str.ofString x.name))
def wS (x : Way) : PyData := .str (Str.ofString x.name)
def plD (p : Pl) : PyData := .tuple [.int p.1, .int p.2]
def mvD (m : Mv) : PyData := .tuple [wS m.w, .int m.d, .int m.r]

theorem slot0 {α : Type} {x : α} {r : List α} : (x :: r)[0]? = some x := rfl
theorem slot1 {α : Type} {a x : α} {r : List α} : (a :: x :: r)[1]? = some x := rfl
theorem slot2 {α : Type} {a b x : α} {r : List α} : (a :: b :: x :: r)[2]? = some x := rfl
theorem slot3 {α : Type} {a b c x : α} {r : List α} : (a :: b :: c :: x :: r)[3]? = some x := rfl
theorem slot4 {α : Type} {a b c d x : α} {r : List α} : (a :: b :: c :: d :: x :: r)[4]? = some x := rfl
theorem slot5 {α : Type} {a b c d e x : α} {r : List α} : (a :: b :: c :: d :: e :: x :: r)[5]? = some x := rfl
theorem slot6 {α : Type} {a b c d e f x : α} {r : List α} : (a :: b :: c :: d :: e :: f :: x :: r)[6]? = some x := rfl
theorem slot7 {α : Type} {a b c d e f g x : α} {r : List α} : (a :: b :: c :: d :: e :: f :: g :: x :: r)[7]? = some x := rfl
theorem slot8 {α : Type} {a b c d e f g h x : α} {r : List α} : (a :: b :: c :: d :: e :: f :: g :: h :: x :: r)[8]? = some x := rfl
theorem slot9 {α : Type} {a b c d e f g h i x : α} {r : List α} : (a :: b :: c :: d :: e :: f :: g :: h :: i :: x :: r)[9]? = some x := rfl
theorem slot10 {α : Type} {a b c d e f g h i j x : α} {r : List α} : (a :: b :: c :: d :: e :: f :: g :: h :: i :: j :: x :: r)[10]? = some x := rfl
theorem slot11 {α : Type} {a b c d e f g h i j k x : α} {r : List α} : (a :: b :: c :: d :: e :: f :: g :: h :: i :: j :: k :: x :: r)[11]? = some x := rfl
theorem slot12 {α : Type} {a b c d e f g h i j k l x : α} {r : List α} : (a :: b :: c :: d :: e :: f :: g :: h :: i :: j :: k :: l :: x :: r)[12]? = some x := rfl
theorem slot13 {α : Type} {a b c d e f g h i j k l m x : α} {r : List α} : (a :: b :: c :: d :: e :: f :: g :: h :: i :: j :: k :: l :: m :: x :: r)[13]? = some x := rfl
theorem slot14 {α : Type} {a b c d e f g h i j k l m n x : α} {r : List α} : (a :: b :: c :: d :: e :: f :: g :: h :: i :: j :: k :: l :: m :: n :: x :: r)[14]? = some x := rfl
theorem slot15 {α : Type} {a b c d e f g h i j k l m n o x : α} {r : List α} : (a :: b :: c :: d :: e :: f :: g :: h :: i :: j :: k :: l :: m :: n :: o :: x :: r)[15]? = some x := rfl
theorem eas_nil : EvA U [] Δ M (([] : List PyData).map .dat) := ea_nil
theorem eas_cons {ds : List PyData} (h : EvD U e Δ M d) (h2 : EvA U es Δ M (ds.map .dat)) (hs : ∀ r, starEach (e :: es) (U.cx r).env = (false, eval e (U.cx r).env) :: starEach es (U.cx r).env) : EvA U (e :: es) Δ M ((d :: ds).map .dat) := ea_cons h h2 hs
theorem small_len {n : Nat} (h : n ≤ 1000) : n ≤ sizeLine := Nat.le_of_lt (small1000 h)
theorem cmul_l {i j : Int} (h : -(2 ^ 64) < i ∧ i < 2 ^ 64) : CMul i j := .inl h
theorem cmul_r {i j : Int} (h : -(2 ^ 64) < j ∧ j < 2 ^ 64) : CMul i j := .inr h
end
local macro_rules | `(tactic| walk_at "br") => `(tactic| first | exact br_add | exact br_sub | exact br_mul (by first | exact cmul_l (by omega) | exact cmul_r (by omega)) | exact br_mod (by omega) | exact br_fdiv ⟨by omega, by omega⟩)
local macro_rules | `(tactic| walk_at "ix") => `(tactic| first | exact IxD.tup rfl | exact IxD.lst rfl)
local macro_rules | `(tactic| walk_at "len") => `(tactic| exact small_len (Nat.le_of_ble_eq_true rfl))

section
variable {P : Program} {w : World} {K : PySem.W.Frag} {mg : Str → Option Value} {base : Heap}
def RTurned (S : List Sv) (d : PyData) : Prop := ∃ (x : Way) (p : Pl), S = [.dat (wS x), .dat (plD p)] ∧ d = plD (turned x p)
theorem sbd (x : Way) : (-2 < x.sa ∧ x.sa < 2) ∧ (-2 < x.sb ∧ x.sb < 2) ∧ (-2 < x.sc ∧ x.sc < 2) ∧ (-2 < x.sd ∧ x.sd < 2) := by cases x <;> decide
/-- SIGNS[way] -/
theorem ex_signs {U : Vw} {Δ : List Sv} {M : MS} {e : Expr} {pos p : Pos} (Gl' : Glob U.K U.w U.mg) {x : Way} (h : EvD U e Δ M (wS x)) (hg : U.sc.names.lookup ("SIGNS" : Str) = some .globalImplicit := by rfl) (hs : PlainIx e := by exact fun _ _ => rfl) :
    EvX U (.Subscript (.Name "SIGNS" p) e pos) Δ M (.wt [.int x.sa, .int x.sb, .int x.sc, .int x.sd]) := fun G0 H0 Gs G σ H st Q q => by
  obtain ⟨aS, h1, h2⟩ := Gl'.signs
  obtain ⟨a, k1, k2⟩ := h2 x
  exact ⟨tOp (rIxD U.K U.w) (tC (.ref aS)) (rE U e), fun r => pe_ix (X := U.cx r) ix_kdict (pe_glob hg h1 rfl) pe_r hs, h G0 H0 Gs G σ H st _ fun v G1 H1 e1 hv =>
    ⟨aS, _, .ref a, rfl, hv.str_eq, k1, q _ G1 H1 e1 ⟨a, _, rfl, k2.sq G1, .cons (.int _) (.cons (.int _) (.cons (.int _) (.cons (.int _) .nil)))⟩⟩⟩
theorem flat_all {G : Hp} : ∀ {vs : List L2.V} {ds : List PyData}, Paired FlatD vs ds → DtAll G vs ds
  | _, _, .nil => .nil
  | _, _, .cons h t => .cons h.dt (flat_all t)
/-- a, b, .. = a written tuple -/
theorem ht_asgW {U : Vw} {Δ Δ' : List Sv} {M : MS} {E : DE} {e : Expr} {tgs : List Expr} {ds : List PyData} {pos pos' : Pos} {k : Nat} {is : List Nat} (he : EvX U e Δ M (.wt ds)) (hg : Tgts U tgs is Δ ds Δ') (k' : E.nx Δ' M) (hs : ∀ r, swapsWithSole [.Tuple tgs k pos'] e pos.line (U.cx r).env = pure false := by intro _; rfl) (hw : ∀ r, swappedStores [.Tuple tgs k pos'] e (U.cx r).env = pure none := by intro _; rfl) (h1' : ∀ r, (assignEach [.Tuple tgs k pos'] (U.cx r).env).map (·.2) = [assign (.Tuple tgs k pos') (U.cx r).env] := by intro _; rfl)
    (hc : ∀ r, (U.cx r).calm = true := by intro _; rfl) (hn : ∀ r, (assignEach tgs (U.cx r).env).length = ds.length := by intro _; rfl) (hst : ∀ r, (assignEach tgs (U.cx r).env).findIdx? (·.1) = none := by intro _; rfl) : HT U (.Assign [.Tuple tgs k pos'] e pos) Δ M E := fun G0 H0 Gs G σ H D st L =>
  ⟨tAsg (rE U e) (gTup U.K ds.length (rGs U tgs)), fun r => ps_asg pe_r (pg_tup (hc r) pgs_r (hn := hn r) (hst := hst r)) (hs r) (hw r) (h1' r), he G0 H0 Gs G σ H st _ fun v G' H' e1 h1 => by
    obtain ⟨a, vs, ev, hq, hf⟩ := h1
    cases ev
    exact ⟨a, vs, rfl, Evl.ex_t e1.gh hq, Paired.length hf, hg G' H' σ vs e1.gh (st.grow e1).sl (flat_all hf) _ fun σ' s' _ => L.nx _ _ G' σ' H' k' ⟨(st.grow e1).ext, s', (st.grow e1).ms, (st.grow e1).kp⟩⟩⟩


theorem ok_turned {f : Addr} {fd : FuncData} {k : Nat} (F : Fun K "turned_place" "turned_place" sTurnedPlace f fd) (G : Glob K w mg) : FnOk P w K mg base CX0 (k + 1) f fd pTurnedPlace (SpD K RTurned) := by
  refine fn_ok F scTurnedPlace (fun S d h => ?_) fun A hr S d h => ?_
  · obtain ⟨x, p, rfl, _⟩ := h
    rfl
  · obtain ⟨x, p, rfl, rfl⟩ := h
    have nd := scTurnedPlace.nd
    have bd := sbd x
    refine hs_cons (ht_asgW (ex_signs G (ev_v slot0 rfl)) (tgs_cons (tg_name 2 nd) (tgs_cons (tg_name 3 nd) (tgs_cons (tg_name 4 nd) (tgs_cons (tg_name 5 nd) tgs_nil)))) ?_)
    refine hs_cons (ht_ret (ev_tup (eas_cons (ev_bin (ev_bin (ev_v slot2 rfl) (ev_ix (ev_v slot1 rfl) ev_int (by walk_at "ix")) (by walk_at "br")) (ev_bin (ev_v slot3 rfl) (ev_ix (ev_v slot1 rfl) ev_int (by walk_at "ix")) (by walk_at "br")) (by walk_at "br")) (eas_cons (ev_bin (ev_bin (ev_v slot4 rfl) (ev_ix (ev_v slot1 rfl) ev_int (by walk_at "ix")) (by walk_at "br")) (ev_bin (ev_v slot5 rfl) (ev_ix (ev_v slot1 rfl) ev_int (by walk_at "ix")) (by walk_at "br")) (by walk_at "br")) eas_nil (by intro _; rfl)) (by intro _; rfl)) (by walk_at "len")) ?_)
    rfl

def RLed (S : List Sv) (d : PyData) : Prop := ∃ (n : Int) (m : Mv) (p : Pl), S = [.dat (.int n), .dat (mvD m), .dat (plD p)] ∧ 0 < n ∧ d = plD (CkM.led n m p)

theorem ok_led {f : Addr} {fd : FuncData} {k : Nat} (F : Fun K "led" "led" sLed f fd) (C : CalK P w K mg base k "turned_place" pTurnedPlace RTurned) : FnOk P w K mg base CX0 (k + 1) f fd pLed (SpD K RLed) := by
  refine fn_ok F scLed (fun S d h => ?_) fun A hr S d h => ?_
  · obtain ⟨n, m, p, rfl, _⟩ := h
    rfl
  · obtain ⟨n, m, p, rfl, hn, rfl⟩ := h
    have nd := scLed.nd
    refine hs_cons (ht_asg (ev_call (k := k) C hr (ea_cons (ev_ix (ev_v slot1 rfl) ev_int (by walk_at "ix")) (ea_cons (ev_v slot2 rfl) ea_nil)) ⟨m.w, p, rfl, rfl⟩) (tg_tup (tgs_cons (tg_name 3 nd) (tgs_cons (tg_name 4 nd) tgs_nil))) ?_)
    refine hs_cons (ht_ret (ev_tup (eas_cons (ev_bin (ev_bin (ev_v slot3 rfl) (ev_ix (ev_v slot1 rfl) ev_int (by walk_at "ix")) (by walk_at "br")) (ev_v slot0 rfl) (by walk_at "br")) (eas_cons (ev_bin (ev_bin (ev_v slot4 rfl) (ev_ix (ev_v slot1 rfl) ev_int (by walk_at "ix")) (by walk_at "br")) (ev_v slot0 rfl) (by walk_at "br")) eas_nil (by intro _; rfl)) (by intro _; rfl)) (by walk_at "len")) ?_)
    rfl

def sgD (x : Way) : PyData := .tuple [.int x.sa, .int x.sb, .int x.sc, .int x.sd]
def RWayOf (S : List Sv) (d : PyData) : Prop := ∃ t : Way, S = [.dat (sgD t)] ∧ d = wS t
theorem ex_ways {U : Vw} {Δ : List Sv} {M : MS} {p : Pos} (Gl' : Glob U.K U.w U.mg) (hg : U.sc.names.lookup ("WAYS" : Str) = some .globalImplicit := by rfl) : EvX U (.Name "WAYS" p) Δ M (.wt (Way.all.map wS)) := fun G0 H0 Gs G σ H st Q q => by
  obtain ⟨a, h1, h2⟩ := Gl'.ways
  refine ⟨tC (.ref a), fun r => pe_glob hg h1 rfl, q _ G H (.refl st.ext.gh) ⟨a, _, rfl, h2.sq G, ?_⟩⟩
  exact .cons (.str _) (.cons (.str _) (.cons (.str _) (.cons (.str _) (.cons (.str _) (.cons (.str _) (.cons (.str _) (.cons (.str _) .nil)))))))
/-- a written tuple compared with data -/
theorem et_cmpW {U : Vw} {Δ : List Sv} {M : MS} {a b : Expr} {pos : Pos} {ds : List PyData} {d : PyData} {k : Bool} (hu : U.A.units + 64 < cLine) (ha : EvX U a Δ M (.wt ds)) (hb : EvD U b Δ M d) (o1 : okD 8 (.tuple ds) = true) (o2 : okD 8 d = true) (h : k = true ↔ PyData.tuple ds = d) : EvT U (.Compare a [.Eq] [b] pos) Δ M k := fun G0 H0 Gs G σ H st Q q =>
  ⟨tTest (tOp (rEqD U.K) (rE U a) (rE U b)), fun r => pt_cmpR (op_eqD (X := U.cx r) hu) pe_r pe_r (nomark _), ha G0 H0 Gs G σ H st _ fun v G1 H1 e1 h1 => hb G0 H0 Gs G1 σ H1 (st.grow e1) _ fun w G2 H2 e2 h2 => by
    obtain ⟨a, vs, ev, hq, hf⟩ := h1
    cases ev
    have e : PyData.eqv (.tuple ds) d = k := Bool.eq_iff_iff.mpr ((eqv_ok 8 _ _ o1 o2).trans h.symm)
    refine ⟨.tuple ds, d, .tup (Evl.ex_t e2.gh (Evl.ex_t e2.gg hq)) (DtAll.dp (okL_lay 7 ds (by rw [okD] at o1; exact o1)).1 (flat_all (G := H2) hf)), dp_whole e2.gh (okD_lay 8 d o2).1 h2, okD_shaped (by decide) o1, okD_shaped (by decide) o2, k, by rw [e], q G2 H2 (e1.trans e2)⟩⟩

theorem ok_wayOf {f : Addr} {fd : FuncData} {k : Nat} (F : Fun K "way_of" "way_of" sWayOf f fd) (G : Glob K w mg) : FnOk P w K mg base CX0 (k + 1) f fd pWayOf (SpD K RWayOf) := by
  refine fn_ok F scWayOf (fun S d h => ?_) fun A hr S d h => ?_
  · obtain ⟨t, rfl, _⟩ := h
    rfl
  · obtain ⟨t, rfl, rfl⟩ := h
    have nd := scWayOf.nd
    refine hs_cons (ht_ret (d := wS t) (ev_ix (ev_lc [("way", 1)] (g := wS) wS (fun x => decide (x = t)) nd (by dsimp only [vwOf]; decide +kernel) (it_wt (ex_ways G)) (by decide) fun i x hx => ?_) ev_int (IxD.lst ?_)) rfl)
    · refine ⟨_, _, tg_name 1 nd, fun i hi => hi, ets_one (et_cmpW hr.units (ex_signs (U := vwOf P w K mg base A nWayOf (defScope sWayOf) |>.blk _) (x := x) G (ev_v slot1 rfl)) (ev_v slot0 rfl) rfl (d := sgD t) rfl ?_), fun _ => (ev_v slot1 rfl)⟩
      rw [decide_eq_true_iff]
      unfold sgD
      constructor
      · rintro rfl
        rfl
      · intro e
        injection e with e
        injection e with e1 e
        injection e with e2 e
        injection e with e3 e
        injection e with e4 e
        exact Way.signs_inj x t (PyData.int.inj e1) (PyData.int.inj e2) (PyData.int.inj e3) (PyData.int.inj e4)
    · cases t <;> rfl
theorem sgD_mul (x y : Way) : PyData.tuple [.int (y.sa * x.sa + y.sb * x.sc), .int (y.sa * x.sb + y.sb * x.sd), .int (y.sc * x.sa + y.sd * x.sc), .int (y.sc * x.sb + y.sd * x.sd)] = sgD (x.mul y) := by
  unfold sgD
  rw [Way.mul_sa, Way.mul_sb, Way.mul_sc, Way.mul_sd]
def RThen (S : List Sv) (d : PyData) : Prop := ∃ (n : Int) (x y : Mv), S = [.dat (.int n), .dat (mvD x), .dat (mvD y)] ∧ 0 < n ∧ d = mvD (thn n x y)

theorem ok_then {f : Addr} {fd : FuncData} {k : Nat} (F : Fun K "then" "then" sThen f fd) (G : Glob K w mg) (CL : CalK P w K mg base k "led" pLed RLed) (CW : CalK P w K mg base k "way_of" pWayOf RWayOf) : FnOk P w K mg base CX0 (k + 1) f fd pThen (SpD K RThen) := by
  refine fn_ok F scThen (fun S d h => ?_) fun A hr S d h => ?_
  · obtain ⟨n, x, y, rfl, _⟩ := h
    rfl
  · obtain ⟨n, x, y, rfl, hn, rfl⟩ := h
    have nd := scThen.nd
    have bx := sbd x.w
    have by' := sbd y.w
    refine hs_cons (ht_asgW (ex_signs (x := x.w) G (ev_ix (ev_v slot1 rfl) ev_int (by walk_at "ix"))) (tgs_cons (tg_name 3 nd) (tgs_cons (tg_name 4 nd) (tgs_cons (tg_name 5 nd) (tgs_cons (tg_name 6 nd) tgs_nil)))) ?_)
    refine hs_cons (ht_asgW (ex_signs (x := y.w) G (ev_ix (ev_v slot2 rfl) ev_int (by walk_at "ix"))) (tgs_cons (tg_name 7 nd) (tgs_cons (tg_name 8 nd) (tgs_cons (tg_name 9 nd) (tgs_cons (tg_name 10 nd) tgs_nil)))) ?_)
    refine hs_cons (ht_set 11 nd (ev_call (k := k) CW hr (ea_cons (ev_tup (eas_cons (ev_bin (ev_bin (ev_v slot7 rfl) (ev_v slot3 rfl) (by walk_at "br")) (ev_bin (ev_v slot8 rfl) (ev_v slot5 rfl) (by walk_at "br")) (by walk_at "br")) (eas_cons (ev_bin (ev_bin (ev_v slot7 rfl) (ev_v slot4 rfl) (by walk_at "br")) (ev_bin (ev_v slot8 rfl) (ev_v slot6 rfl) (by walk_at "br")) (by walk_at "br")) (eas_cons (ev_bin (ev_bin (ev_v slot9 rfl) (ev_v slot3 rfl) (by walk_at "br")) (ev_bin (ev_v slot10 rfl) (ev_v slot5 rfl) (by walk_at "br")) (by walk_at "br")) (eas_cons (ev_bin (ev_bin (ev_v slot9 rfl) (ev_v slot4 rfl) (by walk_at "br")) (ev_bin (ev_v slot10 rfl) (ev_v slot6 rfl) (by walk_at "br")) (by walk_at "br")) eas_nil (by intro _; rfl)) (by intro _; rfl)) (by intro _; rfl)) (by intro _; rfl)) (by walk_at "len")) ea_nil) ⟨x.w.mul y.w, congrArg (fun z => [Sv.dat z]) (sgD_mul x.w y.w), rfl⟩) ?_)
    refine hs_cons (ht_asg (ev_call (k := k) CL hr (ea_cons (ev_v slot0 rfl) (ea_cons (ev_v slot2 rfl) (ea_cons (ev_tup (eas_cons (ev_ix (ev_v slot1 rfl) ev_int (by walk_at "ix")) (eas_cons (ev_ix (ev_v slot1 rfl) ev_int (by walk_at "ix")) eas_nil (by intro _; rfl)) (by intro _; rfl)) (by walk_at "len")) ea_nil))) ⟨n, y, (x.d, x.r), rfl, hn, rfl⟩) (tg_tup (tgs_cons (tg_name 12 nd) (tgs_cons (tg_name 13 nd) tgs_nil))) ?_)
    refine hs_cons (ht_ret (ev_tup (eas_cons (ev_v slot11 rfl) (eas_cons (ev_v slot12 rfl) (eas_cons (ev_v slot13 rfl) eas_nil (by intro _; rfl)) (by intro _; rfl)) (by intro _; rfl)) (by walk_at "len")) ?_)
    rfl
end
end Ck
end Ck3Part

/-! ## CkM2 -/
section CkM2Part
set_option linter.all false
/-! What is reached by steps: the worklist, orbits, groups. Plain Lean. -/
namespace CkM
section
variable {α β : Type}
inductive Rch (step : α → β → α) (gs : List β) (a : α) : α → Prop
  | base : Rch step gs a a
  | step {x : α} {g : β} : Rch step gs a x → g ∈ gs → Rch step gs a (step x g)
theorem Rch.trans {step : α → β → α} {gs : List β} {a b c : α} (h1 : Rch step gs a b) (h2 : Rch step gs b c) : Rch step gs a c := by
  induction h2 with
  | base => exact h1
  | step _ hg ih => exact ih.step hg
theorem Rch.one {step : α → β → α} {gs : List β} {a : α} {g : β} (h : g ∈ gs) : Rch step gs a (step a g) := Rch.base.step h
theorem Rch.inv {step : α → β → α} {gs : List β} {a : α} (p : α → Prop) (h0 : p a) (hs : ∀ x g, p x → g ∈ gs → p (step x g)) {x : α} (h : Rch step gs a x) : p x := by
  induction h with
  | base => exact h0
  | step _ hg ih => exact hs _ _ ih hg
/-- the worklist between two turns -/
structure WL (step : α → β → α) (gs : List β) (a : α) (F W : List α) : Prop where
  nd : F.Nodup
  reach : ∀ x ∈ F, Rch step gs a x
  base : a ∈ F
  sub : ∀ x ∈ W, x ∈ F
  closed : ∀ x ∈ F, x ∉ W → ∀ g ∈ gs, step x g ∈ F
/-- .. while x's steps are taken, i of them done -/
structure WLi (step : α → β → α) (gs : List β) (a x : α) (i : Nat) (F W : List α) : Prop where
  nd : F.Nodup
  reach : ∀ x ∈ F, Rch step gs a x
  base : a ∈ F
  sub : ∀ x ∈ W, x ∈ F
  closed : ∀ y ∈ F, y ≠ x → y ∉ W → ∀ g ∈ gs, step y g ∈ F
  here : ∀ g ∈ gs.take i, step x g ∈ F
  xF : x ∈ F
variable {step : α → β → α} {gs : List β} {a x y : α} {F W : List α} {i : Nat} {g : β}
theorem WL.start : WL step gs a [a] [a] := ⟨by simp, fun x h => by rw [List.mem_singleton] at h; subst h; exact .base, by simp, fun _ h => h, fun x h h' => absurd h h'⟩
theorem last_split (h : W[W.length - 1]? = some x) : W = W.dropLast ++ [x] := by
  have hne : W ≠ [] := fun e => by subst e; simp at h
  have : W.getLast hne = x := by
    rw [List.getLast_eq_getElem]
    rw [List.getElem?_eq_getElem (by have := List.length_pos_iff.mpr hne; omega)] at h
    exact Option.some.inj h
  rw [← this]
  exact (List.dropLast_concat_getLast hne).symm
theorem WL.pop (h : WL step gs a F W) (hx : W[W.length - 1]? = some x) : WLi step gs a x 0 F W.dropLast := by
  have e := last_split hx
  refine ⟨h.nd, h.reach, h.base, fun y hy => h.sub y (by rw [e]; exact List.mem_append_left _ hy), fun y hy hne hW => h.closed y hy fun m => ?_, by simp, h.sub x (List.mem_of_getElem? hx)⟩
  rw [e, List.mem_append, List.mem_singleton] at m
  exact m.elim hW hne
theorem take_succ' {l : List β} (h : l[i]? = some g) : l.take (i + 1) = l.take i ++ [g] := by rw [List.take_add_one, h]; rfl
theorem WLi.old (h : WLi step gs a x i F W) (hg : gs[i]? = some g) (hF : step x g ∈ F) : WLi step gs a x (i + 1) F W :=
  ⟨h.nd, h.reach, h.base, h.sub, h.closed, fun k hk => by
    rw [take_succ' hg, List.mem_append, List.mem_singleton] at hk
    rcases hk with hk | rfl
    · exact h.here k hk
    · exact hF, h.xF⟩
theorem WLi.new (h : WLi step gs a x i F W) (hg : gs[i]? = some g) (hF : step x g ∉ F) : WLi step gs a x (i + 1) (F ++ [step x g]) (W ++ [step x g]) := by
  refine ⟨?_, fun y hy => ?_, List.mem_append_left _ h.base, fun y hy => ?_, fun y hy hne hW k hk => ?_, fun k hk => ?_, List.mem_append_left _ h.xF⟩
  · rw [List.nodup_append]
    refine ⟨h.nd, by simp, fun u hu v hv e => ?_⟩
    rw [List.mem_singleton] at hv
    subst e hv
    exact hF hu
  · rw [List.mem_append, List.mem_singleton] at hy
    rcases hy with hy | rfl
    · exact h.reach y hy
    · exact (h.reach x h.xF).step (List.mem_of_getElem? hg)
  · rw [List.mem_append] at hy ⊢
    exact hy.imp (h.sub y) id
  · rw [List.mem_append, List.mem_singleton, not_or] at hW
    rw [List.mem_append, List.mem_singleton] at hy
    rcases hy with hy | rfl
    · exact List.mem_append_left _ (h.closed y hy hne hW.1 k hk)
    · exact absurd rfl hW.2
  · rw [take_succ' hg, List.mem_append, List.mem_singleton] at hk
    rcases hk with hk | rfl
    · exact List.mem_append_left _ (h.here k hk)
    · exact List.mem_append_right _ (by simp)
theorem WLi.done (h : WLi step gs a x gs.length F W) : WL step gs a F W := ⟨h.nd, h.reach, h.base, h.sub, fun y hy hW g hg => by
  by_cases e : y = x
  · subst e
    exact h.here g (by rw [List.take_length]; exact hg)
  · exact h.closed y hy e hW g hg⟩
theorem WL.all (h : WL step gs a F []) : y ∈ F ↔ Rch step gs a y := by
  refine ⟨h.reach y, fun r => ?_⟩
  induction r with
  | base => exact h.base
  | step _ hg ih => exact h.closed _ ih (by simp) _ hg

/-- what is reached, in the order of a list of all -/
noncomputable def reached (univ : List α) (step : α → β → α) (gs : List β) (a : α) : List α := univ.filter fun x => @decide (Rch step gs a x) (Classical.propDecidable _)
theorem mem_reached {univ : List α} : x ∈ reached univ step gs a ↔ x ∈ univ ∧ Rch step gs a x := by
  unfold reached
  rw [List.mem_filter]
  simp
/-- a list without doubles, the same as what is reached: it is as long -/
theorem reached_perm {univ : List α} (hn : univ.Nodup) (hF : F.Nodup) (h : ∀ y, y ∈ F ↔ Rch step gs a y) (hu : ∀ y, Rch step gs a y → y ∈ univ) : (reached univ step gs a).Perm F := by
  refine (List.perm_ext_iff_of_nodup ?_ hF).mpr fun y => ?_
  · exact hn.sublist List.filter_sublist
  · rw [mem_reached, h]
    exact ⟨fun z => z.2, fun z => ⟨hu y z, z⟩⟩
theorem reached_congr {univ : List α} {gs' : List β} {a' : α} (h : ∀ y ∈ univ, Rch step gs a y ↔ Rch step gs' a' y) : reached univ step gs a = reached univ step gs' a' := by
  unfold reached
  refine List.filter_congr fun y hy => ?_
  exact decide_eq_decide.mpr (h y hy)
end

/-! ### places and movements of a side -/
def allPl (n : Nat) : List Pl := (List.range n).flatMap fun (r : Nat) => (List.range n).map fun (c : Nat) => ((r : Int), (c : Int))
def sortedWays : List Way := [.back, .cross, .flip, .half, .other, .side, .stay, .turn]
def allMv (n : Nat) : List Mv := sortedWays.flatMap fun w => (allPl n).map fun p => ⟨w, p.1, p.2⟩
theorem mem_allPl {n : Nat} {p : Pl} : p ∈ allPl n ↔ (0 ≤ p.1 ∧ p.1 < n) ∧ 0 ≤ p.2 ∧ p.2 < n := by
  unfold allPl
  rw [List.mem_flatMap]
  constructor
  · rintro ⟨r, hr, h⟩
    obtain ⟨c, hc, rfl⟩ := List.mem_map.mp h
    rw [List.mem_range] at hr hc
    exact ⟨⟨by simp, by simp; omega⟩, by simp, by simp; omega⟩
  · rintro ⟨⟨h1, h2⟩, h3, h4⟩
    have r1 : p.1.toNat < n := by omega
    have r2 : p.2.toNat < n := by omega
    refine ⟨p.1.toNat, List.mem_range.mpr r1, List.mem_map.mpr ⟨p.2.toNat, List.mem_range.mpr r2, ?_⟩⟩
    rw [Int.toNat_of_nonneg h1, Int.toNat_of_nonneg h3]
theorem mem_ways (w : Way) : w ∈ sortedWays := by cases w <;> decide
theorem mem_allMv {n : Nat} {m : Mv} : m ∈ allMv n ↔ (m.d, m.r) ∈ allPl n := by
  unfold allMv
  rw [List.mem_flatMap]
  constructor
  · rintro ⟨w, _, h⟩
    obtain ⟨p, hp, rfl⟩ := List.mem_map.mp h
    exact hp
  · intro h
    exact ⟨m.w, mem_ways m.w, List.mem_map.mpr ⟨(m.d, m.r), h, rfl⟩⟩
theorem led_mem {n : Nat} (hn : 0 < n) (m : Mv) (p : Pl) : led n m p ∈ allPl n := by
  rw [mem_allPl]
  unfold led
  have h : (0 : Int) < n := by omega
  exact ⟨⟨Int.emod_nonneg _ (by omega), Int.emod_lt_of_pos _ h⟩, Int.emod_nonneg _ (by omega), Int.emod_lt_of_pos _ h⟩
theorem thn_mem {n : Nat} (hn : 0 < n) (x y : Mv) : thn n x y ∈ allMv n := by
  rw [mem_allMv]
  exact led_mem hn y (x.d, x.r)
def idm : Mv := ⟨.stay, 0, 0⟩
theorem idm_mem {n : Nat} (hn : 0 < n) : idm ∈ allMv n := by
  rw [mem_allMv, mem_allPl]
  exact ⟨⟨Int.le_refl _, by show (0 : Int) < n; omega⟩, Int.le_refl _, by show (0 : Int) < n; omega⟩
abbrev stepP (n : Nat) (p : Pl) (m : Mv) : Pl := led n m p
abbrev stepM (n : Nat) (x m : Mv) : Mv := thn n x m
/-- the places that movements lead to from one, row by row -/
noncomputable def orbit (n : Nat) (ms : List Mv) (p : Pl) : List Pl := reached (allPl n) (stepP n) ms p
/-- the movements made -/
noncomputable def madeL (n : Nat) (ms : List Mv) : List Mv := reached (allMv n) (stepM n) ms idm
end CkM
end CkM2Part

/-! ## Ck6 -/
section Ck6Part
set_option Elab.async false
set_option linter.all false
set_option maxRecDepth 100000
set_option maxHeartbeats 4000000
/-! Keys that are places, movements; dicts that are sets of these; sorted. -/
namespace Ck
open PySem PySem.Spec PyProof.Rows L2 CkM
open PySem.W (EachIs AllAlike Sortable dataLe alike)
def plK (p : Pl) : List Key := [.inl p.1, .inl p.2]
def mvK (m : Mv) : List Key := [.inr (Str.ofString m.w.name), .inl m.d, .inl m.r]
theorem plD_eq (p : Pl) : plD p = encK (plK p) := rfl
theorem mvD_eq (m : Mv) : mvD m = encK (mvK m) := rfl
theorem plK_inj {p q : Pl} (h : plK p = plK q) : p = q := by
  unfold plK at h
  injection h with h1 h
  injection h with h2 h
  exact Prod.ext (Sum.inl.inj h1) (Sum.inl.inj h2)
theorem name_inj {x y : Way} (h : Str.ofString x.name = Str.ofString y.name) : x = y := by
  revert h
  cases x <;> cases y <;> first | (intro _; rfl) | (intro h; exact absurd h (by decide +kernel))
theorem mvK_inj {p q : Mv} (h : mvK p = mvK q) : p = q := by
  unfold mvK at h
  injection h with h1 h
  injection h with h2 h
  injection h with h3 h
  cases p; cases q
  simp only [Mv.mk.injEq]
  exact ⟨name_inj (Sum.inr.inj h1), Sum.inl.inj h2, Sum.inl.inj h3⟩
section
variable {α : Type} [DecidableEq α] {key : α → List Key}
/-- a dict that is a set -/
def setD (key : α → List Key) (F : List α) : List (List Key × PyData) := F.map fun x => (key x, PyData.bool true)
theorem valD_set (hk : ∀ x y, key x = key y → x = y) (y : α) : ∀ F : List α, (valD (setD key F) (key y)).isSome = decide (y ∈ F)
  | [] => by simp [setD, valD]
  | x :: F => by
    have ih := valD_set hk y F
    by_cases e : x = y
    · subst e
      simp [setD, valD, List.find?_cons]
    · have hne : ¬ key x = key y := fun z => e (hk x y z)
      have : valD (setD key (x :: F)) (key y) = valD (setD key F) (key y) := by simp [setD, valD, List.find?_cons, hne]
      rw [this, ih]
      simp [Ne.symm e]
theorem putD_new {κ : Type} [DecidableEq κ] {kvs : List (κ × PyData)} {k : κ} {d : PyData} (h : (valD kvs k).isSome = false) : putD kvs k d = kvs ++ [(k, d)] := by
  unfold putD
  rw [if_neg]
  intro ha
  rw [List.any_eq_true] at ha
  obtain ⟨p, hp, e⟩ := ha
  have : (kvs.find? fun kv => decide (kv.1 = k)).isSome = true := List.find?_isSome.mpr ⟨p, hp, e⟩
  unfold valD at h
  rw [Option.isSome_map, this] at h
  cases h
theorem putD_set (hk : ∀ x y, key x = key y → x = y) {y : α} {F : List α} (h : y ∉ F) : putD (setD key F) (key y) (.bool true) = setD key (F ++ [y]) := by
  rw [putD_new (by rw [valD_set hk]; simpa using h)]
  simp [setD]
theorem keys_set (F : List α) : (setD key F).map (·.1) = F.map key := by simp [setD]
theorem encs_set (F : List α) : (setD key F).map (fun kv => encK kv.1) = F.map fun x => encK (key x) := by simp [setD]
theorem leK_total : PySem.W.TotalLe leK := by
  unfold leK dataLe
  exact PySem.W.sortLe_total _ _ _
/-- sorted keys of a part of a list that is in order -/
theorem msort_univ {univ : List α} (hs : univ.Pairwise fun x y => leK (key y) (key x) = false) {L S : List α} (hp : S.Perm L) (hS : S.Sublist univ) (hk : ∀ x y, key x = key y → x = y) : (L.map key).mergeSort leK = S.map key := by
  have hsS : S.Pairwise fun x y => leK (key y) (key x) = false := hs.sublist hS
  refine List.Perm.eq_of_pairwise (le := fun a b => leK a b = true) ?_ (PySem.W.sort_pairwise leK_total _) ?_ ((List.mergeSort_perm _ _).trans (hp.map key).symm)
  · intro a b ha hb h1 h2
    have ha' : a ∈ S.map key := (hp.map key).mem_iff.mpr ((List.mergeSort_perm _ _).mem_iff.mp ha)
    obtain ⟨x, hx, rfl⟩ := List.mem_map.mp ha'
    obtain ⟨y, hy, rfl⟩ := List.mem_map.mp hb
    by_cases e : x = y
    · rw [e]
    · exfalso
      obtain ⟨i, hi, rfl⟩ := List.mem_iff_getElem.mp hx
      obtain ⟨j, hj, rfl⟩ := List.mem_iff_getElem.mp hy
      rw [List.pairwise_iff_getElem] at hsS
      rcases Nat.lt_trichotomy i j with hij | hij | hij
      · rw [hsS i j hi hj hij] at h2; cases h2
      · subst hij; exact e rfl
      · rw [hsS j i hj hi hij] at h1; cases h1
  · rw [List.pairwise_map]
    refine hsS.imp fun {x y} h => ?_
    rcases leK_total.total (key x) (key y) with q | q
    · exact q
    · rw [h] at q; cases q
end
theorem pl_sorted : ∀ n : Nat, 1 ≤ n → n ≤ 3 → (allPl n).Pairwise fun x y => leK (plK y) (plK x) = false := by
  intro n h1 h3
  have : n = 1 ∨ n = 2 ∨ n = 3 := by omega
  rcases this with rfl | rfl | rfl <;> decide +kernel
theorem mv_sorted : ∀ n : Nat, 1 ≤ n → n ≤ 3 → (allMv n).Pairwise fun x y => leK (mvK y) (mvK x) = false := by
  intro n h1 h3
  have : n = 1 ∨ n = 2 ∨ n = 3 := by omega
  rcases this with rfl | rfl | rfl <;> decide +kernel
theorem sorted_nodup {α : Type} {key : α → List Key} {l : List α} (h : l.Pairwise fun x y => leK (key y) (key x) = false) : l.Nodup := by
  refine h.imp fun {x y} h e => ?_
  subst e
  rw [leK_total.refl] at h
  cases h
theorem pl_nodup {n : Nat} (h1 : 1 ≤ n) (h3 : n ≤ 3) : (allPl n).Nodup := sorted_nodup (pl_sorted n h1 h3)
theorem mv_nodup {n : Nat} (h1 : 1 ≤ n) (h3 : n ≤ 3) : (allMv n).Nodup := sorted_nodup (mv_sorted n h1 h3)
theorem pl_alike (F : List Pl) : AllAlike (F.map fun x => encK (plK x)) := .of fun b b' => by simp [encK, plK, kD, alike, PySem.W.alikeAll]
theorem mv_alike (F : List Mv) : AllAlike (F.map fun x => encK (mvK x)) := .of fun b b' => by simp [encK, mvK, kD, alike, PySem.W.alikeAll]
theorem pl_sortable (F : List Pl) : Sortable (F.map fun x => encK (plK x)) := .tuples fun b => ⟨_, _, rfl⟩
theorem mv_sortable (F : List Mv) : Sortable (F.map fun x => encK (mvK x)) := .tuples fun b => ⟨_, _, rfl⟩
/-- the sorted keys of what a worklist has found -/
theorem sorted_reached {α : Type} [DecidableEq α] {β : Type} {key : α → List Key} {univ : List α} {step : α → β → α} {gs : List β} {a : α} {F : List α} (hk : ∀ x y, key x = key y → x = y) (hs : univ.Pairwise fun x y => leK (key y) (key x) = false) (hF : WL step gs a F []) (hu : ∀ y ∈ F, y ∈ univ) :
    (((setD key F).map (·.1)).mergeSort leK).map encK = (reached univ step gs a).map fun x => encK (key x) := by
  rw [keys_set, msort_univ (univ := univ) hs (S := reached univ step gs a) (reached_perm (sorted_nodup hs) hF.nd (fun y => hF.all) fun y hy => hu y (hF.all.mpr hy)) List.filter_sublist hk, List.map_map]
  rfl
theorem ok_pls (F : List Pl) : okL 7 (F.map plD) = true := okL_iff.mpr fun x hx => by
  obtain ⟨p, _, rfl⟩ := List.mem_map.mp hx
  rfl
theorem ok_name (w : Way) : PyData.strOk (Str.ofString w.name) = true := by cases w <;> decide +kernel
theorem ok_mv (m : Mv) : okD 7 (mvD m) = true := by
  show okL 6 [wS m.w, .int m.d, .int m.r] = true
  rw [okL_iff]
  intro x hx
  simp only [List.mem_cons, List.not_mem_nil, or_false] at hx
  rcases hx with rfl | rfl | rfl
  · show okD 6 (.str _) = true
    rw [okD]
    exact ok_name m.w
  · rfl
  · rfl
theorem ok_mvs (F : List Mv) : okL 7 (F.map mvD) = true := okL_iff.mpr fun x hx => by
  obtain ⟨p, _, rfl⟩ := List.mem_map.mp hx
  exact ok_mv p
end Ck
end Ck6Part

/-! ## Ck7 -/
section Ck7Part
set_option Elab.async false
set_option linter.all false
set_option maxRecDepth 100000
set_option maxHeartbeats 4000000
/-! circle_from, made. -/
namespace Ck
open PySem PySem.Spec PyProof.Rows L2 CkM
local macro_rules | `(tactic| walk_at "nf") => `(tactic| dsimp only [List.set_cons_zero, List.set_cons_succ, List.length_cons, List.length_nil, List.replicate_succ, List.cons_append, List.nil_append, List.replicate_zero, List.append_nil, Nat.reduceSub, Nat.reduceAdd])
local macro_rules | `(tactic| walk_at "len") => `(tactic| exact small_len (Nat.le_of_ble_eq_true rfl))
section
variable {P : Program} {w : World} {K : PySem.W.Frag} {mg : Str → Option Value} {base : Heap}
def RCircleFrom (S : List Sv) (d : PyData) : Prop := ∃ (n : Nat) (ms : List Mv) (p : Pl), S = [.dat (.int n), .dat (.list (ms.map mvD)), .dat (plD p)] ∧ 1 ≤ n ∧ n ≤ 3 ∧ p ∈ allPl n ∧ d = .list ((orbit n ms p).map plD)
theorem len_pl {n : Nat} : (allPl n).length = n * n := by
  have aux : ∀ l : List Nat, (l.map fun _ => n).sum = l.length * n := by
    intro l
    induction l with
    | nil => simp
    | cons a l ih => rw [List.map_cons, List.sum_cons, ih, List.length_cons, Nat.succ_mul]; omega
  unfold allPl
  rw [List.length_flatMap]
  simp only [List.length_map, List.length_range]
  rw [aux, List.length_range]
theorem len_mv {n : Nat} : (allMv n).length = 8 * (n * n) := by
  unfold allMv
  rw [List.length_flatMap]
  simp [len_pl, sortedWays]
  omega

theorem ok_circleFrom {f : Addr} {fd : FuncData} {k : Nat} (F : Fun K "circle_from" "circle_from" sCircleFrom f fd) (CL : CalK P w K mg base k "led" pLed RLed) (ms' : mg "sorted" = none) : FnOk P w K mg base CX0 (k + 1) f fd pCircleFrom (SpD K RCircleFrom) := by
  refine fn_ok F scCircleFrom (fun S d h => ?_) fun A hr S d h => ?_
  · obtain ⟨n, ms, p, rfl, _⟩ := h
    rfl
  · obtain ⟨n, ms, p, rfl, h1, h3, hp, rfl⟩ := h
    have nd := scCircleFrom.nd
    have hu := hu_of hr
    have hu64 := hr.units
    have npos : (0 : Int) < n := by omega
    have hbound : ∀ F : List Pl, F.Nodup → (∀ x ∈ F, x ∈ allPl n) → F.length ≤ n * n := fun F hF hS => by
      rw [← len_pl]
      exact hF.length_le_of_subset hS
    have hnn : n * n ≤ 9 := Nat.mul_le_mul h3 h3
    walk_at "nf"
    refine hs_cons (ht_newT1 3 nd hu (ks := plK p) (ev_v slot2 rfl) ev_bl fun o1 => ?_)
    walk_at "nf"
    refine hs_cons (ht_newL 4 nd (ds := [plD p]) (eas_cons (ev_v slot2 rfl) eas_nil (by intro _; rfl)) (fun o2 => ?_))
    walk_at "nf"
    refine hs_cons (ht_while (fun m Δ M => ∃ F Wk s5 s6 s7, Δ = [.dat (.int n), .dat (.list (ms.map mvD)), .dat (plD p), .ref o1, .ref o2, s5, s6, s7] ∧ M = [(o2, .lst (Wk.map plD)), (o1, .dT (setD plK F))] ∧ WL (stepP n) ms p F Wk ∧ (∀ x ∈ F, x ∈ allPl n) ∧ m = 2 * (n * n - F.length) + Wk.length ∧ m ≤ 200) _ ⟨[p], [p], .non, .non, .non, rfl, rfl, .start, fun x hx => by rw [List.mem_singleton] at hx; subst hx; exact hp, rfl, by simp; omega⟩ ?_)
    rintro m Δ M ⟨F, Wk, s5, s6, s7, rfl, rfl, hW, hS, hm, hm200⟩
    refine ⟨!Wk.isEmpty, et_neNil hu64 (ex_ref 4 rfl) (j := 0) rfl (ok_pls Wk) (by cases Wk <;> simp), fun hne => ?_, fun he => ?_⟩
    · -- a turn
      have hWk : Wk ≠ [] := by intro e; subst e; simp at hne
      obtain ⟨x, hx⟩ : ∃ x, Wk[Wk.length - 1]? = some x := ⟨_, List.getElem?_eq_getElem (by have := List.length_pos_iff.mpr hWk; omega)⟩
      have hWi := hW.pop hx
      have hF1 := hbound F hW.nd hS
      have hlenW : Wk.dropLast.length + 1 = Wk.length := by
        rw [List.length_dropLast]
        have := List.length_pos_iff.mpr hWk
        omega
      refine hs_cons (ht_pop 5 0 nd (ex_ref 4 rfl) rfl (d := plD x) (by rw [List.length_map, List.getElem?_map, hx]; rfl) ?_)
      walk_at "nf"
      rw [← List.map_dropLast]
      refine hs_cons (ht_for (xs := ms) (g := mvD) (fun i Δ M => ∃ F Wk s6 s7, Δ = [.dat (.int n), .dat (.list (ms.map mvD)), .dat (plD p), .ref o1, .ref o2, .dat (plD x), s6, s7] ∧ M = [(o2, .lst (Wk.map plD)), (o1, .dT (setD plK F))] ∧ WLi (stepP n) ms p x i F Wk ∧ (∀ x ∈ F, x ∈ allPl n) ∧ 2 * (n * n - F.length) + Wk.length < m) (it_list (ev_v slot1 rfl)) ⟨F, Wk.dropLast, s6, s7, rfl, rfl, hWi, hS, by omega⟩ ?_ ?_)
      · rintro i y Δ M hy ⟨F, Wk, s6, s7, rfl, rfl, hWi, hS, hm2⟩
        refine ⟨_, _, tg_name 6 nd, ?_⟩
        walk_at "nf"
        refine hs_cons (ht_set 7 nd (ev_call (k := k) CL hr (ea_cons (ev_v slot0 rfl) (ea_cons (ev_v slot6 rfl) (ea_cons (ev_v slot5 rfl) ea_nil))) ⟨n, y, x, rfl, npos, rfl⟩) ?_)
        walk_at "nf"
        have hz : led n y x ∈ allPl n := led_mem (by omega) y x
        have hF1 := hbound F hWi.nd hS
        refine hs_cons (ht_if (et_ninT hu (ks := plK (led n y x)) (ev_v slot7 rfl) (ex_ref 3 rfl) (j := 1) rfl) (fun hk => ?_) (fun hk => ?_))
        · have hF : led n y x ∉ F := by simpa [valD_set (fun _ _ => plK_inj)] using hk
          have hF2 := hbound (F ++ [led n y x]) (hWi.new hy hF).nd (fun z hz' => by
            rw [List.mem_append, List.mem_singleton] at hz'
            rcases hz' with h | rfl
            · exact hS z h
            · exact hz)
          refine hs_cons (ht_putT 1 hu ev_bl (ex_ref 3 rfl) rfl (ks := plK (led n y x)) (ev_v slot7 rfl) (by rw [setD, List.length_map]; omega) ?_)
          walk_at "nf"
          rw [putD_set (fun _ _ => plK_inj) hF]
          refine hs_cons (ht_app 0 (ex_ref 4 rfl) rfl (ev_v slot7 rfl) (by rw [List.length_map]; rw [List.length_append] at hF2; omega) ?_)
          walk_at "nf"
          refine hs_nil (hs_nil ⟨F ++ [led n y x], Wk ++ [led n y x], _, _, rfl, by rw [List.map_append]; rfl, hWi.new hy hF, fun z hz' => ?_, ?_⟩)
          · rw [List.mem_append, List.mem_singleton] at hz'
            rcases hz' with h | rfl
            · exact hS z h
            · exact hz
          · rw [List.length_append, List.length_append, List.length_singleton] at *
            omega
        · have hF : led n y x ∈ F := by simpa [valD_set (fun _ _ => plK_inj)] using hk
          exact hs_nil (hs_nil ⟨F, Wk, _, _, rfl, rfl, hWi.old hy hF, hS, hm2⟩)
      · rintro Δ M ⟨F, Wk, s6, s7, rfl, rfl, hWi, hS, hm2⟩
        exact hs_nil ⟨_, hm2, F, Wk, _, _, _, rfl, rfl, hWi.done, hS, rfl, by omega⟩
    · have hWk : Wk = [] := by cases Wk <;> simp_all
      subst hWk
      refine hs_cons (ht_ret (ev_sortedT hu64 (ex_ref 3 rfl) (j := 1) rfl (by rw [encs_set]; exact pl_alike F) (by rw [encs_set]; exact pl_sortable F) ms') ?_)
      show PyData.list _ = PyData.list _
      rw [sorted_reached (fun _ _ => plK_inj) (pl_sorted n h1 h3) hW hS]
      rfl
def RMade (S : List Sv) (d : PyData) : Prop := ∃ (n : Nat) (ms : List Mv), S = [.dat (.int n), .dat (.list (ms.map mvD))] ∧ 1 ≤ n ∧ n ≤ 3 ∧ d = .list ((madeL n ms).map mvD)

theorem ok_made {f : Addr} {fd : FuncData} {k : Nat} (F : Fun K "made" "made" sMade f fd) (CT : CalK P w K mg base k "then" pThen RThen) (ms' : mg "sorted" = none) : FnOk P w K mg base CX0 (k + 1) f fd pMade (SpD K RMade) := by
  refine fn_ok F scMade (fun S d h => ?_) fun A hr S d h => ?_
  · obtain ⟨n, ms, rfl, _⟩ := h
    rfl
  · obtain ⟨n, ms, rfl, h1, h3, rfl⟩ := h
    have hp : idm ∈ allMv n := idm_mem (by omega)
    have nd := scMade.nd
    have hu := hu_of hr
    have hu64 := hr.units
    have npos : (0 : Int) < n := by omega
    have hbound : ∀ F : List Mv, F.Nodup → (∀ x ∈ F, x ∈ allMv n) → F.length ≤ 8 * (n * n) := fun F hF hS => by
      rw [← len_mv]
      exact hF.length_le_of_subset hS
    have hnn : n * n ≤ 9 := Nat.mul_le_mul h3 h3
    walk_at "nf"
    refine hs_cons (ht_set 2 nd (ev_tup (eas_cons ev_str (eas_cons ev_int (eas_cons ev_int eas_nil (by intro _; rfl)) (by intro _; rfl)) (by intro _; rfl)) (by walk_at "len")) ?_)
    walk_at "nf"
    refine hs_cons (ht_newT1 3 nd hu (ks := mvK idm) (ev_v slot2 rfl) ev_bl fun o1 => ?_)
    walk_at "nf"
    refine hs_cons (ht_newL 4 nd (ds := [mvD idm]) (eas_cons (ev_v slot2 rfl) eas_nil (by intro _; rfl)) (fun o2 => ?_))
    walk_at "nf"
    refine hs_cons (ht_while (fun m Δ M => ∃ F Wk s5 s6 s7, Δ = [.dat (.int n), .dat (.list (ms.map mvD)), .dat (mvD idm), .ref o1, .ref o2, s5, s6, s7] ∧ M = [(o2, .lst (Wk.map mvD)), (o1, .dT (setD mvK F))] ∧ WL (stepM n) ms idm F Wk ∧ (∀ x ∈ F, x ∈ allMv n) ∧ m = 2 * (8 * (n * n) - F.length) + Wk.length ∧ m ≤ 200) _ ⟨[idm], [idm], .non, .non, .non, rfl, rfl, .start, fun x hx => by rw [List.mem_singleton] at hx; subst hx; exact hp, rfl, by simp; omega⟩ ?_)
    rintro m Δ M ⟨F, Wk, s5, s6, s7, rfl, rfl, hW, hS, hm, hm200⟩
    refine ⟨!Wk.isEmpty, et_neNil hu64 (ex_ref 4 rfl) (j := 0) rfl (ok_mvs Wk) (by cases Wk <;> simp), fun hne => ?_, fun he => ?_⟩
    · -- a turn
      have hWk : Wk ≠ [] := by intro e; subst e; simp at hne
      obtain ⟨x, hx⟩ : ∃ x, Wk[Wk.length - 1]? = some x := ⟨_, List.getElem?_eq_getElem (by have := List.length_pos_iff.mpr hWk; omega)⟩
      have hWi := hW.pop hx
      have hF1 := hbound F hW.nd hS
      have hlenW : Wk.dropLast.length + 1 = Wk.length := by
        rw [List.length_dropLast]
        have := List.length_pos_iff.mpr hWk
        omega
      refine hs_cons (ht_pop 5 0 nd (ex_ref 4 rfl) rfl (d := mvD x) (by rw [List.length_map, List.getElem?_map, hx]; rfl) ?_)
      walk_at "nf"
      rw [← List.map_dropLast]
      refine hs_cons (ht_for (xs := ms) (g := mvD) (fun i Δ M => ∃ F Wk s6 s7, Δ = [.dat (.int n), .dat (.list (ms.map mvD)), .dat (mvD idm), .ref o1, .ref o2, .dat (mvD x), s6, s7] ∧ M = [(o2, .lst (Wk.map mvD)), (o1, .dT (setD mvK F))] ∧ WLi (stepM n) ms idm x i F Wk ∧ (∀ x ∈ F, x ∈ allMv n) ∧ 2 * (8 * (n * n) - F.length) + Wk.length < m) (it_list (ev_v slot1 rfl)) ⟨F, Wk.dropLast, s6, s7, rfl, rfl, hWi, hS, by omega⟩ ?_ ?_)
      · rintro i y Δ M hy ⟨F, Wk, s6, s7, rfl, rfl, hWi, hS, hm2⟩
        refine ⟨_, _, tg_name 6 nd, ?_⟩
        walk_at "nf"
        refine hs_cons (ht_set 7 nd (ev_call (k := k) CT hr (ea_cons (ev_v slot0 rfl) (ea_cons (ev_v slot5 rfl) (ea_cons (ev_v slot6 rfl) ea_nil))) ⟨n, x, y, rfl, npos, rfl⟩) ?_)
        walk_at "nf"
        have hz : thn n x y ∈ allMv n := thn_mem (by omega) x y
        have hF1 := hbound F hWi.nd hS
        refine hs_cons (ht_if (et_ninT hu (ks := mvK (thn n x y)) (ev_v slot7 rfl) (ex_ref 3 rfl) (j := 1) rfl) (fun hk => ?_) (fun hk => ?_))
        · have hF : thn n x y ∉ F := by simpa [valD_set (fun _ _ => mvK_inj)] using hk
          have hF2 := hbound (F ++ [thn n x y]) (hWi.new hy hF).nd (fun z hz' => by
            rw [List.mem_append, List.mem_singleton] at hz'
            rcases hz' with h | rfl
            · exact hS z h
            · exact hz)
          refine hs_cons (ht_putT 1 hu ev_bl (ex_ref 3 rfl) rfl (ks := mvK (thn n x y)) (ev_v slot7 rfl) (by rw [setD, List.length_map]; omega) ?_)
          walk_at "nf"
          rw [putD_set (fun _ _ => mvK_inj) hF]
          refine hs_cons (ht_app 0 (ex_ref 4 rfl) rfl (ev_v slot7 rfl) (by rw [List.length_map]; rw [List.length_append] at hF2; omega) ?_)
          walk_at "nf"
          refine hs_nil (hs_nil ⟨F ++ [thn n x y], Wk ++ [thn n x y], _, _, rfl, by rw [List.map_append]; rfl, hWi.new hy hF, fun z hz' => ?_, ?_⟩)
          · rw [List.mem_append, List.mem_singleton] at hz'
            rcases hz' with h | rfl
            · exact hS z h
            · exact hz
          · rw [List.length_append, List.length_append, List.length_singleton] at *
            omega
        · have hF : thn n x y ∈ F := by simpa [valD_set (fun _ _ => mvK_inj)] using hk
          exact hs_nil (hs_nil ⟨F, Wk, _, _, rfl, rfl, hWi.old hy hF, hS, hm2⟩)
      · rintro Δ M ⟨F, Wk, s6, s7, rfl, rfl, hWi, hS, hm2⟩
        exact hs_nil ⟨_, hm2, F, Wk, _, _, _, rfl, rfl, hWi.done, hS, rfl, by omega⟩
    · have hWk : Wk = [] := by cases Wk <;> simp_all
      subst hWk
      refine hs_cons (ht_ret (ev_sortedT hu64 (ex_ref 3 rfl) (j := 1) rfl (by rw [encs_set]; exact mv_alike F) (by rw [encs_set]; exact mv_sortable F) ms') ?_)
      show PyData.list _ = PyData.list _
      rw [sorted_reached (fun _ _ => mvK_inj) (mv_sorted n h1 h3) hW hS]
      rfl
end
end Ck
end Ck7Part

/-! ## CkM3 -/
section CkM3Part
set_option linter.all false
set_option maxRecDepth 100000
set_option maxHeartbeats 4000000
/-! Orbits: they part the places. -/
namespace CkM
open Ck
def iter (n : Nat) (m : Mv) : Nat → Pl → Pl
  | 0, p => p
  | k + 1, p => iter n m k (led n m p)
theorem iter_rch {n : Nat} {ms : List Mv} {m : Mv} (hm : m ∈ ms) : ∀ (k : Nat) (p : Pl), Rch (stepP n) ms p (iter n m k p)
  | 0, p => .base
  | k + 1, p => (Rch.one (step := stepP n) hm).trans (iter_rch hm k (led n m p))
theorem led_twelve : ∀ n : Nat, 1 ≤ n → n ≤ 3 → ∀ m ∈ allMv n, ∀ p ∈ allPl n, iter n m 12 p = p := by
  intro n h1 h3
  have : n = 1 ∨ n = 2 ∨ n = 3 := by omega
  rcases this with rfl | rfl | rfl <;> decide +kernel
/-- a side and movements of it -/
structure Sd (n : Nat) (ms : List Mv) : Prop where
  h1 : 1 ≤ n
  h3 : n ≤ 3
  hm : ∀ m ∈ ms, m ∈ allMv n
section
variable {n : Nat} {ms : List Mv} {p q : Pl}
theorem Sd.mem (S : Sd n ms) (hp : p ∈ allPl n) (h : Rch (stepP n) ms p q) : q ∈ allPl n := h.inv (· ∈ allPl n) hp fun x g _ _ => led_mem (by have := S.h1; omega) g x
theorem Sd.sym (S : Sd n ms) (hp : p ∈ allPl n) (h : Rch (stepP n) ms p q) : Rch (stepP n) ms q p := by
  induction h with
  | base => exact .base
  | @step x g hx hg ih =>
    have h12 := led_twelve n S.h1 S.h3 g (S.hm g hg) x (S.mem hp hx)
    have : Rch (stepP n) ms (led n g x) x := by
      have := iter_rch (n := n) hg 11 (led n g x)
      have e : iter n g 11 (led n g x) = iter n g 12 x := rfl
      rw [e, h12] at this
      exact this
    exact this.trans ih
theorem mem_orbit (S : Sd n ms) (hp : p ∈ allPl n) : q ∈ orbit n ms p ↔ Rch (stepP n) ms p q := by
  unfold orbit
  rw [mem_reached]
  exact ⟨fun h => h.2, fun h => ⟨S.mem hp h, h⟩⟩
theorem orbit_sub (h : q ∈ orbit n ms p) : q ∈ allPl n := (mem_reached.mp h).1
theorem orbit_self (S : Sd n ms) (hp : p ∈ allPl n) : p ∈ orbit n ms p := (mem_orbit S hp).mpr .base
theorem orbit_eq (S : Sd n ms) (hp : p ∈ allPl n) (h : q ∈ orbit n ms p) : orbit n ms q = orbit n ms p := by
  have hq := orbit_sub h
  rw [mem_orbit S hp] at h
  unfold orbit
  exact reached_congr fun y _ => ⟨fun r => h.trans r, fun r => (S.sym hp h).trans r⟩
theorem orbit_nodup (S : Sd n ms) : (orbit n ms p).Nodup := (pl_nodup S.h1 S.h3).sublist List.filter_sublist
noncomputable def isFirst (n : Nat) (ms : List Mv) (p : Pl) : Bool := @decide ((orbit n ms p).head? = some p) (Classical.propDecidable _)
theorem isFirst_iff : isFirst n ms p = true ↔ (orbit n ms p).head? = some p := by unfold isFirst; simp
noncomputable def firsts (n : Nat) (ms : List Mv) : List Pl := (allPl n).filter (isFirst n ms)
noncomputable def circlesL (n : Nat) (ms : List Mv) : List (List Pl) := (firsts n ms).map (orbit n ms)
/-- x stands ahead of y -/
def ahead (x y : Pl) : Prop := leK (plK y) (plK x) = false
theorem ahead_asym (h : ahead p q) (h' : ahead q p) : False := by
  unfold ahead at h h'
  rcases leK_total.total (plK p) (plK q) with z | z
  · rw [h'] at z; cases z
  · rw [h] at z; cases z
theorem orbit_order (S : Sd n ms) : (orbit n ms p).Pairwise ahead := (pl_sorted n S.h1 S.h3).sublist List.filter_sublist
theorem at_ahead (S : Sd n ms) {i j : Nat} (hi : (allPl n)[i]? = some p) (hj : (allPl n)[j]? = some q) (h : i < j) : ahead p q := by
  have := pl_sorted n S.h1 S.h3
  rw [List.pairwise_iff_getElem] at this
  obtain ⟨li, rfl⟩ := List.getElem?_eq_some_iff.mp hi
  obtain ⟨lj, rfl⟩ := List.getElem?_eq_some_iff.mp hj
  exact this i j li lj h
/-- the head of an orbit -/
theorem head_first (S : Sd n ms) (hp : p ∈ allPl n) : ∃ q, (orbit n ms p).head? = some q ∧ q ∈ orbit n ms p ∧ isFirst n ms q = true ∧ p ∈ orbit n ms q := by
  have hs := orbit_self S hp
  cases e : orbit n ms p with
  | nil => rw [e] at hs; cases hs
  | cons q l =>
    have hq : q ∈ orbit n ms p := by rw [e]; exact List.mem_cons_self
    have eq := orbit_eq S hp hq
    refine ⟨q, rfl, List.mem_cons_self, ?_, ?_⟩
    · rw [isFirst_iff, eq, e]; rfl
    · rw [eq]; exact hs
theorem first_unique (S : Sd n ms) {x y : Pl} (hx : x ∈ allPl n) (hy : y ∈ allPl n) (fx : isFirst n ms x = true) (fy : isFirst n ms y = true) (h : y ∈ orbit n ms x) : x = y := by
  rw [isFirst_iff] at fx fy
  rw [orbit_eq S hx h, fx] at fy
  exact Option.some.inj fy
/-- a place is first just where none of the first ones ahead of it reaches it -/
theorem first_iff (S : Sd n ms) {k : Nat} (hk : (allPl n)[k]? = some p) : isFirst n ms p = true ↔ ∀ q ∈ ((allPl n).take k).filter (isFirst n ms), p ∉ orbit n ms q := by
  have hp : p ∈ allPl n := List.mem_of_getElem? hk
  have nd := pl_nodup S.h1 S.h3
  constructor
  · intro h q hq hmem
    rw [List.mem_filter] at hq
    have e := first_unique S (List.mem_of_mem_take hq.1) hp hq.2 h hmem
    subst e
    obtain ⟨j, hj, e⟩ := List.mem_take_iff_getElem.mp hq.1
    have : (allPl n)[j]? = some q := by rw [← e]; exact List.getElem?_eq_getElem (by omega)
    have := L2.nd_ix nd this hk
    omega
  · intro h
    obtain ⟨q, h1, h2, h3, h4⟩ := head_first S hp
    by_cases e : q = p
    · subst e; exact h3
    · exfalso
      have hq := orbit_sub h2
      obtain ⟨j, hj⟩ := List.mem_iff_getElem?.mp hq
      -- q stands ahead of p in p's orbit
      have hqp : ahead q p := by
        have ho := orbit_order (p := p) S
        cases eo : orbit n ms p with
        | nil => rw [eo] at h2; cases h2
        | cons z l =>
          rw [eo] at h1 ho
          have hz : z = q := Option.some.inj h1
          subst hz
          have hs := orbit_self S hp
          rw [eo] at hs
          rcases List.mem_cons.mp hs with e' | hs
          · exact absurd e'.symm e
          · exact (List.pairwise_cons.mp ho).1 p hs
      have hjk : j < k := by
        rcases Nat.lt_trichotomy j k with z | z | z
        · exact z
        · subst z; rw [hj] at hk; exact absurd (Option.some.inj hk) e
        · exact (ahead_asym hqp (at_ahead S hk hj z)).elim
      refine h q ?_ h4
      rw [List.mem_filter]
      refine ⟨List.mem_take_iff_getElem.mpr ⟨j, ?_, ?_⟩, h3⟩
      · have := (List.getElem?_eq_some_iff.mp hj).1
        omega
      · exact (List.getElem?_eq_some_iff.mp hj).2
/-- orbits of two first places have nothing together -/
theorem first_apart (S : Sd n ms) {x y z : Pl} (hx : x ∈ allPl n) (hy : y ∈ allPl n) (fx : isFirst n ms x = true) (fy : isFirst n ms y = true) (h1 : z ∈ orbit n ms x) (h2 : z ∈ orbit n ms y) : x = y := by
  have e1 := orbit_eq S hx h1
  have e2 := orbit_eq S hy h2
  refine first_unique S hx hy fx fy ?_
  rw [← e1, e2]
  exact orbit_self S hy
end
end CkM
end CkM3Part

/-! ## Ck8 -/
section Ck8Part
set_option Elab.async false
set_option linter.all false
set_option maxRecDepth 100000
set_option maxHeartbeats 4000000
/-! circles. -/
namespace Ck
open PySem PySem.Spec PyProof.Rows L2 CkM
local macro_rules | `(tactic| walk_at "nf") => `(tactic| dsimp only [List.set_cons_zero, List.set_cons_succ, List.length_cons, List.length_nil, List.replicate_succ, List.cons_append, List.nil_append, List.replicate_zero, List.append_nil, Nat.reduceSub, Nat.reduceAdd])
local macro_rules | `(tactic| walk_at "len") => `(tactic| exact small_len (Nat.le_of_ble_eq_true rfl))
def clD (c : List Pl) : PyData := .list (c.map plD)
theorem allPl_get {n i j : Nat} (hi : i < n) (hj : j < n) : (allPl n)[i * n + j]? = some ((i : Int), (j : Int)) := by
  have row : ∀ r : Nat, ((List.range n).map fun (c : Nat) => ((r : Int), (c : Int))).length = n := fun r => by rw [List.length_map, List.length_range]
  have aux : ∀ (l : List Nat) (i : Nat) (r : Nat), l[i]? = some r → (l.flatMap fun (r : Nat) => (List.range n).map fun (c : Nat) => ((r : Int), (c : Int)))[i * n + j]? = some ((r : Int), (j : Int)) := by
    intro l
    induction l with
    | nil => intro i r h; simp at h
    | cons a l ih =>
      intro i r h
      rw [List.flatMap_cons]
      cases i with
      | zero =>
        have e : a = r := Option.some.inj h
        subst e
        rw [Nat.zero_mul, Nat.zero_add, List.getElem?_append_left (by rw [row]; exact hj), List.getElem?_map, List.getElem?_range hj]
        rfl
      | succ i =>
        rw [List.getElem?_append_right (by rw [row, Nat.succ_mul]; omega), row, Nat.succ_mul]
        have : i * n + n + j - n = i * n + j := by omega
        rw [this]
        exact ih i r h
  exact aux (List.range n) i i (List.getElem?_range hi)
noncomputable def seenL (n : Nat) (ms : List Mv) (k : Nat) : List Pl := (((allPl n).take k).filter (isFirst n ms)).flatMap (orbit n ms)
noncomputable def foundL (n : Nat) (ms : List Mv) (k : Nat) : List (List Pl) := (((allPl n).take k).filter (isFirst n ms)).map (orbit n ms)
section
variable {n : Nat} {ms : List Mv} {p q : Pl} {k : Nat}
theorem take_first (hk : (allPl n)[k]? = some p) (h : isFirst n ms p = true) : ((allPl n).take (k + 1)).filter (isFirst n ms) = ((allPl n).take k).filter (isFirst n ms) ++ [p] := by
  rw [List.take_add_one, hk, List.filter_append]
  congr 1
  show List.filter _ [p] = _
  rw [List.filter_cons, if_pos h, List.filter_nil]
theorem take_other (hk : (allPl n)[k]? = some p) (h : ¬ isFirst n ms p = true) : ((allPl n).take (k + 1)).filter (isFirst n ms) = ((allPl n).take k).filter (isFirst n ms) := by
  rw [List.take_add_one, hk, List.filter_append]
  show _ ++ List.filter _ [p] = _
  rw [List.filter_cons, if_neg h, List.filter_nil, List.append_nil]
theorem seen_iff (S : Sd n ms) (hk : (allPl n)[k]? = some p) : p ∉ seenL n ms k ↔ isFirst n ms p = true := by
  rw [first_iff S hk]
  unfold seenL
  rw [List.mem_flatMap]
  exact ⟨fun h q hq hm => h ⟨q, hq, hm⟩, fun h ⟨q, hq, hm⟩ => h q hq hm⟩
theorem seen_more (hk : (allPl n)[k]? = some p) (h : isFirst n ms p = true) : seenL n ms (k + 1) = seenL n ms k ++ orbit n ms p := by
  unfold seenL
  rw [take_first hk h, List.flatMap_append]
  simp
theorem found_more (hk : (allPl n)[k]? = some p) (h : isFirst n ms p = true) : foundL n ms (k + 1) = foundL n ms k ++ [orbit n ms p] := by
  unfold foundL
  rw [take_first hk h, List.map_append]
  rfl
theorem seen_same (hk : (allPl n)[k]? = some p) (h : ¬ isFirst n ms p = true) : seenL n ms (k + 1) = seenL n ms k := by unfold seenL; rw [take_other hk h]
theorem found_same (hk : (allPl n)[k]? = some p) (h : ¬ isFirst n ms p = true) : foundL n ms (k + 1) = foundL n ms k := by unfold foundL; rw [take_other hk h]
theorem new_place (S : Sd n ms) (hk : (allPl n)[k]? = some p) (h : isFirst n ms p = true) {t : Nat} (ht : (orbit n ms p)[t]? = some q) : q ∉ seenL n ms k ++ (orbit n ms p).take t := by
  have hp : p ∈ allPl n := List.mem_of_getElem? hk
  have hq : q ∈ orbit n ms p := List.mem_of_getElem? ht
  rw [List.mem_append, not_or]
  constructor
  · intro hm
    unfold seenL at hm
    obtain ⟨x, hx, hxq⟩ := List.mem_flatMap.mp hm
    rw [List.mem_filter] at hx
    have e := first_apart S (List.mem_of_mem_take hx.1) hp hx.2 h hxq hq
    subst e
    have := (first_iff S hk).mp h x (List.mem_filter.mpr hx)
    exact this (orbit_self S hp)
  · intro hm
    obtain ⟨j, hj, e⟩ := List.mem_take_iff_getElem.mp hm
    have : (orbit n ms p)[j]? = some q := by rw [← e]; exact List.getElem?_eq_getElem (by omega)
    have := nd_ix (orbit_nodup (p := p) S) this ht
    omega
theorem seen_len (S : Sd n ms) (hk : (allPl n)[k]? = some p) (h : isFirst n ms p = true) : ∀ t : Nat, t ≤ (orbit n ms p).length → (seenL n ms k).Nodup → (seenL n ms k ++ (orbit n ms p).take t).Nodup
  | 0, _, h0 => by simpa using h0
  | t + 1, ht, h0 => by
    have ih := seen_len S hk h t (by omega) h0
    obtain ⟨q, hq⟩ : ∃ q, (orbit n ms p)[t]? = some q := ⟨_, List.getElem?_eq_getElem (by omega)⟩
    rw [take_succ' hq, ← List.append_assoc, List.nodup_append]
    refine ⟨ih, by simp, fun u hu v hv e => ?_⟩
    rw [List.mem_singleton] at hv
    subst e hv
    exact new_place S hk h hq hu
theorem seen_nodup (S : Sd n ms) : ∀ k : Nat, (seenL n ms k).Nodup
  | 0 => by simp [seenL]
  | k + 1 => by
    have ih := seen_nodup S k
    cases e : (allPl n)[k]? with
    | none =>
      have : (allPl n).take (k + 1) = (allPl n).take k := by rw [List.take_add_one, e]; simp
      unfold seenL
      rw [this]
      exact ih
    | some p =>
      by_cases h : isFirst n ms p = true
      · rw [seen_more e h]
        have := seen_len S e h _ (Nat.le_refl _) ih
        rwa [List.take_length] at this
      · rw [seen_same e h]; exact ih
theorem seen_sub (S : Sd n ms) : ∀ x ∈ seenL n ms k, x ∈ allPl n := fun x hx => by
  unfold seenL at hx
  obtain ⟨q, _, hq⟩ := List.mem_flatMap.mp hx
  exact orbit_sub hq
theorem found_all (hk : (allPl n).length ≤ k) : foundL n ms k = circlesL n ms := by
  unfold foundL circlesL firsts
  rw [List.take_of_length_le hk]
end
section
variable {P : Program} {w : World} {K : PySem.W.Frag} {mg : Str → Option Value} {base : Heap}
def RCircles (S : List Sv) (d : PyData) : Prop := ∃ (n : Nat) (ms : List Mv), S = [.dat (.int n), .dat (.list (ms.map mvD))] ∧ Sd n ms ∧ d = .list ((circlesL n ms).map clD)

theorem ok_circles {f : Addr} {fd : FuncData} {k : Nat} (F : Fun K "circles" "circles" sCircles f fd) (CC : CalK P w K mg base k "circle_from" pCircleFrom RCircleFrom) (mr : mg "range" = none) : FnOk P w K mg base CX0 (k + 1) f fd pCircles (SpD K RCircles) := by
  refine fn_ok F scCircles (fun S d h => ?_) fun A hr S d h => ?_
  · obtain ⟨n, ms, rfl, _⟩ := h
    rfl
  · obtain ⟨n, ms, rfl, S, rfl⟩ := h
    have nd := scCircles.nd
    have hu := hu_of hr
    have hu64 := hr.units
    have h1 := S.h1
    have h3 := S.h3
    have hnn : n * n ≤ 9 := Nat.mul_le_mul h3 h3
    walk_at "nf"
    refine hs_cons (ht_newT 2 nd fun o1 => ?_)
    walk_at "nf"
    refine hs_cons (ht_newL 3 nd (ds := []) eas_nil (fun o2 => ?_))
    walk_at "nf"
    refine hs_cons (ht_for (xs := List.range n) (g := fun (k : Nat) => PyData.int (k : Int)) (fun i Δ M => ∃ s4 s5 s6 s7, Δ = [.dat (.int n), .dat (.list (ms.map mvD)), .ref o1, .ref o2, s4, s5, s6, s7] ∧ M = [(o2, .lst ((foundL n ms (i * n)).map clD)), (o1, .dT (setD plK (seenL n ms (i * n))))]) (it_range1 (ev_v slot0 rfl) (by omega) mr) ⟨.non, .non, .non, .non, rfl, by rw [Nat.zero_mul]; rfl⟩ ?_ ?_)
    · rintro i y Δ M hy ⟨s4, s5, s6, s7, rfl, rfl⟩
      have hi : i < n := by have := (List.getElem?_eq_some_iff.mp hy).1; rwa [List.length_range] at this
      have ey : y = i := by rw [List.getElem?_range hi] at hy; exact (Option.some.inj hy).symm
      subst ey
      refine ⟨_, _, tg_name 4 nd, ?_⟩
      walk_at "nf"
      refine hs_cons (ht_for (xs := List.range n) (g := fun (k : Nat) => PyData.int (k : Int)) (fun j Δ M => ∃ s5 s6 s7, Δ = [.dat (.int n), .dat (.list (ms.map mvD)), .ref o1, .ref o2, .dat (.int y), s5, s6, s7] ∧ M = [(o2, .lst ((foundL n ms (y * n + j)).map clD)), (o1, .dT (setD plK (seenL n ms (y * n + j))))]) (it_range1 (ev_v slot0 rfl) (by omega) mr) ⟨s5, s6, s7, rfl, rfl⟩ ?_ ?_)
      · rintro j c Δ M hc ⟨s5, s6, s7, rfl, rfl⟩
        have hj : j < n := by have := (List.getElem?_eq_some_iff.mp hc).1; rwa [List.length_range] at this
        have ec : c = j := by rw [List.getElem?_range hj] at hc; exact (Option.some.inj hc).symm
        subst ec
        have hk := allPl_get hi hj
        generalize hkk : y * n + c = kk at *
        refine ⟨_, _, tg_name 5 nd, ?_⟩
        walk_at "nf"
        have hp : ((y : Int), (c : Int)) ∈ allPl n := List.mem_of_getElem? hk
        have hkl : kk < n * n := by have := (List.getElem?_eq_some_iff.mp hk).1; rwa [len_pl] at this
        have hfl : (foundL n ms kk).length ≤ 9 := by
          unfold foundL
          rw [List.length_map]
          have := List.length_filter_le (isFirst n ms) ((allPl n).take kk)
          rw [List.length_take] at this
          omega
        refine hs_cons (ht_if (et_ninT hu (ks := plK ((y : Int), (c : Int))) (ev_tup (eas_cons (ev_v slot4 rfl) (eas_cons (ev_v slot5 rfl) eas_nil (by intro _; rfl)) (by intro _; rfl)) (by walk_at "len")) (ex_ref 2 rfl) (j := 1) rfl) (fun hb => ?_) (fun hb => ?_))
        · have hF : ((y : Int), (c : Int)) ∉ seenL n ms kk := by simpa [valD_set (fun _ _ => plK_inj)] using hb
          have hfirst := (seen_iff S hk).mp hF
          refine hs_cons (ht_set 6 nd (ev_call (k := k) CC hr (ea_cons (ev_v slot0 rfl) (ea_cons (ev_v slot1 rfl) (ea_cons (ev_tup (eas_cons (ev_v slot4 rfl) (eas_cons (ev_v slot5 rfl) eas_nil (by intro _; rfl)) (by intro _; rfl)) (by walk_at "len")) ea_nil))) ⟨n, ms, ((y : Int), (c : Int)), rfl, h1, h3, hp, rfl⟩) ?_)
          walk_at "nf"
          refine hs_cons (ht_app 0 (ex_ref 3 rfl) rfl (ev_v slot6 rfl) (by rw [List.length_map]; omega) ?_)
          walk_at "nf"
          refine hs_cons (ht_for (xs := orbit n ms ((y : Int), (c : Int))) (g := plD) (fun t Δ M => ∃ s7, Δ = [.dat (.int n), .dat (.list (ms.map mvD)), .ref o1, .ref o2, .dat (.int y), .dat (.int c), .dat (clD (orbit n ms ((y : Int), (c : Int)))), s7] ∧ M = [(o2, .lst ((foundL n ms (kk + 1)).map clD)), (o1, .dT (setD plK (seenL n ms kk ++ (orbit n ms ((y : Int), (c : Int))).take t)))]) (it_list (ev_v slot6 rfl)) ⟨s7, rfl, ?_⟩ ?_ ?_)
          · rw [found_more hk hfirst, List.map_append, List.take_zero, List.append_nil]
            rfl
          · rintro t q Δ M hq ⟨s7, rfl, rfl⟩
            refine ⟨_, _, tg_name 7 nd, ?_⟩
            walk_at "nf"
            have hnew := new_place S hk hfirst hq
            have hlen : (seenL n ms kk ++ (orbit n ms ((y : Int), (c : Int))).take t).length ≤ n * n := by
              rw [← len_pl]
              refine (seen_len S hk hfirst t (by have := (List.getElem?_eq_some_iff.mp hq).1; omega) (seen_nodup S kk)).length_le_of_subset fun z hz => ?_
              rcases List.mem_append.mp hz with h | h
              · exact seen_sub S z h
              · exact orbit_sub (List.mem_of_mem_take h)
            refine hs_cons (ht_putT 1 hu ev_bl (ex_ref 2 rfl) rfl (ks := plK q) (ev_v slot7 rfl) (by rw [setD, List.length_map]; omega) ?_)
            walk_at "nf"
            rw [putD_set (fun _ _ => plK_inj) hnew]
            refine hs_nil ⟨_, rfl, ?_⟩
            rw [take_succ' hq, List.append_assoc]
          · rintro Δ M ⟨s7, rfl, rfl⟩
            refine hs_nil (hs_nil ⟨_, _, _, rfl, ?_⟩)
            rw [List.take_length, ← seen_more hk hfirst, ← hkk, Nat.add_assoc]
        · have hF : ((y : Int), (c : Int)) ∈ seenL n ms kk := by simpa [valD_set (fun _ _ => plK_inj)] using hb
          have hfirst : ¬ isFirst n ms ((y : Int), (c : Int)) = true := fun z => (seen_iff S hk).mpr z hF
          refine hs_nil (hs_nil ⟨_, _, _, rfl, ?_⟩)
          rw [← Nat.add_assoc, hkk, seen_same hk hfirst, found_same hk hfirst]
      · rintro Δ M ⟨s5, s6, s7, rfl, rfl⟩
        refine hs_nil ⟨_, _, _, _, rfl, ?_⟩
        rw [List.length_range, Nat.succ_mul]
    · rintro Δ M ⟨s4, s5, s6, s7, rfl, rfl⟩
      refine hs_cons (ht_retM 3 0 rfl rfl slot3 (k := ?_))
      show PyData.list _ = PyData.list _
      rw [List.length_range, found_all (by rw [len_pl]; exact Nat.le_refl _)]
end
end Ck
end Ck8Part

/-! ## Ck9 -/
section Ck9Part
set_option Elab.async false
set_option linter.all false
set_option maxRecDepth 100000
set_option maxHeartbeats 4000000
/-! Dicts that are done: values(), max, list, a look, the keys whose value is the one wanted. -/
namespace Ck
open PySem PySem.Spec PyProof.Rows L2
theorem map_inj {α β : Type} {f : α → β} (hf : ∀ x y, f x = f y → x = y) : ∀ {l m : List α}, l.map f = m.map f → l = m
  | [], [], _ => rfl
  | [], _ :: _, h => by cases h
  | _ :: _, [], h => by cases h
  | a :: l, b :: m, h => by
    rw [List.map_cons, List.map_cons] at h
    injection h with h1 h2
    rw [hf _ _ h1, map_inj hf h2]
theorem kD_inj {a b : Key} (h : kD a = kD b) : a = b := by
  cases a <;> cases b <;> simp [kD] at h <;> rw [h]
theorem kDs_inj {a b : List Key} (h : a.map kD = b.map kD) : a = b := map_inj (fun _ _ => kD_inj) h
theorem Dt.dK_eq {G : Hp} {v : V} {kvs : List (Key × Int)} (h : Dt G v (dictK kvs)) : ∃ a, v = .ref a ∧ G a = some (.dK (kvs.map fun kv => (kv.1, V.int kv.2))) := by
  unfold dictK at h
  generalize e : (PyData.dict ((PyData.int 0, PyData.none) :: kvs.map fun kv => (kD kv.1, PyData.int kv.2))) = D at h
  cases h with
  | dK g =>
    rename_i a kvs'
    injection e with e
    injection e with _ e
    have : kvs = kvs' := map_inj (fun x y h => by
      injection h with h1 h2
      exact Prod.ext (kD_inj h1) (PyData.int.inj h2)) e
    subst this
    exact ⟨_, rfl, g⟩
  | dT g => injection e with e; injection e with e _; injection e with e _; injection e with e; exact absurd e (by decide)
  | fK g => injection e with e; injection e with e _; injection e with e _; injection e with e; exact absurd e (by decide)
  | rf a => injection e with e; injection e with e _; injection e with e _; injection e with e; exact absurd e (by decide)
  | _ => cases e
theorem Dt.dT_eq {G : Hp} {v : V} {kvs : List (List Key × Str)} (h : Dt G v (dictT kvs)) : ∃ a, v = .ref a ∧ G a = some (.dT (kvs.map fun kv => (kv.1, V.str kv.2))) := by
  unfold dictT at h
  generalize e : (PyData.dict ((PyData.int 1, PyData.none) :: kvs.map fun kv => (PyData.tuple (kv.1.map kD), PyData.str kv.2))) = D at h
  cases h with
  | dT g =>
    rename_i a kvs'
    injection e with e
    injection e with _ e
    have : kvs = kvs' := map_inj (fun x y h => by
      injection h with h1 h2
      exact Prod.ext (kDs_inj (PyData.tuple.inj h1)) (PyData.str.inj h2)) e
    subst this
    exact ⟨_, rfl, g⟩
  | dK g => injection e with e; injection e with e _; injection e with e _; injection e with e; exact absurd e (by decide)
  | fK g => injection e with e; injection e with e _; injection e with e _; injection e with e; exact absurd e (by decide)
  | rf a => injection e with e; injection e with e _; injection e with e _; injection e with e; exact absurd e (by decide)
  | _ => cases e
theorem Dt.fK_eq {G : Hp} {v : V} {kvs : List (Key × Int)} (h : Dt G v (dictF kvs)) : ∃ a o, v = .ref a ∧ G a = some (.frz o (.dK (kvs.map fun kv => (kv.1, V.int kv.2)))) := by
  unfold dictF at h
  generalize e : (PyData.dict ((PyData.int 2, PyData.none) :: kvs.map fun kv => (kD kv.1, PyData.int kv.2))) = D at h
  cases h with
  | fK g =>
    rename_i a o kvs'
    injection e with e
    injection e with _ e
    have : kvs = kvs' := map_inj (fun x y h => by
      injection h with h1 h2
      exact Prod.ext (kD_inj h1) (PyData.int.inj h2)) e
    subst this
    exact ⟨_, _, rfl, g⟩
  | dT g => injection e with e; injection e with e _; injection e with e _; injection e with e; exact absurd e (by decide)
  | dK g => injection e with e; injection e with e _; injection e with e _; injection e with e; exact absurd e (by decide)
  | rf a => injection e with e; injection e with e _; injection e with e _; injection e with e; exact absurd e (by decide)
  | _ => cases e
theorem Dt.rf_eq {G : Hp} {v : V} {a : Addr} (h : Dt G v (refD a)) : v = .ref a := by
  unfold refD at h
  generalize e : (PyData.dict [(PyData.int 3, PyData.none), (PyData.int (a : Int), PyData.none)]) = D at h
  cases h with
  | rf b =>
    injection e with e
    injection e with _ e
    injection e with e _
    injection e with e _
    injection e with e
    rw [Int.ofNat.inj e]
  | dK g => injection e with e; injection e with e _; injection e with e _; injection e with e; exact absurd e (by decide)
  | dT g => injection e with e; injection e with e _; injection e with e _; injection e with e; exact absurd e (by decide)
  | fK g => injection e with e; injection e with e _; injection e with e _; injection e with e; exact absurd e (by decide)
  | _ => cases e
/-- the view d.values() at p -/
def valuesO (p d : Addr) : HO := .ext fun h => h.IsValuesView p d
theorem valuesO_ok {P : Program} {w : World} {H : Hp} {h : Heap} {p d : Addr} (e : h.get? p = some { cls := .type "dict_values", data := .fields #[.ref d] }) : ObjOk P w H h p (valuesO p d) :=
  ⟨⟨_, e, rfl, rfl⟩, ⟨_, e⟩, fun h1 h2 x k => let ⟨o, ho, r⟩ := x; ⟨o, k o ho, r⟩⟩
section
variable {X : Cx}
def rValues : V → List V → Hp → VK → Prop := fun x xs H Q => ∃ (a : Addr) (kvs : List (Key × V)), x = .ref a ∧ xs = [] ∧ H a = some (.dK kvs) ∧ ∀ p, H p = none → Q (.ref p) (upd H p (valuesO p a))
theorem mt_values : MtR X "dict.values" rValues := by
  intro pins s σ H x xs v us Q I rx rxs h
  obtain ⟨a, kvs, rfl, rfl, ha, q⟩ := h
  cases rx
  cases rxs
  obtain ⟨z, hd, vs, rel, dd⟩ := dk_of I.hok ha
  obtain ⟨es, ep, raw, _, _⟩ := dd.raw
  refine call_meetsIn PySem.F.slot_dict_values raw.typeIs PySem.F.entry_dict_values (PySem.F.args_dict_values_1 _) (meets_dict_values_raw a hd) ⟨⟨es, ep, raw⟩, ?_⟩
  have hf : H s.heap.objs.size = none := I.hok.fresh (Nat.le_refl _)
  exact ⟨.ref s.heap.objs.size, upd H s.heap.objs.size (valuesO s.heap.objs.size a), I.laid (t' := s.toks) (fun b u e => Heap.get?_push_of_some _ e) (Nat.le_refl _) (valuesO_ok (Heap.get?_push_size _ rfl)), rfl, q _ hf⟩
def rMaxV : List V → Hp → VK → Prop := fun xs H Q => ∃ (p a : Addr) (kvs : List (Key × Int)), xs = [.ref p] ∧ H p = some (valuesO p a) ∧ H a = some (.dK (kvs.map fun kv => (kv.1, V.int kv.2))) ∧ 0 < kvs.length ∧ ∀ m, m ∈ kvs.map (·.2) → (∀ y, y ∈ kvs.map (·.2) → y ≤ m) → Q (.int m) H
theorem cr_maxV (hc : X.calm = true) : CallR X (.builtin "max") rMaxV := by
  intro pins s σ H xs us Q I rx h
  obtain ⟨p, a, kvs, rfl, hp, hd, hne, q⟩ := h
  rw [Vals.ref1 rx]
  obtain ⟨z, lo, vs, rel, dd⟩ := dk_of I.hok hd
  obtain ⟨es, ep, raw, hsz, hes⟩ := dd.raw
  have hlen : kvs.length = vs.length := by have := rel.length; rwa [List.length_map] at this
  have hv : s.heap.IsValuesView p a := (show ObjOk X.prog X.w H s.heap p (valuesO p a) from I.hok p _ hp).1
  have ha : a < s.heap.objs.size := raw.lt_size
  have hval : ∀ (i : Nat) (v : Value), (∃ hi : i < es.size, v = es[i].val) → ∃ t, v = .int ((kvs.map (·.2)).getD i 0) t := fun i v ⟨hi, e⟩ => by
    have hi2 : i < vs.length := by omega
    have hi3 : i < kvs.length := by omega
    obtain ⟨_, e2⟩ := hes i hi vs[i].1 vs[i].2 (List.getElem?_eq_getElem hi2)
    have hx : (kvs.map fun kv => (kv.1, V.int kv.2))[i]? = some (kvs[i].1, V.int kvs[i].2) := by rw [List.getElem?_map, List.getElem?_eq_getElem hi3]; rfl
    obtain ⟨y, y1, y2⟩ : ∃ y, vs[i]? = some y ∧ RelV (V.int kvs[i].2) y.2 := by
      have aux : ∀ {l : List (Key × V)} {m : List (Key × Value)} {i : Nat} {x : Key × V}, KV l m → l[i]? = some x → ∃ y, m[i]? = some y ∧ RelV x.2 y.2 := by
        intro l m i x r
        unfold KV at r
        induction r generalizing i with
        | nil => intro h; simp at h
        | cons h t ih =>
          cases i with
          | zero => intro e; cases e; exact ⟨_, rfl, h.2⟩
          | succ i => intro e; exact ih e
      exact aux rel hx
    rw [List.getElem?_eq_getElem hi2] at y1
    cases y1
    obtain ⟨t, et⟩ := y2
    refine ⟨t, ?_⟩
    rw [e, e2, et, List.getD_eq_getElem?_getD, List.getElem?_map, List.getElem?_eq_getElem hi3]
    rfl
  refine call_max_walk ?_
  refine wpAny_pyIter_values_raw hv raw ?_
  refine ⟨s.heap.objs.size, [s.heap.objs.size, a], [s.heap.objs.size], es.size, _, _, fun i j => decide ((kvs.map (·.2)).getD i 0 > (kvs.map (·.2)).getD j 0), rfl, Walks.rawValues (A := X.A.in1) (show X.A.in1.handled = none from I.ok.hd hc) s.heap.objs.size a (Nat.ne_of_lt ha) es ep, ⟨⟨_, Heap.get?_push_size _ rfl, rfl, rfl⟩, raw.at fun o e => Heap.get?_push_of_some _ e⟩, fun b hb => ?_, by omega, CmpOf.ints_gt (fun i => (kvs.map (·.2)).getD i 0) hval, fun v h' tk hv' hk => ?_⟩
  · show b < (s.heap.push _).objs.size
    rw [size_push']
    rcases List.mem_cons.mp hb with z | z
    · rw [z]; exact Nat.lt_succ_self _
    · rw [List.mem_singleton.mp z]; exact Nat.lt_succ_of_lt ha
  · obtain ⟨t, rfl⟩ := hval _ _ hv'
    obtain ⟨m1, m2⟩ := argBest_gt (fun i => (kvs.map (·.2)).getD i 0) (es.size - 1)
    have hk2 : ∀ b o, s.heap.get? b = some o → h'.get? b = some o := fun b o e => hk b o (fun z => by rw [List.mem_singleton.mp z] at e; exact absurd (Heap.lt_size e) (Nat.lt_irrefl _)) (Heap.get?_push_of_some _ e)
    refine ⟨.int _, H, I.kept (t' := tk) hk2, ⟨t, rfl⟩, q _ (PySem.getD_mem (by rw [List.length_map]; omega)) fun y hy => ?_⟩
    obtain ⟨j, hj, e⟩ := List.mem_iff_getElem.mp hy
    rw [List.length_map] at hj
    have z := m2 j (by omega)
    have e3 : (kvs.map (·.2)).getD j 0 = y := by rw [List.getD_eq_getElem?_getD, List.getElem?_eq_getElem (by rw [List.length_map]; exact hj), ← e]; rfl
    simp only [e3] at z
    exact z
/-- list(d.values()) -/
def rListV : List V → Hp → VK → Prop := fun xs H Q => ∃ (p a : Addr) (kvs : List (Key × V)), xs = [.ref p] ∧ H p = some (valuesO p a) ∧ H a = some (.dK kvs) ∧ ∀ l, H l = none → Q (.ref l) (upd H l (.lst (kvs.map (·.2))))
theorem cr_listV (hc : X.calm = true) : CallR X (.type "list") rListV := by
  intro pins s σ H xs us Q I rx h
  obtain ⟨p, a, kvs, rfl, hp, hd, q⟩ := h
  rw [Vals.ref1 rx]
  obtain ⟨z, lo, vs, rel, dd⟩ := dk_of I.hok hd
  obtain ⟨es, ep, raw, hsz, hes⟩ := dd.raw
  have hlen : kvs.length = vs.length := rel.length
  have hv : s.heap.IsValuesView p a := (show ObjOk X.prog X.w H s.heap p (valuesO p a) from I.hok p _ hp).1
  refine PySem.W.kdl_call (KdlSrc.rawValues (es := es) (ep := ep)) (I.ok.hd hc) ⟨hv, raw⟩ (by rw [hsz, ← hlen]; exact z) fun h' tk acc c' hk hD hacc => ?_
  have hvals : Vals (kvs.map (·.2)) acc.toList := by
    have aux : ∀ {l : List (Key × V)} {m : List (Key × Value)}, KV l m → Vals (l.map (·.2)) (m.map (·.2)) := by
      intro l m r
      unfold KV at r
      induction r with
      | nil => exact .nil
      | cons h t ih => exact .cons h.2 ih
    have e : acc.toList = vs.map (·.2) := by
      refine List.ext_getElem (by rw [Array.length_toList, hacc.1, hsz, List.length_map]) fun j h1 h2 => ?_
      rw [List.length_map] at h2
      obtain ⟨hi, e1⟩ := hacc.2 j acc.toList[j] (by rw [← Array.getElem?_toList]; exact List.getElem?_eq_getElem h1)
      obtain ⟨_, e2⟩ := hes j hi vs[j].1 vs[j].2 (List.getElem?_eq_getElem h2)
      rw [e1, e2, List.getElem_map]
    rw [e]
    exact aux rel
  exact ⟨.ref s.heap.objs.size, upd H s.heap.objs.size (.lst (kvs.map (·.2))), I.laid (t' := tk) hk (Nat.le_refl _)
    (show ObjOk X.prog X.w _ _ _ (.lst (kvs.map (·.2))) from ⟨by rw [List.length_map]; exact z, acc.toList, c', hvals, by rw [Array.toArray_toList]; exact hD⟩), rfl, q _ (I.hok.fresh (Nat.le_refl _))⟩
end
section
variable {U : Vw} {Δ : List Sv} {M : MS} {E : DE} {e a b c tg it : Expr} {es : List Expr} {d da db : PyData} {ds : List PyData} {x : Str} {pos p p1 p2 : Pos} {i j : Nat} {o : Addr} {m : MO}
/-- max(e.values()) -/
theorem ev_maxValues {kvs : List (Key × Int)} {mx : Int} (he : EvD U e Δ M (dictK kvs)) (hne : 0 < kvs.length) (h1 : ∀ m, m ∈ kvs.map (·.2) → (∀ y, y ∈ kvs.map (·.2) → y ≤ m) → m = mx) (hm : U.mg "max" = none) (hg : U.sc.names.lookup ("max" : Str) = some .globalImplicit := by rfl)
    (hv : ∀ r : Cx, PE (U.cx r) (.Call (.Attribute e "values" p1) [] [] p2) (tBM0 U.K "dict" rValues (rE U e)) := by exact fun r => pe_bm0 PySem.F.plainAttrs_dict PySem.F.slot_dict_values PySem.F.type_dict_values mt_values pe_r)
    (hst : ∀ r, starEach [.Call (.Attribute e "values" p1) [] [] p2] (U.cx r).env = (false, eval (.Call (.Attribute e "values" p1) [] [] p2) (U.cx r).env) :: starEach [] (U.cx r).env := by intro _; rfl) (hc : ∀ r, (U.cx r).calm = true := by intro _; rfl) :
    EvD U (.Call (.Name "max" p) [.Call (.Attribute e "values" p1) [] [] p2] [] pos) Δ M (.int mx) := fun G0 H0 Gs G σ H st Q q =>
  ⟨_, fun r => pe_callB (X := U.cx r) (cr_maxV (hc r)) hg hm (by decide +kernel) (pa_cons (hv r) pa_nil (hst r)) (he := hst r), he G0 H0 Gs G σ H st _ fun v G1 H1 e1 hv' => by
    obtain ⟨d, rfl, g⟩ := hv'.dK_eq
    have g1 := e1.gh _ _ g
    refine ⟨.inr (.inr (.inl ⟨rfl, .inl ⟨_, g1⟩⟩)), d, _, rfl, rfl, g1, fun p hp => ?_⟩
    refine ⟨p, d, kvs, rfl, upd_same, by rw [upd_ne (ne_of_none g1 hp)]; exact g1, hne, fun m q1 q2 => ?_⟩
    rw [h1 m q1 q2]
    exact q _ G1 _ (e1.trans (.newM e1.gh hp)) (.int _)⟩
/-- max(list(e.values())) -/
theorem ev_maxListValues {kvs : List (Key × Int)} {mx : Int} (he : EvD U e Δ M (dictK kvs)) (hne : 0 < kvs.length) (h1 : ∀ m, m ∈ kvs.map (·.2) → (∀ y, y ∈ kvs.map (·.2) → y ≤ m) → m = mx) (hm : U.mg "max" = none) (hml : U.mg "list" = none) {p3 p4 : Pos} (hg : U.sc.names.lookup ("max" : Str) = some .globalImplicit := by rfl) (hg2 : U.sc.names.lookup ("list" : Str) = some .globalImplicit := by rfl)
    (hv : ∀ r : Cx, PE (U.cx r) (.Call (.Attribute e "values" p1) [] [] p2) (tBM0 U.K "dict" rValues (rE U e)) := by exact fun r => pe_bm0 PySem.F.plainAttrs_dict PySem.F.slot_dict_values PySem.F.type_dict_values mt_values pe_r)
    (hst : ∀ r, starEach [.Call (.Attribute e "values" p1) [] [] p2] (U.cx r).env = (false, eval (.Call (.Attribute e "values" p1) [] [] p2) (U.cx r).env) :: starEach [] (U.cx r).env := by intro _; rfl) (hc : ∀ r, (U.cx r).calm = true := by intro _; rfl)
    (hst2 : ∀ r, starEach [.Call (.Name "list" p3) [.Call (.Attribute e "values" p1) [] [] p2] [] p4] (U.cx r).env = (false, eval (.Call (.Name "list" p3) [.Call (.Attribute e "values" p1) [] [] p2] [] p4) (U.cx r).env) :: starEach [] (U.cx r).env := by intro _; rfl) :
    EvD U (.Call (.Name "max" p) [.Call (.Name "list" p3) [.Call (.Attribute e "values" p1) [] [] p2] [] p4] [] pos) Δ M (.int mx) := fun G0 H0 Gs G σ H st Q q =>
  ⟨tCB (rMax U.K) (tCons (tCB rListV (tCons (tBM0 U.K "dict" rValues (rE U e)) tNil)) tNil), fun r => pe_callB (X := U.cx r) (cr_max (hc r)) hg hm (by decide +kernel) (pa_cons (pe_callTy (X := U.cx r) (cr_listV (hc r)) hg2 hml (by decide +kernel) (pa_cons (hv r) pa_nil (hst r)) (he := hst r)) pa_nil (hst2 r)) (he := hst2 r), he G0 H0 Gs G σ H st _ fun v G1 H1 e1 hv' => by
    obtain ⟨d, rfl, g⟩ := hv'.dK_eq
    have g1 := e1.gh _ _ g
    refine ⟨.inr (.inr (.inl ⟨rfl, .inl ⟨_, g1⟩⟩)), d, _, rfl, rfl, g1, fun p hp => ?_⟩
    refine ⟨p, d, _, rfl, upd_same, by rw [upd_ne (ne_of_none g1 hp)]; exact g1, fun l hl => ?_⟩
    refine ⟨l, kvs.map (·.2), rfl, .of ?_, by rw [List.length_map]; exact hne, fun m q1 q2 => ?_⟩
    · rw [upd_same, List.map_map, List.map_map]
      rfl
    · rw [h1 m q1 q2]
      have e2 : Ext G1 H1 G1 (upd H1 p (valuesO p d)) := .newM e1.gh hp
      exact q _ G1 _ (e1.trans (e2.trans (.newM e2.gh hl))) (.int _)⟩
/-- e[k] -/
theorem ev_getKD {kvs : List (Key × Int)} {k : Key} {n : Int} (hu : U.A.units + 1 < cLine) (ho : EvD U a Δ M (dictK kvs)) (he : EvD U e Δ M (kD k)) (h : valV (kvs.map fun kv => (kv.1, V.int kv.2)) k = some (.int n)) (hs : NoSl e := by exact fun _ _ => rfl) : EvD U (.Subscript a e pos) Δ M (.int n) := fun G0 H0 Gs G σ H st Q q =>
  ⟨_, fun r => pe_dget (X := U.cx r) hu pe_r pe_r hs, ho G0 H0 Gs G σ H st _ fun v G1 H1 e1 hv => he G0 H0 Gs G1 σ H1 (st.grow e1) _ fun y G2 H2 e2 hy => by
    obtain ⟨d, rfl, g⟩ := hv.dK_eq
    rw [hy.key]
    exact ⟨d, .int n, rfl, by rw [← h]; exact DGet.k (e2.hh _ _ (e1.gh _ _ g)), q _ G2 H2 (e1.trans e2) (.int n)⟩⟩
theorem ev_getTD {kvs : List (List Key × Str)} {ks : List Key} {n : Str} (hu : U.A.units + 1 < cLine) (ho : EvD U a Δ M (dictT kvs)) (he : EvD U e Δ M (.tuple (ks.map kD))) (h : valV (kvs.map fun kv => (kv.1, V.str kv.2)) ks = some (.str n)) (hs : NoSl e := by exact fun _ _ => rfl) : EvD U (.Subscript a e pos) Δ M (.str n) := fun G0 H0 Gs G σ H st Q q =>
  ⟨_, fun r => pe_dget (X := U.cx r) hu pe_r pe_r hs, ho G0 H0 Gs G σ H st _ fun v G1 H1 e1 hv => he G0 H0 Gs G1 σ H1 (st.grow e1) _ fun y G2 H2 e2 hy => by
    obtain ⟨d, rfl, g⟩ := hv.dT_eq
    obtain ⟨b, rfl, hb⟩ := hy.keyTup
    exact ⟨d, .str n, rfl, by rw [← h]; exact DGet.t (e2.hh _ _ (e1.gh _ _ g)) (e2.gh _ _ hb), q _ G2 H2 (e1.trans e2) (.str n)⟩⟩
theorem KDt.ints {κ : Type} {G : Hp} : ∀ {ks : List (κ × L2.V)} {kvs : List (κ × Int)}, KDt G ks (kvs.map fun kv => (kv.1, PyData.int kv.2)) → ks = kvs.map fun kv => (kv.1, V.int kv.2)
  | _, [], h => by cases h; rfl
  | _, kv :: kvs, h => by
    cases h with
    | cons a t =>
      rw [KDt.ints t, List.map_cons]
      congr 1
      exact Prod.ext a.1 a.2.int_eq
theorem KDt.strs {κ : Type} {G : Hp} : ∀ {ks : List (κ × L2.V)} {kvs : List (κ × Str)}, KDt G ks (kvs.map fun kv => (kv.1, PyData.str kv.2)) → ks = kvs.map fun kv => (kv.1, V.str kv.2)
  | _, [], h => by cases h; rfl
  | _, kv :: kvs, h => by
    cases h with
    | cons a t =>
      rw [KDt.strs t, List.map_cons]
      congr 1
      exact Prod.ext a.1 a.2.str_eq
/-- a thing that was made is data from here on -/
theorem Sta.freezeO {K : PySem.W.Frag} {G0 H0 Gs : Hp} {Δ : List Sv} {M : MS} {G : Hp} {σ : L2.St} {H : Hp} (h : Sta K G0 H0 Gs Δ M G σ H) {i j : Nat} {o : Addr} {m : MO} {ob : HO} {d : PyData} (hi : Δ[i]? = some (.ref o)) (hj : M[j]? = some (o, m)) (hob : H o = some ob) (hd : Dt (upd G o ob) (.ref o) d) : Sta K G0 H0 Gs (Δ.set i (.dat d)) (M.eraseIdx j) (upd G o ob) σ H := by
  obtain ⟨q1, q2, q3⟩ := h.ref hj
  refine ⟨h.ext.know q1 hob q2, ?_, ⟨?_, fun p hp => ?_⟩, h.kp.trans (Evl.Ex.new q2)⟩
  · have sl := h.sl.mono (Evl.Ex.new (o := ob) q2)
    have hs := sl.2 i _ hi
    have hs : σ[i]? = some (some (.ref o)) := hs
    have e : σ.set i (some (.ref o)) = σ := by
      refine List.ext_getElem? fun k => ?_
      by_cases hk : i = k
      · subst hk
        rw [List.getElem?_set_self (List.getElem?_eq_some_iff.mp hs).1, hs]
      · rw [List.getElem?_set_ne hk]
    rw [← e]
    exact sl.set i ⟨_, rfl, hd⟩
  · exact h.ms.1.sublist ((List.eraseIdx_sublist M j).map _)
  · obtain ⟨k, hk⟩ := List.mem_iff_getElem?.mp hp
    have hpM : p ∈ M := (List.eraseIdx_sublist M j).mem hp
    obtain ⟨p1, p2, p3⟩ := h.ms.2 p hpM
    have ne : p.1 ≠ o := by
      intro z
      have nd := h.ms.1
      rw [List.getElem?_eraseIdx] at hk
      split at hk
      · have ek : (M.map (·.1))[k]? = some o := by rw [List.getElem?_map, hk, ← z]; rfl
        have ej : (M.map (·.1))[j]? = some o := by rw [List.getElem?_map, hj]; rfl
        have := nd_ix nd ek ej
        omega
      · have ek : (M.map (·.1))[k + 1]? = some o := by rw [List.getElem?_map, hk, ← z]; rfl
        have ej : (M.map (·.1))[j]? = some o := by rw [List.getElem?_map, hj]; rfl
        have := nd_ix nd ek ej
        omega
    exact ⟨p1, by rw [upd_ne ne]; exact p2, p3.ext (Evl.Ex.new q2) (.refl _)⟩
theorem hs_freezeK {sts : List Stmt} {kvs : List (Key × Int)} (i j : Nat) (hi : Δ[i]? = some (.ref o)) (hj : M[j]? = some (o, .dK (kvs.map fun kv => (kv.1, PyData.int kv.2)))) (h : HS U sts (Δ.set i (.dat (dictK kvs))) (M.eraseIdx j) E) : HS U sts Δ M E := fun G0 H0 Gs G σ H D st L => by
  obtain ⟨_, _, ks, q3, q4⟩ := st.ref hj
  rw [q4.ints] at q3
  exact h G0 H0 Gs _ σ H D (st.freezeO hi hj q3 (.dK upd_same)) L
theorem hs_freezeT {sts : List Stmt} {kvs : List (List Key × Str)} (i j : Nat) (hi : Δ[i]? = some (.ref o)) (hj : M[j]? = some (o, .dT (kvs.map fun kv => (kv.1, PyData.str kv.2)))) (h : HS U sts (Δ.set i (.dat (dictT kvs))) (M.eraseIdx j) E) : HS U sts Δ M E := fun G0 H0 Gs G σ H D st L => by
  obtain ⟨_, _, ks, q3, q4⟩ := st.ref hj
  rw [q4.strs] at q3
  exact h G0 H0 Gs _ σ H D (st.freezeO hi hj q3 (.dT upd_same)) L
end
end Ck
end Ck9Part

/-! ## Ck10 -/
section Ck10Part
set_option Elab.async false
set_option linter.all false
set_option maxRecDepth 100000
set_option maxHeartbeats 4000000
/-! Calls of built-ins at the level of data. -/
namespace Ck
open PySem PySem.Spec PyProof.Rows L2
section
variable {U : Vw} {Δ : List Sv} {M : MS} {E : DE} {e a b c tg it : Expr} {es : List Expr} {d da db : PyData} {ds : List PyData} {x nm : Str} {pos p p1 p2 : Pos} {i j : Nat} {o : Addr} {m : MO} {S : List Sv}
/-- a built-in called -/
theorem ev_bf {v : Value} {rr : List L2.V → Hp → VK → Prop} (pe : ∀ r, PE (U.cx r) e (tCB rr (rA U es))) (ha : EvA U es Δ M S)
    (q : ∀ G0 H0 Gs G σ H, Sta U.K G0 H0 Gs Δ M G σ H → ∀ vs, Paired (fun v s => SvOk U.K G (some (some v)) s) vs S → ∀ Q : VK, (∀ z G' H', Ext G H G' H' → Dt G' z d → Q z H') → rr vs H Q) : EvD U e Δ M d := fun G0 H0 Gs G σ H st Q k =>
  ⟨_, pe, ha G0 H0 Gs G σ H st _ fun vs G1 H1 e1 hv => q G0 H0 Gs G1 σ H1 (st.grow e1) vs hv Q fun z G2 H2 e2 h2 => k z G2 H2 (e1.trans e2) h2⟩
def rLenS (K : PySem.W.Frag) : List L2.V → Hp → VK → Prop := fun xs H Q => ∃ p ys, xs = [.ref p] ∧ (SqL K H p ys ∨ SqT K H p ys) ∧ Q (.int (List.length ys)) H
def rListOf (K : PySem.W.Frag) : List L2.V → Hp → VK → Prop := fun xs H Q => ∃ p ys, xs = [.ref p] ∧ (SqL K H p ys ∨ SqT K H p ys) ∧ ∀ l, H l = none → Q (.ref l) (upd H l (.lst ys))
def rTupOf (K : PySem.W.Frag) : List L2.V → Hp → VK → Prop := fun xs H Q => ∃ p ys, xs = [.ref p] ∧ ((SqL K H p ys ∧ ∀ l, H l = none → Q (.ref l) (upd H l (.tup ys))) ∨ (SqT K H p ys ∧ Q (.ref p) H))
def rDm : List L2.V → Hp → VK → Prop := fun xs H Q => ∃ i j, xs = [.int i, .int j] ∧ CDiv i j ∧ ∀ p, H p = none → Q (.ref p) (upd H p (.tup [.int (i / j), .int (i % j)]))
def rMn2 : List L2.V → Hp → VK → Prop := fun xs H Q => ∃ i j, xs = [.int i, .int j] ∧ Q (.int (if j < i then j else i)) H
def rJoin (K : PySem.W.Frag) : L2.V → List L2.V → Hp → VK → Prop := fun x xs H Q => ∃ a p, ∃ ys : List Str, x = .str a ∧ xs = [.ref p] ∧ (SqL K H p (ys.map V.str) ∨ SqT K H p (ys.map V.str)) ∧
      (ys.map (·.length)).sum + ys.length * a.length ≤ 16777216 ∧ Q (.str (Txt.join a ys)) H
theorem one_sv {K : PySem.W.Frag} {G : Hp} {vs : List L2.V} {s : Sv} (h : Paired (fun v s => SvOk K G (some (some v)) s) vs [s]) : ∃ v, vs = [v] ∧ SvOk K G (some (some v)) s := by
  cases h with
  | cons a t => cases t; exact ⟨_, rfl, a⟩
theorem ea_one {s : Sv} (h : EvX U a Δ M s) (hs : ∀ r, starEach [a] (U.cx r).env = (false, eval a (U.cx r).env) :: starEach [] (U.cx r).env) : EvA U [a] Δ M [s] := ea_consX h ea_nil hs
/-- len -/
theorem ev_lenL (ha : EvD U a Δ M (.list ds)) (hm : U.mg "len" = none) (hg : U.sc.names.lookup ("len" : Str) = some .globalImplicit := by rfl) (he : ∀ r, starEach [a] (U.cx r).env = (false, eval a (U.cx r).env) :: starEach [] (U.cx r).env := by intro _; rfl) : EvD U (.Call (.Name "len" p) [a] [] pos) Δ M (.int ds.length) :=
  ev_bf (v := .none) (rr := rLenS U.K) (fun r => pe_callB (id := "len") (X := U.cx r) call_len_seq hg hm (by decide +kernel) pa_r (he := he r)) (ea_one ha.toX he) fun G0 H0 Gs G σ H st vs hv Q k => by
    obtain ⟨v, rfl, v', e1, h1⟩ := one_sv hv
    cases e1
    obtain ⟨l, us, rfl, g, t⟩ := h1.lst_eq
    refine ⟨l, us, rfl, .inl (.of (st.ext.gh _ _ g)), ?_⟩
    rw [t.length]
    exact k _ G H (.refl st.ext.gh) (.int _)
theorem ev_lenT (ha : EvD U a Δ M (.tuple ds)) (hm : U.mg "len" = none) (hg : U.sc.names.lookup ("len" : Str) = some .globalImplicit := by rfl) (he : ∀ r, starEach [a] (U.cx r).env = (false, eval a (U.cx r).env) :: starEach [] (U.cx r).env := by intro _; rfl) : EvD U (.Call (.Name "len" p) [a] [] pos) Δ M (.int ds.length) :=
  ev_bf (v := .none) (rr := rLenS U.K) (fun r => pe_callB (id := "len") (X := U.cx r) call_len_seq hg hm (by decide +kernel) pa_r (he := he r)) (ea_one ha.toX he) fun G0 H0 Gs G σ H st vs hv Q k => by
    obtain ⟨v, rfl, v', e1, h1⟩ := one_sv hv
    cases e1
    obtain ⟨l, us, rfl, g, t⟩ := h1.tup_eq
    refine ⟨l, us, rfl, .inr (.of (st.ext.gh _ _ g)), ?_⟩
    rw [t.length]
    exact k _ G H (.refl st.ext.gh) (.int _)
theorem ev_lenS {ns : List Int} (ha : EvX U a Δ M (.scr ns)) (hm : U.mg "len" = none) (hg : U.sc.names.lookup ("len" : Str) = some .globalImplicit := by rfl) (he : ∀ r, starEach [a] (U.cx r).env = (false, eval a (U.cx r).env) :: starEach [] (U.cx r).env := by intro _; rfl) : EvD U (.Call (.Name "len" p) [a] [] pos) Δ M (.int ns.length) :=
  ev_bf (v := .none) (rr := rLenS U.K) (fun r => pe_callB (id := "len") (X := U.cx r) call_len_seq hg hm (by decide +kernel) pa_r (he := he r)) (ea_one ha he) fun G0 H0 Gs G σ H st vs hv Q k => by
    obtain ⟨v, rfl, l, e1, h1⟩ := one_sv hv
    cases e1
    refine ⟨l, _, rfl, .inl (Evl.ex_l st.ext.gh h1), ?_⟩
    rw [List.length_map]
    exact k _ G H (.refl st.ext.gh) (.int _)
/-- len of a list that is being made -/
theorem ev_lenM (ha : EvX U a Δ M (.ref o)) (hj : M[j]? = some (o, .lst ds)) (hm : U.mg "len" = none) (hg : U.sc.names.lookup ("len" : Str) = some .globalImplicit := by rfl) (he : ∀ r, starEach [a] (U.cx r).env = (false, eval a (U.cx r).env) :: starEach [] (U.cx r).env := by intro _; rfl) : EvD U (.Call (.Name "len" p) [a] [] pos) Δ M (.int ds.length) :=
  ev_bf (v := .none) (rr := rLenS U.K) (fun r => pe_callB (id := "len") (X := U.cx r) call_len_seq hg hm (by decide +kernel) pa_r (he := he r)) (ea_one ha he) fun G0 H0 Gs G σ H st vs hv Q k => by
    obtain ⟨v, rfl, e1⟩ := one_sv hv
    cases e1
    obtain ⟨_, _, us, q3, q4⟩ := st.ref hj
    refine ⟨o, us, rfl, .inl (.of q3), ?_⟩
    rw [q4.length]
    exact k _ G H (.refl st.ext.gh) (.int _)
theorem ev_lenMT {kvs : List (List Key × PyData)} (ha : EvX U a Δ M (.ref o)) (hj : M[j]? = some (o, .dT kvs)) (hm : U.mg "len" = none) (hg : U.sc.names.lookup ("len" : Str) = some .globalImplicit := by rfl) (he : ∀ r, starEach [a] (U.cx r).env = (false, eval a (U.cx r).env) :: starEach [] (U.cx r).env := by intro _; rfl) : EvD U (.Call (.Name "len" p) [a] [] pos) Δ M (.int kvs.length) :=
  ev_bf (v := .none) (rr := rLenT) (fun r => pe_callB (id := "len") (X := U.cx r) call_len_dT hg hm (by decide +kernel) pa_r (he := he r)) (ea_one ha he) fun G0 H0 Gs G σ H st vs hv Q k => by
    obtain ⟨v, rfl, e1⟩ := one_sv hv
    cases e1
    obtain ⟨_, _, us, q3, q4⟩ := st.ref hj
    refine ⟨o, us, rfl, q3, ?_⟩
    rw [q4.length]
    exact k _ G H (.refl st.ext.gh) (.int _)
/-- sum -/
theorem ev_sum {ns : List Int} (ha : EvD U a Δ M (.list (ns.map .int))) (hm : U.mg "sum" = none) (hg : U.sc.names.lookup ("sum" : Str) = some .globalImplicit := by rfl) (hc : ∀ r, (U.cx r).calm = true := by intro _; rfl) (he : ∀ r, starEach [a] (U.cx r).env = (false, eval a (U.cx r).env) :: starEach [] (U.cx r).env := by intro _; rfl) : EvD U (.Call (.Name "sum" p) [a] [] pos) Δ M (.int ns.sum) :=
  ev_bf (v := .none) (rr := rSum U.K) (fun r => pe_callB (id := "sum") (X := U.cx r) (cr_sum (hc r)) hg hm (by decide +kernel) pa_r (he := he r)) (ea_one ha.toX he) fun G0 H0 Gs G σ H st vs hv Q k => by
    obtain ⟨v, rfl, v', e1, h1⟩ := one_sv hv
    cases e1
    obtain ⟨l, us, rfl, g, t⟩ := h1.lst_eq
    rw [t.ints] at g
    exact ⟨l, ns, rfl, .of (st.ext.gh _ _ g), k _ G H (.refl st.ext.gh) (.int _)⟩
/-- divmod -/
theorem ev_divmod {n k : Int} (ha : EvA U [a, b] Δ M [.dat (.int n), .dat (.int k)]) (hc : CDiv n k) (hm : U.mg "divmod" = none) (hg : U.sc.names.lookup ("divmod" : Str) = some .globalImplicit := by rfl) (he : ∀ r, starEach [a, b] (U.cx r).env = (false, eval a (U.cx r).env) :: starEach [b] (U.cx r).env := by intro _; rfl) (hpl : ∀ r, (backTo pos (starEach [b] (U.cx r).env)).any (·.1) = false := by intro _; rfl) : EvD U (.Call (.Name "divmod" p) [a, b] [] pos) Δ M (.tuple [.int (n / k), .int (n % k)]) :=
  ev_bf (v := .none) (rr := rDm) (fun r => pe_callB (id := "divmod") (X := U.cx r) call_divmod hg hm (by decide +kernel) pa_r (he := he r) (hpl := hpl r)) ha fun G0 H0 Gs G σ H st vs hv Q q => by
    obtain ⟨v, w, rfl, h1, h2⟩ := paired_two hv
    exact ⟨n, k, by rw [h1.int_eq, h2.int_eq], hc, fun p hp => q _ _ _ (.new st.ext.gh hp) (.tup upd_same (.cons (.int _) (.cons (.int _) .nil)))⟩
/-- min of two ints -/
theorem ev_min2 {n k : Int} (ha : EvA U [a, b] Δ M [.dat (.int n), .dat (.int k)]) (hm : U.mg "min" = none) (hg : U.sc.names.lookup ("min" : Str) = some .globalImplicit := by rfl) (hc : ∀ r, (U.cx r).calm = true := by intro _; rfl) (he : ∀ r, starEach [a, b] (U.cx r).env = (false, eval a (U.cx r).env) :: starEach [b] (U.cx r).env := by intro _; rfl) (hpl : ∀ r, (backTo pos (starEach [b] (U.cx r).env)).any (·.1) = false := by intro _; rfl) : EvD U (.Call (.Name "min" p) [a, b] [] pos) Δ M (.int (if k < n then k else n)) :=
  ev_bf (v := .none) (rr := rMn2) (fun r => pe_callB (id := "min") (X := U.cx r) (call_min2 (hc r)) hg hm (by decide +kernel) pa_r (he := he r) (hpl := hpl r)) ha fun G0 H0 Gs G σ H st vs hv Q q => by
    obtain ⟨v, w, rfl, h1, h2⟩ := paired_two hv
    exact ⟨n, k, by rw [h1.int_eq, h2.int_eq], q _ G H (.refl st.ext.gh) (.int _)⟩
/-- list(xs), tuple(xs) -/
theorem ev_listT (ha : EvD U a Δ M (.tuple ds)) (hm : U.mg "list" = none) (hg : U.sc.names.lookup ("list" : Str) = some .globalImplicit := by rfl) (he : ∀ r, starEach [a] (U.cx r).env = (false, eval a (U.cx r).env) :: starEach [] (U.cx r).env := by intro _; rfl) : EvD U (.Call (.Name "list" p) [a] [] pos) Δ M (.list ds) :=
  ev_bf (v := .none) (rr := rListOf U.K) (fun r => pe_callTy (T := "list") (X := U.cx r) call_list_of hg hm (by decide +kernel) pa_r (he := he r)) (ea_one ha.toX he) fun G0 H0 Gs G σ H st vs hv Q k => by
    obtain ⟨v, rfl, v', e1, h1⟩ := one_sv hv
    cases e1
    obtain ⟨l, us, rfl, g, t⟩ := h1.tup_eq
    exact ⟨l, us, rfl, .inr (.of (st.ext.gh _ _ g)), fun p hp => k _ _ _ (.new st.ext.gh hp) (.lst upd_same (t.mono (Ext.new st.ext.gh hp).gg))⟩
theorem ev_listL (ha : EvD U a Δ M (.list ds)) (hm : U.mg "list" = none) (hg : U.sc.names.lookup ("list" : Str) = some .globalImplicit := by rfl) (he : ∀ r, starEach [a] (U.cx r).env = (false, eval a (U.cx r).env) :: starEach [] (U.cx r).env := by intro _; rfl) : EvD U (.Call (.Name "list" p) [a] [] pos) Δ M (.list ds) :=
  ev_bf (v := .none) (rr := rListOf U.K) (fun r => pe_callTy (T := "list") (X := U.cx r) call_list_of hg hm (by decide +kernel) pa_r (he := he r)) (ea_one ha.toX he) fun G0 H0 Gs G σ H st vs hv Q k => by
    obtain ⟨v, rfl, v', e1, h1⟩ := one_sv hv
    cases e1
    obtain ⟨l, us, rfl, g, t⟩ := h1.lst_eq
    exact ⟨l, us, rfl, .inl (.of (st.ext.gh _ _ g)), fun p hp => k _ _ _ (.new st.ext.gh hp) (.lst upd_same (t.mono (Ext.new st.ext.gh hp).gg))⟩
theorem ev_tupleL (ha : EvD U a Δ M (.list ds)) (hm : U.mg "tuple" = none) (hg : U.sc.names.lookup ("tuple" : Str) = some .globalImplicit := by rfl) (he : ∀ r, starEach [a] (U.cx r).env = (false, eval a (U.cx r).env) :: starEach [] (U.cx r).env := by intro _; rfl) : EvD U (.Call (.Name "tuple" p) [a] [] pos) Δ M (.tuple ds) :=
  ev_bf (v := .none) (rr := rTupOf U.K) (fun r => pe_callTy (T := "tuple") (X := U.cx r) call_tuple_of hg hm (by decide +kernel) pa_r (he := he r)) (ea_one ha.toX he) fun G0 H0 Gs G σ H st vs hv Q k => by
    obtain ⟨v, rfl, v', e1, h1⟩ := one_sv hv
    cases e1
    obtain ⟨l, us, rfl, g, t⟩ := h1.lst_eq
    exact ⟨l, us, rfl, .inl ⟨.of (st.ext.gh _ _ g), fun p hp => k _ _ _ (.new st.ext.gh hp) (.tup upd_same (t.mono (Ext.new st.ext.gh hp).gg))⟩⟩
/-- "".join(xs) -/
theorem ev_join {z : Str} {ys : List Str} {j : Nat} {pz : Pos} (ha : EvD U a Δ M (.list (ys.map .str))) (hl : (ys.map (·.length)).sum + ys.length * z.length ≤ 16777216) (hs : ∀ r, starEach [a] (U.cx r).env = [(false, eval a (U.cx r).env)] := by intro _; rfl)
    (hbase : ∀ r, attributeBase (.Constant (.str z) j pz) "join" (U.cx r).env (eval (.Constant (.str z) j pz) (U.cx r).env) = eval (.Constant (.str z) j pz) (U.cx r).env := by intro _; rfl) (hline : (p1.endLine == pos.line) = true := by rfl) : EvD U (.Call (.Attribute (.Constant (.str z) j pz) "join" p1) [a] [] pos) Δ M (.str (Txt.join z ys)) := fun G0 H0 Gs G σ H st Q q =>
  ⟨tM1 (rJoin U.K) (tC (.str z)) (rE U a), fun r => pe_join (X := U.cx r) pe_str pe_r (hs r) (hbase r) hline, ⟨z, rfl⟩, ha G0 H0 Gs G σ H st _ fun v G1 H1 e1 h1 => by
    obtain ⟨l, us, rfl, g, t⟩ := h1.lst_eq
    rw [t.strs] at g
    exact ⟨z, l, ys, rfl, rfl, .inl (.of (e1.gh _ _ g)), hl, q _ G1 H1 e1 (.str _)⟩⟩
/-- the type of a thing -/
inductive TyD : PyData → String → Prop
  | bl (k : Bool) : TyD (.bool k) "bool"
  | int (n : Int) : TyD (.int n) "int"
  | str (z : Str) : TyD (.str z) "str"
  | lst (ds : List PyData) : TyD (.list ds) "list"
  | tup (ds : List PyData) : TyD (.tuple ds) "tuple"
  | non : TyD .none "NoneType"
theorem TyD.at {K : PySem.W.Frag} {G H : Hp} (e : Ex G H) {v : L2.V} {T : String} (h : Dt G v d) (t : TyD d T) : TyX K H v (.type T) := by
  cases t with
  | bl k => rw [h.bl_eq]; exact .base (.bl k)
  | int n => rw [h.int_eq]; exact .base (.int n)
  | str z => rw [h.str_eq]; exact .base (.str z)
  | lst ds => obtain ⟨a, xs, rfl, g, _⟩ := h.lst_eq; exact .base (.lst (e _ _ g))
  | tup ds => obtain ⟨a, xs, rfl, g, _⟩ := h.tup_eq; exact .base (.tup (e _ _ g))
  | non => cases h; exact .base .non
/-- isinstance(e, T) -/
theorem ev_isi {T T' : String} {n : Str} {k : Bool} {pn : Pos} (ha : EvD U a Δ M d) (t : TyD d T) (hk : kitB T T' = some k) (hv : bootBuiltins n = some (.type T')) (hm : U.mg "isinstance" = none) (hm2 : U.mg n = none) (hg : U.sc.names.lookup ("isinstance" : Str) = some .globalImplicit := by rfl) (hg2 : U.sc.names.lookup n = some .globalImplicit := by rfl) (hn : n ≠ "__name__" := by decide) (hd : (n == ("__debug__" : Str)) = false := by decide)
    (he : ∀ r, starEach [a, .Name n pn] (U.cx r).env = (false, eval a (U.cx r).env) :: starEach [.Name n pn] (U.cx r).env := by intro _; rfl) (he2 : ∀ r, starEach [.Name n pn] (U.cx r).env = (false, eval (.Name n pn) (U.cx r).env) :: starEach [] (U.cx r).env := by intro _; rfl) (hpl : ∀ r, (backTo pos (starEach [.Name n pn] (U.cx r).env)).any (·.1) = false := by intro _; rfl) : EvD U (.Call (.Name "isinstance" p) [a, .Name n pn] [] pos) Δ M (.bool k) := fun G0 H0 Gs G σ H st Q q =>
  ⟨tCB (rIsi U.K) (tCons (rE U a) (tCons (tC (.ty T')) tNil)), fun r => pe_callB (X := U.cx r) call_isi hg hm (by decide +kernel) (pa_cons pe_r (pa_cons (pe_bltn (v := .ty T') hg2 hm2 hv rfl hn hd) pa_nil (he2 r)) (he r)) (he := he r) (hpl := hpl r), ha G0 H0 Gs G σ H st _ fun v G1 H1 e1 h1 =>
    ⟨v, .ty T', .type T, .type T', k, rfl, .ty T', t.at e1.gh h1, kit_ty hk, q _ G1 H1 e1 (.bl k)⟩⟩
end
end Ck
end Ck10Part

/-! ## Ck11 -/
section Ck11Part
set_option Elab.async false
set_option linter.all false
set_option maxRecDepth 100000
set_option maxHeartbeats 4000000
/-! More rules: the keys of a dict in a comprehension, in, slices, dicts by nested tuples, enumerate of a written tuple. -/
namespace Ck
open PySem PySem.Spec PyProof.Rows L2
section
variable {U : Vw} {Δ : List Sv} {M : MS} {E : DE} {e a b c tg it : Expr} {es : List Expr} {d da db : PyData} {ds : List PyData} {x nm : Str} {pos p p1 p2 : Pos} {i j : Nat} {o : Addr} {m : MO} {S : List Sv}
theorem dt_key {G : Hp} (k : Key) : Dt G (kV k) (kD k) := by
  cases k with
  | inl i => exact .int i
  | inr x => exact .str x
/-- for k in d, while it is locked -/
theorem it_keysF {kvs : List (Key × Int)} (h : EvD U it Δ M (dictF kvs)) : IterD U tg it Δ M (kvs.map fun kv => kD kv.1) := fun G0 H0 Gs G σ H st R q =>
  ⟨iKeys (rE U it), fun r => pi_keys pe_r, h G0 H0 Gs G σ H st _ fun v G' H' e1 h1 => by
    obtain ⟨a, o, rfl, g⟩ := h1.fK_eq
    refine ⟨a, o, rfl, .inl ⟨_, e1.gh _ _ g, q _ G' H' e1 fun G1 H1 z1 z2 i => ⟨fun d hd => ?_, fun hl => ?_⟩⟩⟩
    · rw [List.getElem?_map] at hd
      cases hk : kvs[i]? with
      | none => rw [hk] at hd; cases hd
      | some kv =>
        rw [hk] at hd
        cases hd
        refine ⟨⟨z2 _ _ (z1 _ _ g), by rw [List.length_map]; exact (List.getElem?_eq_some_iff.mp hk).1⟩, fun x H2 hy => ?_⟩
        obtain ⟨rfl, k, w, e2, rfl⟩ := hy
        rw [List.getElem?_map, hk] at e2
        cases e2
        exact ⟨G1, .refl z2, dt_key _⟩
    · exact ⟨z2 _ _ (z1 _ _ g), by rw [List.length_map] at hl ⊢; exact hl⟩⟩
/-- d[e], d locked -/
theorem ev_getF {kvs : List (Key × Int)} {k : Key} {n : Int} (hu : U.A.units + 1 < cLine) (ho : EvD U a Δ M (dictF kvs)) (he : EvD U e Δ M (kD k)) (h : valV (kvs.map fun kv => (kv.1, V.int kv.2)) k = some (.int n)) (hs : NoSl e := by exact fun _ _ => rfl) : EvD U (.Subscript a e pos) Δ M (.int n) := fun G0 H0 Gs G σ H st Q q =>
  ⟨_, fun r => pe_dget (X := U.cx r) hu pe_r pe_r hs, ho G0 H0 Gs G σ H st _ fun v G1 H1 e1 hv => he G0 H0 Gs G1 σ H1 (st.grow e1) _ fun y G2 H2 e2 hy => by
    obtain ⟨d, od, rfl, g⟩ := hv.fK_eq
    rw [hy.key]
    exact ⟨d, .int n, rfl, .inl ⟨_, k, .inr ⟨od, e2.hh _ _ (e1.gh _ _ g)⟩, rfl, h.symm⟩, q _ G2 H2 (e1.trans e2) (.int n)⟩⟩
/-- the dict that is being made is locked -/
theorem Sta.lock {K : PySem.W.Frag} {G0 H0 Gs : Hp} {Δ : List Sv} {M : MS} {G : Hp} {σ : L2.St} {H : Hp} (h : Sta K G0 H0 Gs Δ M G σ H) {i j : Nat} {o : Addr} {m : MO} {ob : HO} {d : PyData} (hi : Δ[i]? = some (.ref o)) (hj : M[j]? = some (o, m)) (hd : Dt (upd G o ob) (.ref o) d) : Sta K G0 H0 Gs (Δ.set i (.dat d)) (M.eraseIdx j) (upd G o ob) σ (upd H o ob) := by
  obtain ⟨q1, q2, q3⟩ := h.ref hj
  refine ⟨(h.ext.mut q1 q2).know q1 upd_same q2, ?_, ⟨?_, fun p hp => ?_⟩, h.kp.trans (Evl.Ex.new q2)⟩
  · have sl := h.sl.mono (Evl.Ex.new (o := ob) q2)
    have hs := sl.2 i _ hi
    have hs : σ[i]? = some (some (.ref o)) := hs
    have e : σ.set i (some (.ref o)) = σ := by
      refine List.ext_getElem? fun k => ?_
      by_cases hk : i = k
      · subst hk
        rw [List.getElem?_set_self (List.getElem?_eq_some_iff.mp hs).1, hs]
      · rw [List.getElem?_set_ne hk]
    rw [← e]
    exact sl.set i ⟨_, rfl, hd⟩
  · exact h.ms.1.sublist ((List.eraseIdx_sublist M j).map _)
  · obtain ⟨k, hk⟩ := List.mem_iff_getElem?.mp hp
    have hpM : p ∈ M := (List.eraseIdx_sublist M j).mem hp
    obtain ⟨p1, p2, p3⟩ := h.ms.2 p hpM
    have ne : p.1 ≠ o := by
      intro z
      have nd := h.ms.1
      have ej : (M.map (·.1))[j]? = some o := by rw [List.getElem?_map, hj]; rfl
      rw [List.getElem?_eraseIdx] at hk
      split at hk
      · have ek : (M.map (·.1))[k]? = some o := by rw [List.getElem?_map, hk, ← z]; rfl
        have := nd_ix nd ek ej
        omega
      · have ek : (M.map (·.1))[k + 1]? = some o := by rw [List.getElem?_map, hk, ← z]; rfl
        have := nd_ix nd ek ej
        omega
    refine ⟨p1, by rw [upd_ne ne]; exact p2, ?_⟩
    obtain ⟨a, m2⟩ := p
    have ne : a ≠ o := ne
    cases m2 with
    | lst ds => obtain ⟨vs, z1, z2⟩ := p3; exact ⟨vs, by rw [upd_ne ne]; exact z1, z2.mono (Evl.Ex.new q2)⟩
    | dK ds => obtain ⟨vs, z1, z2⟩ := p3; exact ⟨vs, by rw [upd_ne ne]; exact z1, z2.mono (Evl.Ex.new q2)⟩
    | dT ds => obtain ⟨vs, z1, z2⟩ := p3; exact ⟨vs, by rw [upd_ne ne]; exact z1, z2.mono (Evl.Ex.new q2)⟩
    | ob o vs ds => obtain ⟨z1, z2, z3⟩ := p3; exact ⟨by rw [upd_ne ne]; exact z1, z2.mono (Evl.Ex.new q2), z3⟩
/-- [.. for k in d if ..], texts out -/
theorem ev_lcKeys {elt tg iter : Expr} {ifs : List Expr} {scope : Scope} (i j : Nat) (own : List (Str × Nat)) {kvs : List (Key × Int)} (f : Key × Int → Str) (p : Key × Int → Bool) (hN : U.N.Nodup) (ok : blkC U.N U.sc scope own = true) (hi : Δ[i]? = some (.ref o)) (hj : M[j]? = some (o, .dK (kvs.map fun kv => (kv.1, PyData.int kv.2)))) (hit : EvD U iter (Δ.set i (.dat (dictF kvs))) (M.eraseIdx j) (dictF kvs)) (hl : kvs.length < sizeLine)
    (hb : ∀ (t : Nat) (d : Key × Int), kvs[t]? = some d → ∃ is Δ2, Tgt (U.blk scope) tg is (wipeS (Δ.set i (.dat (dictF kvs))) (own.map (·.2))) (kD d.1) Δ2 ∧ (∀ i ∈ is, i ∈ own.map (·.2)) ∧ EvTs (U.blk scope) ifs Δ2 (M.eraseIdx j) (p d) ∧ (p d = true → EvD (U.blk scope) elt Δ2 (M.eraseIdx j) (.str (f d))))
    (hfs : ∀ r x, foldedSetIterable iter (U.cx r).env x = pure x := by intro _ _; rfl) (hc : ∀ r, (U.cx r).calm = true := by intro _; rfl) : EvD U (.ListComp elt [⟨tg, iter, ifs, 0⟩] scope pos) Δ M (.list (((kvs.filter p).map f).map .str)) := fun G0 H0 Gs G σ H st Q q =>
  ⟨tLockE (tLc (rI U tg iter) (rG (U.blk scope) tg) (rTs (U.blk scope) ifs) (rE (U.blk scope) elt) (own.map (·.2))), fun r => pe_lock (pe_lc (X := U.cx r) (own := own) (hc r) hN pi_r (blkOk_by ok) (fun s H C cl fp => pg_r (V := U.blk scope) (r := (U.cx r).blk s H scope (compEnvC scope cl C (U.cx r).env) fp)) (fun s H C cl fp => pts_r (V := U.blk scope) (r := (U.cx r).blk s H scope (compEnvC scope cl C (U.cx r).env) fp)) (fun s H C cl fp => pe_r (V := U.blk scope) (r := (U.cx r).blk s H scope (compEnvC scope cl C (U.cx r).env) fp)) (hfs r)), by
    obtain ⟨q1, q2, ks, q3, q4⟩ := st.ref hj
    rw [q4.ints] at q3
    refine ⟨o, _, q3, True.intro, fun od => ?_⟩
    have st2 := st.lock (ob := .frz od (.dK (kvs.map fun kv => (kv.1, V.int kv.2)))) (d := dictF kvs) hi hj (.fK upd_same)
    have := lc_read (f := fun d => PyData.str (f d)) (p := p) (it_keysF (tg := tg) hit) hl hb st2 (Q := fun v H' => H' o = some (.frz od (.dK (kvs.map fun kv => (kv.1, V.int kv.2)))) ∧ Q v (upd H' o (.dK (kvs.map fun kv => (kv.1, V.int kv.2))))) fun v G' H' e1 h1 => ?_
    · exact this
    have hG' : G' o = some (.frz od (.dK (kvs.map fun kv => (kv.1, V.int kv.2)))) := e1.gg _ _ upd_same
    refine ⟨e1.gh _ _ hG', ?_⟩
    have h1 : Dt G' v (.list (((kvs.filter p).map f).map .str)) := by rw [List.map_map]; exact h1
    obtain ⟨l, xs, rfl, gl, tl⟩ := h1.lst_eq
    have hlo : l ≠ o := fun z => by subst z; rw [hG'] at gl; cases gl
    rw [tl.strs] at gl
    have eG : ∀ b, b ≠ o → upd G o (HO.frz od (.dK (kvs.map fun kv => (kv.1, V.int kv.2)))) b = G b := fun b hb => upd_ne hb
    refine q _ (fun b => if b = o then none else G' b) _ ⟨fun b u hb => ?_, fun b u hb => ?_, fun b u hb => ?_, fun b u hb hb' => ?_⟩ (.lst (xs := ((kvs.filter p).map f).map V.str) ?_ (dtAll_strs _))
    · have hbo : b ≠ o := fun z => by subst z; rw [q2] at hb; cases hb
      show (if b = o then none else G' b) = some u
      rw [if_neg hbo]
      exact e1.gg b u (by rw [upd_ne hbo]; exact hb)
    · by_cases hbo : b = o
      · subst hbo
        rw [upd_same, ← hb, q3]
      · rw [upd_ne hbo]
        exact e1.hh b u (by rw [upd_ne hbo]; exact hb)
    · by_cases hbo : b = o
      · subst hbo
        have : (if b = b then none else G' b) = some u := hb
        rw [if_pos rfl] at this
        cases this
      · have : (if b = o then none else G' b) = some u := hb
        rw [if_neg hbo] at this
        rw [upd_ne hbo]
        exact e1.gh b u this
    · by_cases hbo : b = o
      · subst hbo
        have : (if b = b then none else G' b) = some u := hb
        rw [if_pos rfl] at this
        cases this
      · have : (if b = o then none else G' b) = some u := hb
        rw [if_neg hbo] at this
        have := e1.fr b u this (by rw [upd_ne hbo]; exact hb')
        rwa [upd_ne hbo] at this
    · show (if l = o then none else G' l) = _
      rw [if_neg hlo]
      exact gl⟩
/-! ### in -/
theorem inV_strs (n : Str) : ∀ ws : List Str, inV (.str n) (ws.map V.str) = decide (n ∈ ws)
  | [] => rfl
  | y :: ws => by
    have ih := inV_strs n ws
    unfold inV at ih ⊢
    rw [List.map_cons, List.any_cons, ih]
    have : eqV (.str y) (.str n) = decide (n = y) := by
      unfold eqV
      by_cases h : n = y
      · subst h; simp
      · simp [h, Ne.symm h]
    rw [this]
    by_cases h : n = y <;> simp [h]
theorem flat_strs : ∀ ws : List Str, (ws.map V.str).all flatV = true
  | [] => rfl
  | y :: ws => by rw [List.map_cons, List.all_cons, flat_strs ws]; rfl
theorem cr_inS {n : Str} {ws : List Str} : CmpR U .In (.str n) (.tuple (ws.map .str)) (decide (n ∈ ws)) := ⟨rIn U.K false, fun r => op_in_seq, fun v w G H e h1 h2 Q q => by
  obtain ⟨l, us, rfl, g, t⟩ := h2.tup_eq
  rw [t.strs] at g
  rw [h1.str_eq]
  refine ⟨l, _, rfl, .inr (.of (e _ _ g)), rfl, flat_strs ws, ?_⟩
  show Q (.bl (if false = true then !inV (.str n) (ws.map V.str) else inV (.str n) (ws.map V.str))) H
  rw [if_neg (by decide), inV_strs]
  exact q⟩
theorem cr_inD {d : PyData} {ds : List PyData} {k : Bool} (hu : U.A.units + 65 < cLine) (o1 : okD 7 d = true) (o2 : okL 7 ds = true) (h : k = true ↔ d ∈ ds) : CmpR U .In d (.list ds) k := ⟨rInD U.K, fun r => op_inD (X := U.cx r) hu, fun v w G H e h1 h2 Q q => by
  have o2' : okD 8 (.list ds) = true := by rw [okD]; exact o2
  refine ⟨d, ds, dp_whole e (okD_lay 7 d o1).1 h1, dp_whole e (okD_lay 8 _ o2').1 h2, okD_shaped (by decide) o1, okD_shaped (by decide) o2', ?_⟩
  have : (ds.any fun z => PyData.eqv z d) = k := by
    refine Bool.eq_iff_iff.mpr (Iff.trans ?_ h.symm)
    rw [List.any_eq_true]
    constructor
    · rintro ⟨z, hz, e⟩
      rw [(eqv_ok 7 z d (okL_iff.mp o2 z hz) o1)] at e
      subst e
      exact hz
    · intro hd
      exact ⟨d, hd, (eqv_ok 7 d d o1 o1).mpr rfl⟩
  rw [this]
  exact q⟩
/-! ### the script -/
theorem ev_ixS {ns : List Int} {n v : Int} (ha : EvX U a Δ M (.scr ns)) (hb : EvD U b Δ M (.int n)) (h : L2.atI ns n = some v) (hs : PlainIx b := by exact fun _ _ => rfl) : EvD U (.Subscript a b pos) Δ M (.int v) := fun G0 H0 Gs G σ H st Q q =>
  ⟨tOp (rIx U.K) (rE U a) (rE U b), fun r => pe_ix (X := U.cx r) ix_seq pe_r pe_r hs, ha G0 H0 Gs G σ H st _ fun x G1 H1 e1 h1 => hb G0 H0 Gs G1 σ H1 (st.grow e1) _ fun y G2 H2 e2 h2 => by
    obtain ⟨l, e0, hl⟩ := h1
    cases e0
    rw [h2.int_eq]
    refine .inl ⟨l, ns.map V.int, n, .int v, rfl, rfl, Evl.ex_l e2.gh (Evl.ex_l e2.gg hl), ?_, q _ G2 H2 (e1.trans e2) (.int v)⟩
    unfold L2.atI at h ⊢
    rw [List.length_map]
    cases hx : ixN ns.length n with
    | none => rw [hx] at h; cases h
    | some j =>
      rw [hx] at h
      show (ns.map V.int)[j]? = _
      have h : ns[j]? = some v := h
      rw [List.getElem?_map, h]
      rfl⟩
end
end Ck
end Ck11Part

/-! ## Ck12 -/
section Ck12Part
set_option Elab.async false
set_option linter.all false
set_option maxRecDepth 100000
set_option maxHeartbeats 4000000
/-! Dicts whose keys are tuples of tuples (sets of these). -/
namespace Ck
open PySem PySem.Spec PyProof.Rows L2
def nkK : Key → NestedKey
  | .inl i => .num i
  | .inr x => .text x
def nkL (l : List Key) : NestedKey := .tup (l.map nkK)
def nkN (ls : List (List Key)) : NestedKey := .tup (ls.map nkL)
def encN (ls : List (List Key)) : PyData := .tuple (ls.map encK)
theorem nkK_inj {a b : Key} (h : nkK a = nkK b) : a = b := by
  cases a <;> cases b <;> simp [nkK] at h <;> rw [h]
theorem nkL_inj {a b : List Key} (h : nkL a = nkL b) : a = b := map_inj (fun _ _ => nkK_inj) (NestedKey.tup.inj h)
theorem nkN_inj {a b : List (List Key)} (h : nkN a = nkN b) : a = b := map_inj (fun _ _ => nkL_inj) (NestedKey.tup.inj h)
theorem nkK_depth (k : Key) : (nkK k).depth = 0 := by cases k <;> simp [nkK, NestedKey.depth]
theorem depthAll_le {α : Type} {f : α → NestedKey} {n : Nat} (h : ∀ x, (f x).depth ≤ n) : ∀ l : List α, NestedKey.depthAll (l.map f) ≤ n
  | [] => by simp [NestedKey.depthAll]
  | a :: l => by
    have := depthAll_le h l
    have := h a
    rw [List.map_cons, NestedKey.depthAll]
    omega
theorem nkN_depth (ls : List (List Key)) : (nkN ls).depth ≤ 8 := by
  unfold nkN
  rw [NestedKey.depth]
  have : ∀ l, (nkL l).depth ≤ 1 := fun l => by
    unfold nkL
    rw [NestedKey.depth]
    have := depthAll_le (f := nkK) (n := 0) (fun k => Nat.le_of_eq (nkK_depth k)) l
    omega
  have := depthAll_le this ls
  omega
def nestO (P : Program) (w : World) (d : Addr) (xs : List (List (List Key) × Addr)) : HO := .ext fun h => (d == sysModules) = false ∧ ∃ o es ep, h.get? d = some o ∧ o.ExactDict ∧ o.data = .dict es ep ∧ es.toList = xs.map fun x => entryOfKey (nestedKind P w) (nkN x.1, x.2, Value.bool true)
def NestRaw (P : Program) (w : World) (h : Heap) (d : Addr) (xs : List (List (List Key) × Addr)) : Prop := (d == sysModules) = false ∧ ∃ o es ep, h.get? d = some o ∧ o.ExactDict ∧ o.data = .dict es ep ∧ es.toList = xs.map fun x => entryOfKey (nestedKind P w) (nkN x.1, x.2, Value.bool true)
theorem nestO_ok {P : Program} {w : World} {H : Hp} {h : Heap} {d : Addr} {xs : List (List (List Key) × Addr)} (e : NestRaw P w h d xs) : ObjOk P w H h d (nestO P w d xs) :=
  ⟨e, let ⟨_, o, _, _, ho, _⟩ := e; ⟨o, ho⟩, fun h1 h2 x k => let ⟨y, o, es, ep, ho, r⟩ := x; ⟨y, o, es, ep, k o ho, r⟩⟩
def inK (k : List (List Key)) (xs : List (List (List Key) × Addr)) : Bool := xs.any fun x => decide (x.1 = k)
theorem inK_iff {k : List (List Key)} {xs : List (List (List Key) × Addr)} : inK k xs = true ↔ k ∈ xs.map (·.1) := by
  unfold inK
  rw [List.any_eq_true]
  constructor
  · rintro ⟨x, hx, e⟩
    exact List.mem_map.mpr ⟨x, hx, of_decide_eq_true e⟩
  · intro h
    obtain ⟨x, hx, e⟩ := List.mem_map.mp h
    exact ⟨x, hx, decide_eq_true e⟩
theorem nest_keys {h : Heap} : ∀ {l : List Key} {us : List Value}, Vals (l.map kV) us → NestedAll h (l.map nkK) us
  | [], _, r => by cases r; exact .nil
  | k :: l, _, r => by
    rw [List.map_cons] at r
    cases r with
    | cons a t =>
      rw [List.map_cons]
      refine .cons ?_ (nest_keys t)
      cases k with
      | inl i => obtain ⟨t, rfl⟩ := a; exact .int i t
      | inr x => obtain ⟨t, rfl⟩ := a; exact .text x t
section
variable {X : Cx} {pins : List (Addr × Obj)} {σ : L2.St} {H : Hp} {s : Shared}
theorem nest_keyL (I : Inv X pins σ H s) {v : L2.V} {u : Value} {l : List Key} (h : Dt H v (encK l)) (r : RelV v u) : NestedIs s.heap (nkL l) u := by
  obtain ⟨b, rfl, hb⟩ := h.keyTup
  cases (show u = Value.ref b from r)
  obtain ⟨_, its, r, o, h1, h2, n, h3⟩ := (show ObjOk X.prog X.w H s.heap b (.tup (l.map kV)) from I.hok b _ hb)
  exact .tup h1 h2 h3 (by simpa using nest_keys r)
theorem nest_all (I : Inv X pins σ H s) : ∀ {ls : List (List Key)} {vs : List L2.V} {us : List Value}, DtAll H vs (ls.map encK) → Vals vs us → NestedAll s.heap (ls.map nkL) us
  | [], _, _, h, r => by cases h; cases r; exact .nil
  | l :: ls, _, _, h, r => by
    rw [List.map_cons] at h
    cases h with
    | cons a t =>
      cases r with
      | cons ra rt => exact .cons (nest_keyL I a ra) (nest_all I t rt)
theorem nest_key (I : Inv X pins σ H s) {b : Addr} {ls : List (List Key)} (h : Dt H (.ref b) (encN ls)) : NestedIs s.heap (nkN ls) (.ref b) := by
  obtain ⟨a, xs, e, g, t⟩ := h.tup_eq
  cases e
  obtain ⟨_, its, r, o, h1, h2, n, h3⟩ := (show ObjOk X.prog X.w H s.heap b (.tup xs) from I.hok b _ g)
  exact .tup h1 h2 h3 (by simpa using nest_all I t r)
def xsK (xs : List (List (List Key) × Addr)) : List (NestedKey × Addr × Value) := xs.map fun x => (nkN x.1, x.2, Value.bool true)
theorem nest_dict (I : Inv X pins σ H s) {d : Addr} {xs : List (List (List Key) × Addr)} (hd : H d = some (nestO X.prog X.w d xs)) (hk : DtAll H (xs.map fun x => .ref x.2) (xs.map fun x => encN x.1)) (hn : (xs.map (·.1)).Nodup) : s.heap.DictOfH (nestedKind X.prog X.w) d (xsK xs) := by
  obtain ⟨⟨_, o, es, ep, h1, h2, h3, h4⟩, _, _⟩ := (show ObjOk X.prog X.w H s.heap d (nestO X.prog X.w d xs) from I.hok d _ hd)
  refine ⟨o, es, ep, h1, h2, h3, by rw [h4, xsK, List.map_map]; rfl, fun x hx => ?_, ?_⟩
  · obtain ⟨y, hy, rfl⟩ := List.mem_map.mp hx
    refine ⟨nest_key I ?_, nkN_depth y.1⟩
    obtain ⟨i, hi⟩ := List.mem_iff_getElem?.mp hy
    obtain ⟨v, v1, v2⟩ := hk.get (i := i) (d := encN y.1) (by rw [List.getElem?_map, hi]; rfl)
    rw [List.getElem?_map, hi] at v1
    cases v1
    exact v2
  · have : (xsK xs).map (·.1) = (xs.map (·.1)).map nkN := by rw [xsK, List.map_map, List.map_map]; rfl
    rw [this]
    exact List.Pairwise.map _ (fun a b h z => h (nkN_inj z)) hn
theorem nest_sys (I : Inv X pins σ H s) {d : Addr} {xs : List (List (List Key) × Addr)} (hd : H d = some (nestO X.prog X.w d xs)) : (d == sysModules) = false := by
  obtain ⟨⟨z, _⟩, _, _⟩ := (show ObjOk X.prog X.w H s.heap d (nestO X.prog X.w d xs) from I.hok d _ hd)
  exact z
theorem at_xsK (k : List (List Key)) : ∀ xs : List (List (List Key) × Addr), (atKey (xsK xs) (nkN k)).isSome = inK k xs
  | [] => by simp [xsK, atKey, inK]
  | x :: xs => by
    have ih := at_xsK k xs
    unfold atKey inK at ih ⊢
    rw [Option.isSome_map] at ih ⊢
    rw [xsK, List.map_cons, List.find?_cons, List.any_cons]
    by_cases h : x.1 = k
    · subst h; simp
    · have : ¬ nkN x.1 = nkN k := fun z => h (nkN_inj z)
      simp only [this, decide_false]
      rw [show (List.find? (fun x => decide (x.1 = nkN k)) (List.map (fun x => (nkN x.1, x.2, Value.bool true)) xs)) = List.find? (fun x => decide (x.1 = nkN k)) (xsK xs) from rfl, ih]
      simp [h]
theorem stored_xsK {k : List (List Key)} {b : Addr} {xs : List (List (List Key) × Addr)} (h : inK k xs = false) : storedH (xsK xs) (nkN k) b (.bool true) = xsK (xs ++ [(k, b)]) := by
  unfold storedH
  rw [at_xsK k xs, h]
  simp [xsK]
/-- {} -/
def tDNewN (P : Program) (w : World) : TE := fun _ H Q => ∀ p, H p = none → Q (.ref p) (upd H p (nestO P w p []))
theorem pe_dnewN {pos : Pos} : PE X (.Dict [] [] pos) (tDNewN X.prog X.w) := ⟨fun pins s σ H Q I h =>
  wpAny_Dict_empty ⟨.ref s.heap.objs.size, _, I.laid (a := s.heap.objs.size) (o := nestO X.prog X.w s.heap.objs.size []) (t' := s.toks) (fun _ _ q => Heap.get?_push_of_some _ q) (Nat.le_refl _) (nestO_ok ⟨beq_eq_false_iff_ne.mpr (Ne.symm (Nat.ne_of_lt I.big)), _, #[], 0, Heap.get?_push_size _ rfl, ⟨rfl, rfl, rfl⟩, rfl, rfl⟩), rfl, h _ (I.hok.fresh (Nat.le_refl _))⟩⟩
def NestAt (P : Program) (w : World) (H : Hp) (d : Addr) (xs : List (List (List Key) × Addr)) : Prop := H d = some (nestO P w d xs) ∧ DtAll H (xs.map fun x => .ref x.2) (xs.map fun x => encN x.1) ∧ (xs.map (·.1)).Nodup
def tNinN (P : Program) (w : World) (tk td : TE) : TE := fun σ H Q => tk σ H fun y H1 => td σ H1 fun x H2 => ∃ d b xs k, x = .ref d ∧ y = .ref b ∧ NestAt P w H2 d xs ∧ Dt H2 (.ref b) (encN k) ∧ Q (.bl (!inK k xs)) H2
theorem pc_ninN (hu : X.A.units + 60 < cLine) {a e : Expr} {ta te : TE} (he : PE X e te) (ha : PE X a ta) : PC X .NotIn e a (tNinN X.prog X.w te ta) := by
  refine ⟨fun pins s σ H Q I h => ?_⟩
  refine thn (he.run pins s σ H _ I h) fun iv s1 ⟨y, H1, I1, ry, q1⟩ => thn (ha.run pins s1 σ H1 _ I1 q1) fun u s2 ⟨x, H2, I2, rx, d, b, xs, k, ex, ey, ⟨n1, n2, n3⟩, hk, q2⟩ => ?_
  subst ex ey
  cases (show u = Value.ref d from rx)
  cases (show iv = Value.ref b from ry)
  refine wpAny_notIn_heap (knd := nestedKind X.prog X.w) (show X.A.in1.units + 8 < cLine by show X.A.units + 1 + 8 < cLine; omega) (k := nkN k) ⟨nest_key I2 hk, nkN_depth k⟩ (nest_sys I2 n1) (nest_dict I2 n1 n2 n3) ?_
  rw [at_xsK]
  exact ⟨.bl _, H2, I2.tok _, rfl, q2⟩
def sPutN (P : Program) (w : World) (td tk : TE) : TS := fun D σ H => td σ H fun x H2 => tk σ H2 fun y H3 => ∃ d b xs k, x = .ref d ∧ y = .ref b ∧ NestAt P w H3 d xs ∧ Dt H3 (.ref b) (encN k) ∧ inK k xs = false ∧ xs.length < 100000 ∧ D.nx σ (upd H3 d (nestO P w d (xs ++ [(k, b)])))
theorem ps_putN (hu : X.A.units + 60 < cLine) {o i : Expr} {td ty : TE} {j : Nat} {pos pos' pc : Pos} (ho : PE X o td) (hi : PE X i ty) (hs : swapsWith (.Constant (.bool true) j pc) (some (.Subscript o i pos')) pos.line X.env = pure false) :
    PS X (.Assign [.Subscript o i pos'] (.Constant (.bool true) j pc) pos) (sPutN X.prog X.w td ty) := by
  refine ⟨fun pins s σ H D I h => ?_⟩
  refine wpAny_Assign_Subscript (thn ((pe_bl (X := X) (b := true) (pos := pc)).run pins s σ H (fun v H' => v = .bl true ∧ H' = H) I ⟨rfl, rfl⟩) fun r s1 ⟨v, H1, I1, rv, q1⟩ => ?_) hs
  obtain ⟨rfl, rfl⟩ := q1
  cases (show r = Value.bool true from rv)
  refine thn (ho.run pins s1 σ H1 _ I1 h) fun u s2 ⟨x, H2, I2, rx, q2⟩ => thn (hi.run pins s2 σ H2 _ I2 q2) fun iv s3 ⟨y, H3, I3, ry, d, b, xs, k, ex, ey, ⟨n1, n2, n3⟩, hk, hin, hl, q3⟩ => ?_
  subst ex ey
  cases (show u = Value.ref d from rx)
  cases (show iv = Value.ref b from ry)
  have hsz : (xsK xs).length ≤ sizeLine := by rw [xsK, List.length_map]; exact Nat.le_of_lt (Evl.sz_lt hl)
  refine wpAny_setItem_heap (knd := nestedKind X.prog X.w) (hsz := hsz) (show X.A.in1.units + 8 < cLine by show X.A.units + 1 + 8 < cLine; omega) (k := nkN k) ⟨nest_key I3 hk, nkN_depth k⟩ (nest_dict I3 n1 n2 n3) fun h' dd' hs' => ?_
  rw [stored_xsK hin] at dd'
  obtain ⟨o', es, ep, h1, h2, h3, h4, _, _⟩ := dd'
  refine ⟨σ, _, d_write I3 (by rw [n1]; exact True.intro) hs' ⟨o', h1⟩ (nestO_ok ⟨nest_sys I3 n1, o', es, ep, h1, h2, h3, by rw [h4, xsK, List.map_map]; rfl⟩), q3⟩
end
section
variable {U : Vw} {Δ : List Sv} {M : MS} {E : DE} {e a b c tg it : Expr} {es : List Expr} {d da db : PyData} {ds : List PyData} {x nm : Str} {pos p p1 p2 : Pos} {i j : Nat} {o : Addr} {m : MO} {S : List Sv}
def moN (P : Program) (w : World) (o : Addr) (xs : List (List (List Key) × Addr)) : MO := .ob (nestO P w o xs) (xs.map fun x => .ref x.2) (xs.map fun x => encN x.1)
/-- x = {}, its keys will be tuples of tuples -/
theorem ht_newN (i : Nat) (hN : U.N.Nodup) (k : ∀ o, E.nx (Δ.set i (.ref o)) ((o, moN U.prog U.w o []) :: M)) {pos' p1 : Pos} (hi : U.N[i]? = some x := by rfl) (hx : Loc U.sc x := by first | exact Or.inl rfl | exact Or.inr rfl)
    (hs : ∀ r, swapsWith (.Dict [] [] p1) (some (.Name x pos')) pos.line (U.cx r).env = pure false := by intro _; rfl) (hf : U.fn x = true ∨ U.sc.names.lookup x = some .local := by first | exact .inl rfl | exact .inr rfl) : HT U (.Assign [.Name x pos'] (.Dict [] [] p1) pos) Δ M E := fun G0 H0 Gs G σ H D st L =>
  ⟨tAsg (tDNewN U.prog U.w) (gName i), fun r => ps_set (X := U.cx r) hN hi hx (pe_dnewN (X := U.cx r)) (hs r) hf, fun p hp => L.nx _ _ G _ _ (k p) ((st.make (m := moN U.prog U.w p []) (o := nestO U.prog U.w p []) hp ⟨upd_same, .nil, fun _ h => nomatch h⟩).set i (s := .ref p) rfl)⟩
/-- e not in d -/
theorem et_ninN {ks : List (List Key)} {xs : List (List (List Key) × Addr)} (hu : U.A.units + 60 < cLine) (he : EvD U e Δ M (encN ks)) (ho : EvX U a Δ M (.ref o)) (hj : M[j]? = some (o, moN U.prog U.w o xs)) (hn : (xs.map (·.1)).Nodup) (hm : behindInMarks .NotIn a = false := by rfl) : EvT U (.Compare e [.NotIn] [a] pos) Δ M (!inK ks xs) := fun G0 H0 Gs G σ H st Q q =>
  ⟨tB (tNinN U.prog U.w (rE U e) (rE U a)), fun r => pt_cmp (pc_ninN (X := U.cx r) hu pe_r pe_r) hm, he G0 H0 Gs G σ H st _ fun w G1 H1 e1 hw => ho G0 H0 Gs G1 σ H1 (st.grow e1) _ fun v G2 H2 e2 hv => by
    cases hv
    have hw2 := hw.mono e2.gg
    obtain ⟨b, _, rfl, _, _⟩ := hw.tup_eq
    have st2 := (st.grow e1).grow e2
    obtain ⟨_, _, q3, q4, _⟩ := st2.ref hj
    exact ⟨o, b, xs, ks, rfl, rfl, ⟨q3, q4.mono e2.gh, hn⟩, hw2.mono e2.gh, _, rfl, q _ _ (e1.trans e2)⟩⟩
/-- d[e] = True, e new -/
theorem ht_putN (j : Nat) {ks : List (List Key)} {xs : List (List (List Key) × Addr)} {jj : Nat} {pc : Pos} (hu : U.A.units + 60 < cLine) (ho : EvX U a Δ M (.ref o)) (hj : M[j]? = some (o, moN U.prog U.w o xs)) (he : EvD U e Δ M (encN ks)) (hn : (xs.map (·.1)).Nodup) (hin : inK ks xs = false) (hl : xs.length < 100000) (k : ∀ b, E.nx Δ (M.set j (o, moN U.prog U.w o (xs ++ [(ks, b)])))) {p1 : Pos} (hs : ∀ r, swapsWith (.Constant (.bool true) jj pc) (some (.Subscript a e p1)) pos.line (U.cx r).env = pure false := by intro _; rfl) : HT U (.Assign [.Subscript a e p1] (.Constant (.bool true) jj pc) pos) Δ M E := fun G0 H0 Gs G σ H D st L =>
  ⟨sPutN U.prog U.w (rE U a) (rE U e), fun r => ps_putN (X := U.cx r) hu pe_r pe_r (hs r), ho G0 H0 Gs G σ H st _ fun v G2 H2 e2 hv' => he G0 H0 Gs G2 σ H2 (st.grow e2) _ fun y G3 H3 e3 hy => by
    cases hv'
    obtain ⟨b, ys, rfl, g, t⟩ := hy.tup_eq
    have st3 := (st.grow e2).grow e3
    obtain ⟨_, _, q3, q4, _⟩ := st3.ref hj
    refine ⟨o, b, xs, ks, rfl, rfl, ⟨q3, q4.mono e3.gh, hn⟩, (Dt.tup g t : Dt G3 (.ref b) (encN ks)).mono e3.gh, hin, hl, L.nx _ _ G3 _ _ (k b) (st3.change hj ⟨upd_same, ?_, fun _ h => nomatch h⟩)⟩
    rw [List.map_append, List.map_append]
    exact q4.append (.one (.tup g t))⟩
end
end Ck
end Ck12Part

/-! ## Ck13 -/
section Ck13Part
set_option Elab.async false
set_option linter.all false
set_option maxRecDepth 100000
set_option maxHeartbeats 4000000
/-! A slice of the script; enumerate of a written tuple of written tuples. -/
namespace Ck
open PySem PySem.Spec PyProof.Rows L2
theorem meets_enumerate_newB1 {v : Value} {o : Obj} {H : Heap → Prop} (B : Begins v o H) :
    Meets (Builtin.«enumerate.__new__» ⟨[.type "enumerate", v], []⟩) (fun _ R s => H s.heap ∧
      R (.ok (.ret (.ref (s.heap.push o).objs.size))) { s with heap := (s.heap.push o).push { cls := .type "enumerate", data := .fields #[.none, .bool false, .ref s.heap.objs.size, rawInt 0, .none, .none] } }) :=
  .of_wp fun prog w A R s h => by
    obtain ⟨hp, g, d, tk, os⟩ := s; obtain ⟨h1, h⟩ := h
    have hsub := sub_enumerate
    have q1 : ∀ {A' : Around} {E : Value → Shared → Prop} {Q : Value → Shared → Prop}, Q (.ref hp.objs.size) ⟨hp.push o, g, d, tk, os⟩ → wpAny (model prog w) A' (pyIter v) Q E ⟨hp, g, d, tk, os⟩ :=
      fun q => B.iter prog w _ _ ⟨hp, g, d, tk, os⟩ _ h1 q
    wp_walk using q1
    refine wpAny_stack_any fun st => wpAny_pure ?_
    split
    · rename_i c _ _ _ _ _
      cases (c == Value.type "enumerate")
      · wp_walk using q1
        exact ⟨_, rfl, h⟩
      · wp_walk using q1
        exact ⟨_, rfl, h⟩
    · wp_walk using q1
      exact ⟨_, rfl, h⟩
theorem enum_begins1 {prog : Program} {w : World} {A : Around} {E : Value → Shared → Prop} {s : Shared} {v : Value} {o : Obj} {H : Heap → Prop} {Q : Value → Shared → Prop} (B : Begins v o H) (h1 : H s.heap)
    (h : ∀ h', IsEnum h' (s.heap.objs.size + 1) s.heap.objs.size 0 .none → h'.get? s.heap.objs.size = some o → h'.objs.size = s.heap.objs.size + 2 →
      (∀ b o, s.heap.get? b = some o → h'.get? b = some o) → Q (.ref (s.heap.objs.size + 1)) { s with heap := h' }) :
    wpAny (model prog w) A (call (.type "enumerate") [v]) Q E s := by
  refine callType_new F.called_enumerate (by decide) (F.typeCall_enumerate_1 _) (F.newCall_enumerate_1 _) (fun obj => F.args_object_init_2 obj _) F.entry_enumerate_new
    (meets_enumerate_newB1 B) ⟨h1, ?_⟩
  have hz : (s.heap.push o).objs.size = s.heap.objs.size + 1 := Heap.size_push ..
  show _ ∧ _
  rw [hz]
  have he : IsEnum ((s.heap.push o).push { cls := .type "enumerate", data := .fields #[.none, .bool false, .ref s.heap.objs.size, rawInt 0, .none, .none] }) (s.heap.objs.size + 1) s.heap.objs.size 0 .none := by
    have := Heap.get?_push_size (s.heap.push o) (o := { cls := .type "enumerate", data := .fields #[.none, .bool false, .ref s.heap.objs.size, rawInt 0, .none, .none] }) rfl
    rw [hz] at this; exact this
  refine ⟨⟨_, he, rfl⟩, h _ he (Heap.get?_push_of_some _ (Heap.get?_push_size _ B.free)) (by rw [Heap.size_push, hz]) fun b o x => Heap.get?_push_of_some _ (Heap.get?_push_of_some _ x)⟩
/-- the tuple at a, each item in a new pair -/
def IteT (K : PySem.W.Frag) (a : Addr) : It :=
  ⟨fun i H => ∃ (xs : List L2.V) (x : L2.V), SqT K H a xs ∧ xs[i]? = some x, fun i H v H' => ∃ T x, v = .ref T ∧ H T = none ∧ H' = upd H T (.tup [.int (i : Nat), x]) ∧ ∀ xs, SqT K H a xs → xs[i]? = some x, fun i H => ∃ xs : List L2.V, SqT K H a xs ∧ xs.length = i⟩
theorem turn_enumT {P : Program} {w : World} {K : PySem.W.Frag} {elts : List Expr} {kk : Nat} {tpos : Pos} (a e it : Addr) (hai : a ≠ it) (hae : a ≠ e) :
    Turn P w K (.Tuple elts kk tpos) (IteT K a) [e, it] e (fun i h => (∃ old, IsEnum h e it ((i : Nat) : Int) old) ∧ h.IsTupleIter it a i ∧ e ≠ it) where
  mem := by simp
  obj := fun i h st b hb => by
    obtain ⟨⟨old, he⟩, ⟨o, ho, hc, hd⟩, _⟩ := st
    have e' : b = e ∨ b = it := by simpa using hb
    rcases e' with z | z
    · rw [z]; exact ⟨_, he, fun v q => nomatch q⟩
    · rw [z]; exact ⟨o, ho, fun v q => by rw [hd] at q; cases q⟩
  keep := fun i h h' st k => let ⟨⟨old, he⟩, hi, hne⟩ := st; ⟨⟨old, k e (by simp) _ he⟩, hi.at fun o q => k it (by simp) o q, hne⟩
  item := by
    intro X hP hw hK hc i pins s σ H E I hf st hg
    subst hP hw hK
    obtain ⟨⟨old, he⟩, hit, hne⟩ := st
    obtain ⟨xs, x, hq, hx⟩ := hg
    obtain ⟨its, rv, p, hz⟩ := I.tuple hq
    obtain ⟨u, hu, ru⟩ := rv.get hx
    have hel : e < s.heap.objs.size := Heap.lt_size he
    have hil : it < s.heap.objs.size := by obtain ⟨_, q, _⟩ := hit; exact Heap.lt_size q
    have hlt : i < its.toArray.size := by rw [List.size_toArray]; exact (List.getElem?_eq_some_iff.mp hu).1
    refine wpAny_pyNext_enum_itemD (Draws.tuple (A := X.A.in1) (show X.A.in1.handled = none from I.ok.hd hc) it a hai its.toArray) he ⟨hit, p⟩ hlt hne (by simp [hne, Ne.symm hae]) fun u' h' tk hu' ho hit' hT hsz hk => ?_
    have eu : u' = u := by
      have : its.toArray[i]? = some u := by simpa using hu
      rw [this] at hu'
      exact (Option.some.inj hu').symm
    subst eu
    refine ⟨_, rfl, wpAny_letOwnedTupleGo_enum (s := { s with heap := h', toks := tk + 1 }) ho fun h'' he' sb => ?_⟩
    have hT2 : h''.get? s.heap.objs.size = some { cls := .type "tuple", data := .seq #[.int i tk, u'] } := (sb.2 _ (Nat.ne_of_gt hel)).trans hT
    have new : ObjOk X.prog X.w (upd H s.heap.objs.size (.tup [.int (i : Nat), x])) h'' s.heap.objs.size (.tup [.int (i : Nat), x]) :=
      ⟨by show 2 ≤ sizeLine; decide, [.int i tk, u'], .cons ⟨_, rfl⟩ (.cons ru .nil), ⟨_, hT2, rfl, _, rfl⟩⟩
    have I1 : Inv X pins σ (upd H s.heap.objs.size (.tup [.int (i : Nat), x])) { s with heap := h'', toks := tk + 1 } :=
      I.turnedNew (ch := [e, it]) (fun b ob hb q => (sb.2 b (fun z => hb (by simp [z]))).trans (hk b ob (fun z => hb (by simp [z])) (fun z => hb (by simp [z])) q)) hf (Nat.le_refl _) new
    refine ⟨.ref s.heap.objs.size, _, I1, rfl, ⟨_, x, rfl, I.hok.fresh (Nat.le_refl _), rfl, fun ys hy => by rw [I.tuple_inj hy hq]; exact hx⟩, ⟨⟨u', ?_⟩, hit'.1.at fun o q => (sb.2 it (Ne.symm hne)).trans q, hne⟩, fun b hb => ?_⟩
    · have e1 : ((i + 1 : Nat) : Int) = (i : Int) + 1 := by omega
      rw [e1]; exact he'
    · have hb' : b < s.heap.objs.size := by
        have e' : b = e ∨ b = it := by simpa using hb
        rcases e' with z | z
        · rw [z]; exact hel
        · rw [z]; exact hil
      rw [upd_ne (Nat.ne_of_lt hb')]
      exact (hf b hb).1
  done := by
    intro X hP hw hK hc i pins s σ H E I hf st hg
    subst hP hw hK
    obtain ⟨⟨old, he⟩, hit, hne⟩ := st
    obtain ⟨xs, hq, hx⟩ := hg
    obtain ⟨its, rv, p, hz⟩ := I.tuple hq
    obtain ⟨f0, f1, f2, f3, f4, f5⟩ := hf it (by simp)
    have hl := rv.length
    have hn : i = its.toArray.size := by rw [List.size_toArray]; omega
    subst hn
    exact wpAny_pyNext_enum_endD (Draws.tuple (A := X.A.in1) (show X.A.in1.handled = none from I.ok.hd hc) it a hai its.toArray) he ⟨hit, p⟩ fun h' eb => ⟨rfl, I.turned (t' := s.toks) (fun b o hb q => eb b o hb q) f0 f1 f3 f4 f5⟩
  self := fun A i s Q E st h => let ⟨⟨_, he⟩, _⟩ := st; wpAny_pyIter_enum he h
def iEnumT (K : PySem.W.Frag) (ta : TA) : TI := fun σ H R => ta σ H fun vs H1 => ∃ a xs, vs = [.ref a] ∧ SqT K H1 a xs ∧ R (IteT K a) H1
theorem pi_enumT {X : Cx} {e : Expr} {ta : TA} {p pos tpos : Pos} {elts : List Expr} {kk : Nat} (hg : Gl X "enumerate") (hm : X.mg "enumerate" = none) (ha : PA X [e] ta) (hs : starEach [e] X.env = [(false, eval e X.env)]) :
    PI X (.Tuple elts kk tpos) (.Call (.Name "enumerate" p) [e] [] pos) (iEnumT X.K ta) := by
  refine ⟨fun pins s σ H R I h => ?_⟩
  refine Call_ (ld_blt I hg hm boot_enumerate (PyProof.Rows.callWith_type1 (thn (ha.run pos pins s σ H _ I h) fun us s1 ⟨vs, H1, I1, r1, q1⟩ => ?_) hs rfl))
  obtain ⟨a, xs, ex, hq, q⟩ := q1
  subst ex
  cases r1 with
  | cons r rr =>
    cases rr
    cases r
    obtain ⟨its, rv, p', hz⟩ := I1.tuple hq
    have hlt : a < s1.heap.objs.size := by obtain ⟨o, ho, _⟩ := p'; exact Heap.lt_size ho
    refine enum_begins1 (begins_tuple a its.toArray) p' fun h' he hit hsz hk => wpAny_pyIter_enum he ?_
    have I2 : Inv X pins σ H1 { s1 with heap := h' } := I1.kept (t' := s1.toks) hk
    refine ⟨s1.heap.objs.size + 1, [s1.heap.objs.size + 1, s1.heap.objs.size], _, _, H1, rfl, I2, turn_enumT a (s1.heap.objs.size + 1) s1.heap.objs.size (Nat.ne_of_lt hlt) (Nat.ne_of_lt (Nat.lt_succ_of_lt hlt)), ⟨⟨.none, he⟩, ⟨_, hit, rfl, rfl⟩, Nat.succ_ne_self _⟩, fun b hb => ?_, q⟩
    have e' : b = s1.heap.objs.size + 1 ∨ b = s1.heap.objs.size := by simpa using hb
    have hle : s1.heap.objs.size ≤ b := by
      rcases e' with z | z
      · rw [z]; exact Nat.le_add_right _ _
      · rw [z]; exact Nat.le_refl _
    exact I1.fpOk hle (I1.hok.fresh hle)
section
variable {U : Vw} {Δ : List Sv} {M : MS} {E : DE} {e a b c tg it : Expr} {es body : List Expr} {d da db : PyData} {ds : List PyData} {x y nm : Str} {pos p p1 p2 : Pos} {i j : Nat} {o : Addr} {m : MO} {S : List Sv}
/-- for tg in it: any things at the turns -/
def JOkS (J : It) (G : Hp) (P : Nat → Hp → L2.V → Prop) (n : Nat) : Prop := ∀ G1 H1, Ex G G1 → Ex G1 H1 → ∀ i : Nat, (i < n → J.go i H1 ∧ ∀ x H2, J.yld i H1 x H2 → ∃ G2, Ext G1 H1 G2 H2 ∧ P i G2 x) ∧ (i = n → J.stop i H1)
def IterS (U : Vw) (tg it : Expr) (Δ : List Sv) (M : MS) (P : Nat → Hp → L2.V → Prop) (n : Nat) : Prop := ∀ G0 H0 Gs G σ H, Sta U.K G0 H0 Gs Δ M G σ H → ∀ R : It → Hp → Prop, (∀ J G' H', Ext G H G' H' → JOkS J G' P n → R J H') → rI U tg it σ H R
def TgtS (U : Vw) (tg : Expr) (Δ : List Sv) (P : Hp → L2.V → Prop) (Δ' : List Sv) : Prop := ∀ G H σ v, Ex G H → Sl U.K G σ Δ → P G v → ∀ Q : L2.St → Hp → Prop, (∀ σ', Sl U.K G σ' Δ' → Q σ' H) → rG U tg v σ H Q
theorem ht_forS {body : List Stmt} {P : Nat → Hp → L2.V → Prop} {n : Nat} (W : Nat → List Sv → MS → Prop) (hi : IterS U tg it Δ M P n) (h0 : W 0 Δ M)
    (hs : ∀ (i : Nat) Δ' M', i < n → W i Δ' M' → ∃ Δ2, TgtS U tg Δ' (P i) Δ2 ∧ HS U body Δ2 M' ⟨W (i + 1), E.rt, E.nx, W (i + 1), fun _ => False⟩) (hd : ∀ Δ' M', W n Δ' M' → E.nx Δ' M')
    (hfs : ∀ r x, foldedSetIterable it (U.cx r).env x = pure x := by intro _ _; rfl) (hc : ∀ r, (U.cx r).calm = true := by intro _; rfl) : HT U (.For tg it body [] pos) Δ M E := fun G0 H0 Gs G σ H D st L =>
  ⟨_, fun r => ps_for PassesOwn.never (hc r) pi_r pg_r pss_r (hfs r), hi G0 H0 Gs G σ H st _ fun J G1 H1 e1 jok =>
    ⟨fun i m σ' H' => m = n - i ∧ i ≤ n ∧ ∃ Δ' M' G', W i Δ' M' ∧ Ex G1 G' ∧ Sta U.K G0 H0 Gs Δ' M' G' σ' H', ⟨_, rfl, Nat.zero_le _, Δ, M, G1, h0, .refl _, st.grow e1⟩, fun i m σ' H' ⟨em, hle, Δ', M', G', w, eg, st'⟩ => by
      obtain ⟨j1, j2⟩ := jok G' H' eg st'.ext.gh i
      by_cases hlt : i < n
      · obtain ⟨g1, g2⟩ := j1 hlt
        obtain ⟨Δ2, ht, hb⟩ := hs i Δ' M' hlt w
        refine .inr ⟨g1, fun σ3 H3 => ∃ Δ3 M3 G3, W (i + 1) Δ3 M3 ∧ Ex G1 G3 ∧ Sta U.K G0 H0 Gs Δ3 M3 G3 σ3 H3, fun σ3 H3 ⟨Δ3, M3, G3, w3, eg3, st3⟩ => ⟨_, by omega, rfl, hlt, Δ3, M3, G3, w3, eg3, st3⟩, fun x H2 hy => ?_⟩
        obtain ⟨G2, e2, hx⟩ := g2 x H2 hy
        have st2 := st'.grow e2
        refine ht G2 H2 σ' x e2.gh st2.sl hx _ fun σ2 sl2 => ?_
        have back : ∀ Δ3 M3 G3 σ3 H3, W (i + 1) Δ3 M3 → Sta U.K G0 H0 G2 Δ3 M3 G3 σ3 H3 → ∃ Δ3 M3 G3, W (i + 1) Δ3 M3 ∧ Ex G1 G3 ∧ Sta U.K G0 H0 Gs Δ3 M3 G3 σ3 H3 := fun Δ3 M3 G3 σ3 H3 q st3 =>
          ⟨Δ3, M3, G3, q, (eg.trans e2.gg).trans st3.kp, st3.since st2.kp⟩
        exact hb G0 H0 G2 G2 σ2 H2 _ ⟨st2.ext, sl2, st2.ms, .refl _⟩ ⟨back, L.rt, fun Δ3 M3 G3 σ3 H3 q st3 => L.nx _ _ _ _ _ q (st3.since st2.kp), back, fun _ _ _ h => h.elim⟩
      · have : i = n := by omega
        subst this
        exact .inl ⟨j2 rfl, L.nx _ _ G' σ' H' (hd Δ' M' w) st'⟩⟩⟩
/-- a written tuple of written tuples of flat things -/
def WrTT (K : PySem.W.Frag) (a : Addr) (dss : List (List PyData)) : Prop := ∃ as : List Addr, (∀ G, SqT K G a (as.map L2.V.ref)) ∧ Paired (fun b ds => ∃ vs, (∀ G, SqT K G b vs) ∧ Paired FlatD vs ds) as dss
def PEnum (K : PySem.W.Frag) (dss : List (List PyData)) (i : Nat) (G : Hp) (v : L2.V) : Prop := ∃ p b vs ds, v = .ref p ∧ G p = some (.tup [.int (i : Nat), .ref b]) ∧ (∀ G, SqT K G b vs) ∧ dss[i]? = some ds ∧ Paired FlatD vs ds
theorem it_enumTT {dss : List (List PyData)} {a : Addr} {nm : Str} {pn tpos : Pos} {elts : List Expr} {kk : Nat} (hw : WrTT U.K a dss) (hmg : U.mg nm = some (.ref a)) (hm : U.mg "enumerate" = none) (hnd : (nm == ("__debug__" : Str)) = false := by decide) (hg : U.sc.names.lookup ("enumerate" : Str) = some .globalImplicit := by rfl) (hg2 : U.sc.names.lookup nm = some .globalImplicit := by rfl) (hs : ∀ r, starEach [.Name nm pn] (U.cx r).env = [(false, eval (.Name nm pn) (U.cx r).env)] := by intro _; rfl) :
    IterS U (.Tuple elts kk tpos) (.Call (.Name "enumerate" p) [.Name nm pn] [] pos) Δ M (PEnum U.K dss) dss.length := fun G0 H0 Gs G σ H st R q => by
  obtain ⟨as, h1, h2⟩ := hw
  have hl := Paired.length h2
  refine ⟨iEnumT U.K (tCons (tC (.ref a)) tNil), fun r => pi_enumT (X := U.cx r) hg hm (pa_cons (pe_glob hg2 hmg rfl hnd) pa_nil (by rw [hs r]; rfl)) (hs r), a, _, rfl, h1 H, q _ G H (.refl st.ext.gh) fun G1 H1 z1 z2 i => ⟨fun hi => ?_, fun hi => ?_⟩⟩
  · obtain ⟨b, hb⟩ : ∃ b, as[i]? = some b := ⟨_, List.getElem?_eq_getElem (by omega)⟩
    obtain ⟨ds, hds⟩ : ∃ ds, dss[i]? = some ds := ⟨_, List.getElem?_eq_getElem hi⟩
    obtain ⟨b', hb', vs, h3, h4⟩ := Paired.at_ h2 hds
    rw [hb] at hb'
    cases hb'
    have hx : (as.map L2.V.ref)[i]? = some (.ref b) := by rw [List.getElem?_map, hb]; rfl
    refine ⟨⟨_, .ref b, h1 H1, hx⟩, fun x H2 hy => ?_⟩
    obtain ⟨T, x', rfl, hT, rfl, hy⟩ := hy
    have := hy _ (h1 H1)
    rw [hx] at this
    cases this
    exact ⟨upd G1 T (.tup [.int (i : Nat), .ref b]), .new z2 hT, T, b, vs, ds, rfl, upd_same, h3, hds, h4⟩
  · exact ⟨_, h1 H1, by rw [List.length_map]; omega⟩
theorem tgs_enum {dss : List (List PyData)} {ds : List PyData} {n : Nat} {tpos px py : Pos} {kk : Nat} (i j : Nat) (hN : U.N.Nodup) (hds : dss[n]? = some ds) (hi : U.N[i]? = some x := by rfl) (hj : U.N[j]? = some y := by rfl) (hx : Loc U.sc x := by first | exact Or.inl rfl | exact Or.inr rfl) (hy : Loc U.sc y := by first | exact Or.inl rfl | exact Or.inr rfl) (hf : U.fn x = true ∨ U.sc.names.lookup x = some .local := by first | exact .inl rfl | exact .inr rfl) (hf2 : U.fn y = true ∨ U.sc.names.lookup y = some .local := by first | exact .inl rfl | exact .inr rfl)
    (hc : ∀ r, (U.cx r).calm = true := by intro _; rfl) (hn : ∀ r, (assignEach [.Name x px, .Name y py] (U.cx r).env).length = 2 := by intro _; rfl) (hst : ∀ r, (assignEach [.Name x px, .Name y py] (U.cx r).env).findIdx? (·.1) = none := by intro _; rfl)
    (hs1 : ∀ r, (assignEach [.Name x px, .Name y py] (U.cx r).env).map (·.2) = assign (.Name x px) (U.cx r).env :: (assignEach [.Name y py] (U.cx r).env).map (·.2) := by intro _; rfl) (hs2 : ∀ r, (assignEach [.Name y py] (U.cx r).env).map (·.2) = assign (.Name y py) (U.cx r).env :: (assignEach [] (U.cx r).env).map (·.2) := by intro _; rfl) : TgtS U (.Tuple [.Name x px, .Name y py] kk tpos) Δ (PEnum U.K dss n) ((Δ.set i (.dat (.int n))).set j (.wt ds)) := fun G H σ v e sl h Q q => by
  obtain ⟨p, b, vs, ds', rfl, g, hb, hd', hf⟩ := h
  rw [hds] at hd'
  cases hd'
  refine ⟨gTup U.K 2 (rGs U [.Name x px, .Name y py]), fun r => pg_tup (hc r) pgs_r (hn := hn r) (hst := hst r), p, _, rfl, .of (e _ _ g), rfl, ?_⟩
  refine ⟨_, fun r => pgs_cons (pg_name (X := U.cx r) hN hi hx) (pgs_cons (pg_name (X := U.cx r) hN hj hy) pgs_nil (hs2 r)) (hs1 r), _, _, rfl, _, _, rfl, rfl, ?_⟩
  exact q _ ((sl.set i (s := .dat (.int n)) ⟨_, rfl, .int _⟩).set j (s := .wt ds) ⟨b, vs, rfl, hb G, hf⟩)
/-- script[lo:hi] -/
theorem ev_cutS {ns : List Int} {lo hi : Expr} {m k : Nat} {ps : Pos} (ha : EvX U a Δ M (.scr ns)) (hl : EvD U lo Δ M (.int m)) (hh : EvD U hi Δ M (.int k)) : EvD U (.Subscript a (.Slice (some lo) (some hi) none ps) pos) Δ M (.list (((ns.drop m).take (k - m)).map .int)) := fun G0 H0 Gs G σ H st Q q =>
  ⟨tSl (rSlL U.K) (rE U a) (tPart (rE U lo)) (tPart (rE U hi)), fun r => pe_slice (X := U.cx r) sl_list pe_r (po_some pe_r) (po_some pe_r), ha G0 H0 Gs G σ H st _ fun v G1 H1 e1 h1 => hl G0 H0 Gs G1 σ H1 (st.grow e1) _ fun w G2 H2 e2 h2 => ⟨m, h2.int_eq, hh G0 H0 Gs G2 σ H2 ((st.grow e1).grow e2) _ fun y G3 H3 e3 h3 => ⟨k, h3.int_eq, by
    obtain ⟨l, e0, hs⟩ := h1
    cases e0
    refine ⟨l, ns.map V.int, rfl, Evl.ex_l e3.gh (Evl.ex_l e3.gg (Evl.ex_l e2.gg hs)), fun p hp => ?_⟩
    have ec : cutV (ns.map V.int) (some (m : Int)) (some (k : Int)) = ((ns.drop m).take (k - m)).map V.int := by
      unfold cutV
      rw [HT.sIx_nat, HT.sIx_nat, List.length_map, List.map_take, List.map_drop]
      refine List.ext_getElem? fun t => ?_
      rw [List.getElem?_take, List.getElem?_take, List.getElem?_drop, List.getElem?_drop, List.getElem?_map, List.getElem?_map]
      by_cases h1 : m ≤ ns.length
      · rw [Nat.min_eq_left h1]
        by_cases h2 : k ≤ ns.length
        · rw [Nat.min_eq_left h2]
        · rw [Nat.min_eq_right (by omega)]
          by_cases h3 : t < ns.length - m
          · rw [if_pos h3, if_pos (by omega)]
          · rw [if_neg h3, List.getElem?_eq_none (by omega)]
            split <;> rfl
      · have e1 : ns[m + t]? = none := List.getElem?_eq_none (by omega)
        have e2 : ns[min m ns.length + t]? = none := List.getElem?_eq_none (by rw [Nat.min_eq_right (by omega)]; omega)
        rw [e1, e2]
        split <;> split <;> rfl
    rw [ec]
    exact q _ _ _ (((e1.trans e2).trans e3).trans (.new e3.gh hp)) (.lst upd_same (dtAll_ints _))⟩⟩⟩
end
end Ck
end Ck13Part

/-! ## CkM4 -/
section CkM4Part
set_option linter.all false
set_option maxRecDepth 100000
/-! Colours: how often they are had. Plain Lean. -/
namespace CkM
abbrev Col := Pl → Nat
def cntL (acc : List (Nat × Nat)) (k : Nat) : Nat := ((acc.find? fun kv => decide (kv.1 = k)).map (·.2)).getD 0
def bump (acc : List (Nat × Nat)) (k : Nat) : List (Nat × Nat) := if acc.any (fun kv => decide (kv.1 = k)) then acc.map fun kv => if kv.1 = k then (kv.1, cntL acc k + 1) else kv else acc ++ [(k, cntL acc k + 1)]
def hadF (κ : Col) (ps : List Pl) : List (Nat × Nat) := ps.foldl (fun acc p => bump acc (κ p)) []
def maxN (l : List Nat) : Nat := l.foldr max 0
def mostN (κ : Col) (ps : List Pl) : Nat := maxN ((hadF κ ps).map (·.2))
def maxKeys (κ : Col) (ps : List Pl) : List Nat := ((hadF κ ps).filter fun kv => decide (kv.2 = mostN κ ps)).map (·.1)
theorem hadF_snoc (κ : Col) (ps : List Pl) (p : Pl) : hadF κ (ps ++ [p]) = bump (hadF κ ps) (κ p) := by simp [hadF]
theorem any_key {acc : List (Nat × Nat)} {k : Nat} : (acc.any fun kv => decide (kv.1 = k)) = true ↔ k ∈ acc.map (·.1) := by
  rw [List.any_eq_true, List.mem_map]
  exact ⟨fun ⟨x, h, e⟩ => ⟨x, h, of_decide_eq_true e⟩, fun ⟨x, h, e⟩ => ⟨x, h, decide_eq_true e⟩⟩
theorem bump_keys (acc : List (Nat × Nat)) (k : Nat) : (bump acc k).map (·.1) = if k ∈ acc.map (·.1) then acc.map (·.1) else acc.map (·.1) ++ [k] := by
  unfold bump
  by_cases h : k ∈ acc.map (·.1)
  · rw [if_pos (any_key.mpr h), if_pos h, List.map_map]
    refine List.map_congr_left fun kv _ => ?_
    show (if kv.1 = k then (kv.1, cntL acc k + 1) else kv).1 = kv.1
    split <;> rfl
  · rw [if_neg (fun z => h (any_key.mp z)), if_neg h, List.map_append]
    rfl
theorem bump_nodup {acc : List (Nat × Nat)} (h : (acc.map (·.1)).Nodup) (k : Nat) : ((bump acc k).map (·.1)).Nodup := by
  rw [bump_keys]
  split
  · exact h
  · rename_i hk
    rw [List.nodup_append]
    exact ⟨h, by simp, fun a ha b hb e => by rw [List.mem_singleton] at hb; subst e hb; exact hk ha⟩
theorem hadF_rec {P : List Pl → List (Nat × Nat) → Prop} (κ : Col) (h0 : P [] []) (hs : ∀ ps acc p, P ps acc → P (ps ++ [p]) (bump acc (κ p))) : ∀ ps, P ps (hadF κ ps) := by
  intro ps
  have : ∀ (l : List Pl), P l.reverse (hadF κ l.reverse) := by
    intro l
    induction l with
    | nil => exact h0
    | cons a l ih =>
      rw [List.reverse_cons, hadF_snoc]
      exact hs _ _ _ ih
  have := this ps.reverse
  rwa [List.reverse_reverse] at this
theorem hadF_nodup (κ : Col) : ∀ ps, ((hadF κ ps).map (·.1)).Nodup := hadF_rec (P := fun _ acc => (acc.map (·.1)).Nodup) κ List.nodup_nil fun _ acc p h => bump_nodup h (κ p)
theorem hadF_len (κ : Col) : ∀ ps, (hadF κ ps).length ≤ ps.length := hadF_rec (P := fun ps acc => acc.length ≤ ps.length) κ (Nat.le_refl _) fun ps acc p h => by
  unfold bump
  split
  · rw [List.length_map, List.length_append]; omega
  · rw [List.length_append, List.length_append]
    show acc.length + 1 ≤ ps.length + 1
    omega
theorem hadF_ne (κ : Col) {ps : List Pl} (h : ps ≠ []) : 0 < (hadF κ ps).length := by
  have : ∀ ps, ps ≠ [] → hadF κ ps ≠ [] := hadF_rec (P := fun ps acc => ps ≠ [] → acc ≠ []) κ (fun h => absurd rfl h) fun ps acc p _ _ => by
    unfold bump
    split
    · rename_i h
      intro z
      have z := List.map_eq_nil_iff.mp z
      subst z
      simp at h
    · simp
  exact List.length_pos_iff.mpr (this ps h)
theorem maxN_le {l : List Nat} {x : Nat} (h : x ∈ l) : x ≤ maxN l := by
  induction l with
  | nil => cases h
  | cons a l ih =>
    show x ≤ max a (maxN l)
    rcases List.mem_cons.mp h with rfl | h
    · exact Nat.le_max_left _ _
    · exact Nat.le_trans (ih h) (Nat.le_max_right _ _)
theorem maxN_mem {l : List Nat} (h : l ≠ []) : maxN l ∈ l := by
  induction l with
  | nil => exact absurd rfl h
  | cons a l ih =>
    show max a (maxN l) ∈ a :: l
    cases l with
    | nil => simp [maxN]
    | cons b l =>
      rcases Nat.le_total a (maxN (b :: l)) with z | z
      · rw [Nat.max_eq_right z]
        exact List.mem_cons_of_mem _ (ih (by simp))
      · rw [Nat.max_eq_left z]
        exact List.mem_cons_self
theorem maxN_unique {l : List Nat} {m : Nat} (h : m ∈ l) (h2 : ∀ y ∈ l, y ≤ m) : m = maxN l := by
  have := maxN_le h
  have := h2 _ (maxN_mem (List.ne_nil_of_mem h))
  omega
theorem maxKeys_ne (κ : Col) {ps : List Pl} (h : ps ≠ []) : maxKeys κ ps ≠ [] := by
  have hne := hadF_ne κ h
  have hm : mostN κ ps ∈ (hadF κ ps).map (·.2) := maxN_mem fun z => by
    have := List.map_eq_nil_iff.mp z
    rw [this] at hne
    exact absurd hne (by decide)
  obtain ⟨kv, h1, h2⟩ := List.mem_map.mp hm
  intro z
  unfold maxKeys at z
  have z := List.map_eq_nil_iff.mp z
  have : kv ∈ (hadF κ ps).filter fun kv => decide (kv.2 = mostN κ ps) := List.mem_filter.mpr ⟨h1, decide_eq_true h2⟩
  rw [z] at this
  cases this
theorem cntL_mem {acc : List (Nat × Nat)} (hn : (acc.map (·.1)).Nodup) {kv : Nat × Nat} (h : kv ∈ acc) : cntL acc kv.1 = kv.2 := by
  induction acc with
  | nil => cases h
  | cons a acc ih =>
    rw [List.map_cons, List.nodup_cons] at hn
    unfold cntL
    rw [List.find?_cons]
    by_cases e : a.1 = kv.1
    · simp only [e, decide_true]
      rcases List.mem_cons.mp h with rfl | h
      · rfl
      · exact absurd (List.mem_map.mpr ⟨kv, h, e.symm⟩) hn.1
    · simp only [e, decide_false]
      rcases List.mem_cons.mp h with rfl | h
      · exact absurd rfl e
      · exact ih hn.2 h
/-- how often a colour stands at places -/
def cnt (κ : Col) (ps : List Pl) (k : Nat) : Nat := (ps.filter fun p => decide (κ p = k)).length
theorem cntL_cons (a : Nat × Nat) (acc : List (Nat × Nat)) (j : Nat) : cntL (a :: acc) j = if a.1 = j then a.2 else cntL acc j := by
  unfold cntL
  rw [List.find?_cons]
  by_cases e : a.1 = j <;> simp [e]
theorem cntL_out {acc : List (Nat × Nat)} {j : Nat} (h : j ∉ acc.map (·.1)) : cntL acc j = 0 := by
  induction acc with
  | nil => rfl
  | cons a acc ih =>
    rw [List.map_cons, List.mem_cons, not_or] at h
    rw [cntL_cons, if_neg (fun e => h.1 e.symm)]
    exact ih h.2
theorem cntL_set (k c j : Nat) : ∀ acc : List (Nat × Nat), cntL (acc.map fun kv => if kv.1 = k then (kv.1, c) else kv) j = if j = k ∧ k ∈ acc.map (·.1) then c else cntL acc j
  | [] => by simp [cntL]
  | a :: acc => by
    have ih := cntL_set k c j acc
    rw [List.map_cons, cntL_cons, cntL_cons, ih, List.map_cons]
    simp only [List.mem_cons]
    by_cases e : a.1 = k
    · rw [if_pos e]
      by_cases e2 : j = k
      · subst e2; simp [e]
      · have : ¬ a.1 = j := fun z => e2 (z.symm.trans e)
        simp [e2, this]
    · rw [if_neg e]
      by_cases e2 : j = k
      · subst e2
        have e3 : ¬ j = a.1 := fun z => e z.symm
        simp only [e, e3, if_false, false_or]
      · simp [e2]
theorem cntL_add (k c j : Nat) : ∀ acc : List (Nat × Nat), k ∉ acc.map (·.1) → cntL (acc ++ [(k, c)]) j = if j = k then c else cntL acc j
  | [], _ => by
    rw [List.nil_append, cntL_cons]
    by_cases e : k = j
    · simp [e]
    · simp [e, Ne.symm e]
  | a :: acc, h => by
    rw [List.map_cons, List.mem_cons, not_or] at h
    rw [List.cons_append, cntL_cons, cntL_cons, cntL_add k c j acc h.2]
    by_cases e : a.1 = j
    · have : ¬ j = k := fun z => h.1 (z.symm.trans e.symm)
      simp [e, this]
    · simp [e]
theorem cntL_bump (acc : List (Nat × Nat)) (k j : Nat) : cntL (bump acc k) j = if j = k then cntL acc k + 1 else cntL acc j := by
  unfold bump
  by_cases h : k ∈ acc.map (·.1)
  · rw [if_pos (any_key.mpr h), cntL_set]
    by_cases e : j = k <;> simp [e, h]
  · rw [if_neg (fun z => h (any_key.mp z)), cntL_add _ _ _ _ h]
theorem cnt_snoc (κ : Col) (ps : List Pl) (p : Pl) (k : Nat) : cnt κ (ps ++ [p]) k = cnt κ ps k + if κ p = k then 1 else 0 := by
  unfold cnt
  rw [List.filter_append, List.length_append, List.filter_cons]
  by_cases e : κ p = k <;> simp [e]
theorem cntL_hadF (κ : Col) : ∀ ps, ∀ k, cntL (hadF κ ps) k = cnt κ ps k := hadF_rec (P := fun ps acc => ∀ k, cntL acc k = cnt κ ps k) κ (fun k => rfl) fun ps acc p h k => by
  rw [cntL_bump, cnt_snoc, h, h]
  by_cases e : k = κ p
  · subst e; simp
  · simp [e, Ne.symm e]
theorem hadF_keys (κ : Col) : ∀ ps, ∀ p ∈ ps, κ p ∈ (hadF κ ps).map (·.1) := hadF_rec (P := fun ps acc => ∀ p ∈ ps, κ p ∈ acc.map (·.1)) κ (fun p h => nomatch h) fun ps acc p h q hq => by
  rw [bump_keys]
  rw [List.mem_append, List.mem_singleton] at hq
  split
  · rename_i hk
    rcases hq with hq | rfl
    · exact h q hq
    · exact hk
  · rw [List.mem_append, List.mem_singleton]
    rcases hq with hq | rfl
    · exact .inl (h q hq)
    · exact .inr rfl
theorem hadF_from (κ : Col) : ∀ ps, ∀ k ∈ (hadF κ ps).map (·.1), ∃ p ∈ ps, κ p = k := hadF_rec (P := fun ps acc => ∀ k ∈ acc.map (·.1), ∃ p ∈ ps, κ p = k) κ (fun k h => nomatch h) fun ps acc p h k hk => by
  rw [bump_keys] at hk
  split at hk
  · obtain ⟨q, h1, h2⟩ := h k hk
    exact ⟨q, List.mem_append_left _ h1, h2⟩
  · rw [List.mem_append, List.mem_singleton] at hk
    rcases hk with hk | rfl
    · obtain ⟨q, h1, h2⟩ := h k hk
      exact ⟨q, List.mem_append_left _ h1, h2⟩
    · exact ⟨p, List.mem_append_right _ (by simp), rfl⟩
theorem maxKeys_from {κ : Col} {ps : List Pl} {k : Nat} (h : k ∈ maxKeys κ ps) : ∃ p ∈ ps, κ p = k := by
  obtain ⟨kv, h1, rfl⟩ := List.mem_map.mp h
  exact hadF_from κ ps kv.1 (List.mem_map.mpr ⟨kv, (List.mem_filter.mp h1).1, rfl⟩)
theorem hadF_mem {κ : Col} {ps : List Pl} {kv : Nat × Nat} (h : kv ∈ hadF κ ps) : kv.2 = cnt κ ps kv.1 := by
  rw [← cntL_hadF, cntL_mem (hadF_nodup κ ps) h]
theorem cnt_le_most (κ : Col) (ps : List Pl) (k : Nat) : cnt κ ps k ≤ mostN κ ps := by
  by_cases h : k ∈ (hadF κ ps).map (·.1)
  · obtain ⟨kv, h1, rfl⟩ := List.mem_map.mp h
    rw [← hadF_mem h1]
    exact maxN_le (List.mem_map.mpr ⟨kv, h1, rfl⟩)
  · rw [← cntL_hadF, cntL_out h]; exact Nat.zero_le _
theorem maxKeys_cnt {κ : Col} {ps : List Pl} {k : Nat} (h : k ∈ maxKeys κ ps) : cnt κ ps k = mostN κ ps := by
  obtain ⟨kv, h1, rfl⟩ := List.mem_map.mp h
  obtain ⟨h1, h2⟩ := List.mem_filter.mp h1
  rw [← hadF_mem h1]
  exact of_decide_eq_true h2
end CkM
end CkM4Part

/-! ## Ck14 -/
section Ck14Part
set_option Elab.async false
set_option linter.all false
set_option maxRecDepth 100000
set_option maxHeartbeats 4000000
/-! Carpets as data; most_had. -/
namespace Ck
open PySem PySem.Spec PyProof.Rows L2 CkM
open PySem.W (EachIs AllAlike Sortable dataLe alike)
local macro_rules | `(tactic| walk_at "nf") => `(tactic| dsimp only [List.set_cons_zero, List.set_cons_succ, List.length_cons, List.length_nil, List.replicate_succ, List.cons_append, List.nil_append, List.replicate_zero, List.append_nil, Nat.reduceSub, Nat.reduceAdd, List.eraseIdx_cons_zero, List.eraseIdx_cons_succ])
local macro_rules | `(tactic| walk_at "len") => `(tactic| exact small_len (Nat.le_of_ble_eq_true rfl))
def chS (k : Nat) : Str := ⟨#[k]⟩
def chD (k : Nat) : PyData := .str (chS k)
theorem chS_inj {a b : Nat} (h : chS a = chS b) : a = b := by
  unfold chS at h
  injection h with h
  have := congrArg Array.toList h
  simpa using this
theorem chD_inj {a b : Nat} (h : chD a = chD b) : a = b := chS_inj (PyData.str.inj h)
def rowS (n : Nat) (κ : Col) (r : Int) : Str := ⟨((List.range n).map fun (c : Nat) => κ (r, (c : Int))).toArray⟩
def cpD (n : Nat) (κ : Col) : PyData := .tuple ((List.range n).map fun (r : Nat) => .str (rowS n κ (r : Int)))
theorem atI_range {α : Type} {n : Nat} {f : Nat → α} {i : Int} (h0 : 0 ≤ i) (h1 : i < n) : L2.atI ((List.range n).map f) i = some (f i.toNat) := by
  unfold L2.atI
  rw [List.length_map, List.length_range]
  have : ixN n i = some i.toNat := by
    unfold ixN
    rw [if_pos h0, if_pos (by omega)]
  rw [this]
  show ((List.range n).map f)[i.toNat]? = _
  rw [List.getElem?_map, List.getElem?_range (by omega)]
  rfl
theorem row_len (n : Nat) (κ : Col) (r : Int) : (rowS n κ r).length = n := by
  show (List.toArray _).size = n
  rw [List.size_toArray, List.length_map, List.length_range]
section
variable {U : Vw} {Δ : List Sv} {M : MS} {E : DE} {e a b c tg it : Expr} {es : List Expr} {d da db : PyData} {ds : List PyData} {x nm : Str} {pos p p1 p2 : Pos} {i j : Nat} {o : Addr}
/-- carpet[r][c] -/
theorem ev_cell {n : Nat} {κ : Col} {q : Pl} {pi : Pos} (hn : n ≤ 3) (ha : EvD U a Δ M (cpD n κ)) (hb : EvD U b Δ M (.int q.1)) (hc : EvD U c Δ M (.int q.2)) (hq : q ∈ allPl n) (hs : PlainIx b := by exact fun _ _ => rfl) (hs2 : PlainIx c := by exact fun _ _ => rfl) : EvD U (.Subscript (.Subscript a b pi) c pos) Δ M (chD (κ q)) := by
  rw [mem_allPl] at hq
  have h1 := atI_range (f := fun (r : Nat) => PyData.str (rowS n κ (r : Int))) hq.1.1 hq.1.2
  have e1 : ((q.1.toNat : Nat) : Int) = q.1 := Int.toNat_of_nonneg hq.1.1
  have h2 := atI_range (f := fun (c : Nat) => κ (q.1, (c : Int))) hq.2.1 hq.2.2
  have e2 : ((q.2.toNat : Nat) : Int) = q.2 := Int.toNat_of_nonneg hq.2.1
  rw [e1] at h1
  rw [e2] at h2
  refine ev_ix (ev_ix ha hb (IxD.tup h1) hs) hc (IxD.str (c := κ q) (small_len (by rw [row_len]; omega)) ?_) hs2
  show L2.atI (List.toArray _).toList q.2 = _
  rw [List.toList_toArray]
  exact h2
/-- max(e.values()), the dict being made -/
theorem ev_maxValuesM {kvs : List (Key × Int)} {mx : Int} (he : EvX U e Δ M (.ref o)) (hj : M[j]? = some (o, .dK (kvs.map fun kv => (kv.1, PyData.int kv.2)))) (hne : 0 < kvs.length) (h1 : ∀ m, m ∈ kvs.map (·.2) → (∀ y, y ∈ kvs.map (·.2) → y ≤ m) → m = mx) (hm : U.mg "max" = none) (hg : U.sc.names.lookup ("max" : Str) = some .globalImplicit := by rfl)
    (hv : ∀ r : Cx, PE (U.cx r) (.Call (.Attribute e "values" p1) [] [] p2) (tBM0 U.K "dict" rValues (rE U e)) := by exact fun r => pe_bm0 PySem.F.plainAttrs_dict PySem.F.slot_dict_values PySem.F.type_dict_values mt_values pe_r)
    (hst : ∀ r, starEach [.Call (.Attribute e "values" p1) [] [] p2] (U.cx r).env = (false, eval (.Call (.Attribute e "values" p1) [] [] p2) (U.cx r).env) :: starEach [] (U.cx r).env := by intro _; rfl) (hc : ∀ r, (U.cx r).calm = true := by intro _; rfl) :
    EvD U (.Call (.Name "max" p) [.Call (.Attribute e "values" p1) [] [] p2] [] pos) Δ M (.int mx) := fun G0 H0 Gs G σ H st Q q =>
  ⟨_, fun r => pe_callB (X := U.cx r) (cr_maxV (hc r)) hg hm (by decide +kernel) (pa_cons (hv r) pa_nil (hst r)) (he := hst r), he G0 H0 Gs G σ H st _ fun v G1 H1 e1 hv' => by
    cases hv'
    obtain ⟨_, _, ks, q3, q4⟩ := (st.grow e1).ref hj
    rw [q4.ints] at q3
    refine ⟨.inr (.inr (.inl ⟨rfl, .inl ⟨_, q3⟩⟩)), o, _, rfl, rfl, q3, fun p hp => ?_⟩
    refine ⟨p, o, kvs, rfl, upd_same, by rw [upd_ne (ne_of_none q3 hp)]; exact q3, hne, fun m q1 q2 => ?_⟩
    rw [h1 m q1 q2]
    exact q _ G1 _ (e1.trans (.newM e1.gh hp)) (.int _)⟩
end
/-- the counts as a dict -/
def ckK (k : Nat) : Key := .inr (chS k)
def hadI (acc : List (Nat × Nat)) : List (Key × Int) := acc.map fun kv => (ckK kv.1, (kv.2 : Int))
def hadM (acc : List (Nat × Nat)) : List (Key × PyData) := (hadI acc).map fun kv => (kv.1, PyData.int kv.2)
theorem ckK_inj {a b : Nat} (h : ckK a = ckK b) : a = b := chS_inj (Sum.inr.inj h)
theorem valD_had (acc : List (Nat × Nat)) (k : Nat) : (valD (hadM acc) (ckK k)).getD (.int 0) = .int (cntL acc k) := by
  induction acc with
  | nil => rfl
  | cons a acc ih =>
    rw [cntL_cons]
    unfold valD at ih ⊢
    rw [hadM, hadI, List.map_cons, List.map_cons, List.find?_cons]
    by_cases e : a.1 = k
    · subst e; simp
    · have : ¬ ckK a.1 = ckK k := fun z => e (ckK_inj z)
      simp only [this, e, decide_false, if_false]
      exact ih
theorem putD_had (acc : List (Nat × Nat)) (k : Nat) : putD (hadM acc) (ckK k) (.int ((cntL acc k : Int) + 1)) = hadM (CkM.bump acc k) := by
  have e1 : ((cntL acc k : Int) + 1) = ((cntL acc k + 1 : Nat) : Int) := by omega
  rw [e1]
  unfold putD CkM.bump
  have ea : ((hadM acc).any fun kv => decide (kv.1 = ckK k)) = acc.any fun kv => decide (kv.1 = k) := by
    rw [hadM, hadI, List.map_map, List.any_map]
    congr 1
    funext kv
    exact decide_eq_decide.mpr ⟨fun z => ckK_inj z, fun z => by rw [← z]; rfl⟩
  rw [ea]
  split
  · rw [hadM, hadI, hadM, hadI, List.map_map, List.map_map, List.map_map, List.map_map]
    refine List.map_congr_left fun kv _ => ?_
    by_cases e : kv.1 = k
    · subst e; simp
    · have : ¬ ckK kv.1 = ckK k := fun z => e (ckK_inj z)
      simp [e, this]
  · simp [hadM, hadI]
theorem valV_had {acc : List (Nat × Nat)} (hn : (acc.map (·.1)).Nodup) {kv : Nat × Nat} (h : kv ∈ acc) : valV ((hadI acc).map fun kv => (kv.1, V.int kv.2)) (ckK kv.1) = some (.int kv.2) := by
  induction acc with
  | nil => cases h
  | cons a acc ih =>
    rw [List.map_cons, List.nodup_cons] at hn
    rw [hadI, List.map_cons, List.map_cons]
    by_cases e : a.1 = kv.1
    · rw [valV_pos (congrArg ckK e)]
      rcases List.mem_cons.mp h with rfl | h
      · rfl
      · exact absurd (List.mem_map.mpr ⟨kv, h, e.symm⟩) hn.1
    · rw [valV_neg (fun z => e (ckK_inj z))]
      rcases List.mem_cons.mp h with rfl | h
      · exact absurd rfl e
      · exact ih hn.2 h
/-- the colours most had, sorted -/
def colsL (κ : Col) (ps : List Pl) : List Nat := (maxKeys κ ps).mergeSort (dataLe false chD)
theorem sort_cols (l : List Nat) : (l.map chD).mergeSort (dataLe false id) = (l.mergeSort (dataLe false chD)).map chD := by
  rw [← PySem.W.sort_maps (r := dataLe false chD) (s := dataLe false id) chD fun _ _ _ _ => rfl]
theorem cols_perm (κ : Col) (ps : List Pl) : (colsL κ ps).Perm (maxKeys κ ps) := List.mergeSort_perm _ _
def topC (κ : Col) (ps : List Pl) : Nat := (colsL κ ps).headD 0
theorem topC_mem {κ : Col} {ps : List Pl} (h : ps ≠ []) : topC κ ps ∈ maxKeys κ ps := by
  have hne := maxKeys_ne κ h
  have hp := cols_perm κ ps
  unfold topC
  cases e : colsL κ ps with
  | nil => rw [e] at hp; exact absurd (List.Perm.nil_eq hp).symm hne
  | cons a l => exact hp.mem_iff.mp (by rw [e]; exact List.mem_cons_self)
theorem topC_head {κ : Col} {ps : List Pl} (h : ps ≠ []) : (colsL κ ps)[0]? = some (topC κ ps) := by
  have hne := maxKeys_ne κ h
  have hp := cols_perm κ ps
  unfold topC
  cases e : colsL κ ps with
  | nil => rw [e] at hp; exact absurd (List.Perm.nil_eq hp).symm hne
  | cons a l => rfl
/-- colours that are letters -/
def okC (κ : Col) : Prop := ∀ p, PyData.strOk (chS (κ p)) = true
section
variable {P : Program} {w : World} {K : PySem.W.Frag} {mg : Str → Option Value} {base : Heap}
def RMostHad (S : List Sv) (d : PyData) : Prop := ∃ (n : Nat) (κ : Col) (ps : List Pl), S = [.dat (cpD n κ), .dat (clD ps)] ∧ n ≤ 3 ∧ (∀ p ∈ ps, p ∈ allPl n) ∧ ps ≠ [] ∧ ps.length ≤ 9 ∧ okC κ ∧ d = .tuple [.int (mostN κ ps), .list ((colsL κ ps).map chD)]
def keyS : Key → Str
  | .inr x => x
  | .inl _ => ""

theorem ok_mostHad {f : Addr} {fd : FuncData} {k : Nat} (F : Fun K "most_had" "most_had" sMostHad f fd) (m1 : mg "max" = none) (m2 : mg "sorted" = none) : FnOk P w K mg base CX0 (k + 1) f fd pMostHad (SpD K RMostHad) := by
  refine fn_ok F scMostHad (fun S d h => ?_) fun A hr S d h => ?_
  · obtain ⟨n, κ, ps, rfl, _⟩ := h
    rfl
  · obtain ⟨n, κ, ps, rfl, h3, hps, hne, h9, hok, rfl⟩ := h
    have nd := scMostHad.nd
    have hu := hu_of hr
    have hu64 := hr.units
    walk_at "nf"
    refine hs_cons (ht_newK 2 nd fun o1 => ?_)
    walk_at "nf"
    refine hs_cons (ht_for (xs := ps) (g := plD) (fun i Δ M => ∃ s3 s4, Δ = [.dat (cpD n κ), .dat (clD ps), .ref o1, s3, s4, .non, .non] ∧ M = [(o1, .dK (hadM (hadF κ (ps.take i))))]) (it_list (ev_v slot1 rfl)) ⟨.non, .non, rfl, rfl⟩ ?_ ?_)
    · rintro i y Δ M hy ⟨s3, s4, rfl, rfl⟩
      refine ⟨_, _, tg_tup (tgs_cons (tg_name 3 nd) (tgs_cons (tg_name 4 nd) tgs_nil)), ?_⟩
      walk_at "nf"
      have hyp := hps y (List.mem_of_getElem? hy)
      have hlen := hadF_len κ (ps.take i)
      have htk : (ps.take i).length ≤ ps.length := by rw [List.length_take]; omega
      refine hs_cons (ht_putK 0 (ks := ckK (κ y)) hu (ev_bin (ev_get2K (j := 0) (kvs := hadM (hadF κ (ps.take i))) (ks := ckK (κ y)) hu (ex_ref 2 rfl) rfl (ev_cell (q := y) h3 (ev_v slot0 rfl) (ev_v slot3 rfl) (ev_v slot4 rfl) hyp) ev_int (fun r => ⟨rfl, rfl, rfl, rfl⟩) |>.to (valD_had _ _)) ev_int br_add) (ex_ref 2 rfl) rfl (ev_cell (q := y) h3 (ev_v slot0 rfl) (ev_v slot3 rfl) (ev_v slot4 rfl) hyp) (by rw [hadM, hadI, List.length_map, List.length_map]; omega) ?_)
      walk_at "nf"
      refine hs_nil ⟨_, _, rfl, ?_⟩
      rw [putD_had, take_succ' hy, hadF_snoc]
    · rintro Δ M ⟨s3, s4, rfl, rfl⟩
      rw [List.take_length]
      have hpos : 0 < (hadI (hadF κ ps)).length := by rw [hadI, List.length_map]; exact hadF_ne κ hne
      have hlen := hadF_len κ ps
      refine hs_cons (ht_set 5 nd (ev_maxValuesM (kvs := hadI (hadF κ ps)) (mx := mostN κ ps) (ex_ref 2 rfl) (j := 0) rfl hpos (fun m h1 h2 => ?_) m1) ?_)
      · rw [hadI, List.map_map] at h1 h2
        obtain ⟨kv, k1, rfl⟩ := List.mem_map.mp h1
        have : kv.2 = mostN κ ps := maxN_unique (List.mem_map.mpr ⟨kv, k1, rfl⟩) fun y hy => by
          obtain ⟨kv2, k2, rfl⟩ := List.mem_map.mp hy
          have := h2 _ (List.mem_map.mpr ⟨kv2, k2, rfl⟩)
          exact Int.ofNat_le.mp this
        exact congrArg _ this
      walk_at "nf"
      have hcols : (((hadI (hadF κ ps)).filter fun d => decide (d.2 = (mostN κ ps : Int))).map fun d => keyS d.1).map PyData.str = (maxKeys κ ps).map chD := by
        unfold hadI maxKeys
        rw [List.filter_map, List.map_map, List.map_map, List.map_map]
        have : ((fun d : Key × Int => decide (d.2 = (mostN κ ps : Int))) ∘ fun kv : Nat × Nat => (ckK kv.1, (kv.2 : Int))) = fun kv => decide (kv.2 = mostN κ ps) := by
          funext kv
          exact decide_eq_decide.mpr ⟨fun z => Int.ofNat.inj z, fun z => congrArg _ z⟩
        rw [this]
        rfl
      have hkm : ∀ k ∈ maxKeys κ ps, PyData.strOk (chS k) = true := fun k hk => by
        obtain ⟨p, _, rfl⟩ := maxKeys_from hk
        exact hok p
      refine hs_cons (ht_ret (ev_tup (ds := [.int (mostN κ ps), .list ((colsL κ ps).map chD)]) (eas_cons (ev_v slot5 rfl) (eas_cons ((ev_sortedL (ds := (maxKeys κ ps).map chD) hu64 (EvD.to (ev_lcKeys 2 0 [("colour", 6)] (kvs := hadI (hadF κ ps)) (fun d => keyS d.1) (fun d => decide (d.2 = (mostN κ ps : Int))) nd (by dsimp only [vwOf]; decide +kernel) rfl rfl (by walk_at "nf"; exact (ev_v slot2 rfl)) (by rw [hadI, List.length_map]; exact Nat.lt_of_le_of_lt (Nat.le_trans hlen h9) (by decide)) (fun t d hd => ?_)) (congrArg PyData.list hcols)) ?_ ?_ ?_ m2).to ?_) eas_nil (by intro _; rfl)) (by intro _; rfl)) (by walk_at "len")) rfl)
      · unfold hadI at hd
        rw [List.getElem?_map] at hd
        cases hk : (hadF κ ps)[t]? with
        | none => rw [hk] at hd; cases hd
        | some kv =>
          rw [hk] at hd
          cases hd
          have hkv : kv ∈ hadF κ ps := List.mem_of_getElem? hk
          refine ⟨_, _, tg_name 6 nd, fun i hi => hi, ?_⟩
          walk_at "nf"
          refine ⟨ets_one (et_cmp (ev_getF (kvs := hadI (hadF κ ps)) (k := ckK kv.1) hu (ev_v slot2 rfl) (ev_v slot6 rfl) (valV_had (hadF_nodup κ ps) hkv)) (ev_v slot5 rfl) cr_eqI), fun _ => (ev_v slot6 rfl)⟩
      · exact .of fun b b' => by simp [chD, alike]
      · exact .others fun b => ⟨fun h => (nomatch h), fun xs h => (nomatch h)⟩
      · intro d hd
        obtain ⟨k, hk, rfl⟩ := List.mem_map.mp hd
        exact ⟨by simpa [chD, PyData.canLay0] using hkm k hk, by simp [chD, PyData.depth]⟩
      · rw [sort_cols]
        rfl
end
end Ck
end Ck14Part

/-! ## Ck15 -/
section Ck15Part
set_option Elab.async false
set_option linter.all false
set_option maxRecDepth 100000
set_option maxHeartbeats 4000000
/-! with_colours, by_paper, mended. -/
namespace Ck
open PySem PySem.Spec PyProof.Rows L2 CkM
local macro_rules | `(tactic| walk_at "nf") => `(tactic| first | dsimp only [wipeS, List.map_cons, List.map_nil, List.set_cons_zero, List.set_cons_succ, List.length_cons, List.length_nil, List.replicate_succ, List.cons_append, List.nil_append, List.replicate_zero, List.append_nil, Nat.reduceSub, Nat.reduceAdd, List.eraseIdx_cons_zero, List.eraseIdx_cons_succ] | simp only [wipeS, List.map_cons, List.map_nil, List.set_cons_zero, List.set_cons_succ, List.length_cons, List.length_nil, List.replicate_succ, List.cons_append, List.nil_append, List.replicate_zero, List.append_nil, Nat.reduceSub, Nat.reduceAdd, List.eraseIdx_cons_zero, List.eraseIdx_cons_succ])
local macro_rules | `(tactic| walk_at "len") => `(tactic| exact small_len (Nat.le_of_ble_eq_true rfl))
/-! ### a dict of places to colours -/
def look (prs : List (Pl × Nat)) (p : Pl) : Option Nat := (prs.reverse.find? fun q => decide (q.1 = p)).map (·.2)
def putAll (prs : List (Pl × Nat)) : List (List Key × PyData) := prs.foldl (fun acc q => putD acc (plK q.1) (chD q.2)) []
theorem look_snoc (prs : List (Pl × Nat)) (q : Pl × Nat) (p : Pl) : look (prs ++ [q]) p = if q.1 = p then some q.2 else look prs p := by
  unfold look
  rw [List.reverse_append, List.reverse_singleton, List.singleton_append, List.find?_cons]
  by_cases e : q.1 = p <;> simp [e]
theorem putAll_snoc (prs : List (Pl × Nat)) (q : Pl × Nat) : putAll (prs ++ [q]) = putD (putAll prs) (plK q.1) (chD q.2) := by simp [putAll]
theorem valD_cons {κ : Type} [DecidableEq κ] (a : κ × PyData) (l : List (κ × PyData)) (k : κ) : valD (a :: l) k = if a.1 = k then some a.2 else valD l k := by
  unfold valD
  rw [List.find?_cons]
  by_cases e : a.1 = k <;> simp [e]
theorem valD_putD {κ : Type} [DecidableEq κ] (kvs : List (κ × PyData)) (k j : κ) (d : PyData) : valD (putD kvs k d) j = if k = j then some d else valD kvs j := by
  unfold putD
  split
  · rename_i ha
    have : ∀ l : List (κ × PyData), valD (l.map fun kv => if kv.1 = k then (kv.1, d) else kv) j = if k = j ∧ (l.any fun kv => decide (kv.1 = k)) = true then some d else valD l j := by
      intro l
      induction l with
      | nil => simp [valD]
      | cons a l ih =>
        rw [List.map_cons, valD_cons, valD_cons, ih, List.any_cons]
        by_cases e : a.1 = k
        · subst e
          by_cases e2 : a.1 = j <;> simp [e2]
        · by_cases e2 : k = j
          · subst e2
            simp only [e, decide_false, Bool.false_or, if_false]
          · simp [e, e2]
    rw [this, ha]
    simp
  · rename_i ha
    have : ∀ l : List (κ × PyData), ¬ (l.any fun kv => decide (kv.1 = k)) = true → valD (l ++ [(k, d)]) j = if k = j then some d else valD l j := by
      intro l
      induction l with
      | nil => intro _; rw [List.nil_append, valD_cons]
      | cons a l ih =>
        intro h
        rw [List.any_cons, Bool.or_eq_true, not_or] at h
        rw [List.cons_append, valD_cons, valD_cons, ih h.2]
        have : ¬ a.1 = k := fun z => h.1 (decide_eq_true z)
        by_cases e : a.1 = j
        · have : ¬ k = j := fun z => this (e.trans z.symm)
          simp [e, this]
        · simp [e]
    exact this kvs ha
theorem valD_all (prs : List (Pl × Nat)) (p : Pl) : valD (putAll prs) (plK p) = (look prs p).map chD := by
  have : ∀ l : List (Pl × Nat), valD (putAll l.reverse) (plK p) = (look l.reverse p).map chD := by
    intro l
    induction l with
    | nil => rfl
    | cons a l ih =>
      rw [List.reverse_cons, putAll_snoc, look_snoc, valD_putD, ih]
      by_cases e : a.1 = p
      · rw [if_pos (congrArg plK e), if_pos e]; rfl
      · rw [if_neg (fun z => e (plK_inj z)), if_neg e]
  have := this prs.reverse
  rwa [List.reverse_reverse] at this
theorem putD_len {κ : Type} [DecidableEq κ] (kvs : List (κ × PyData)) (k : κ) (d : PyData) : (putD kvs k d).length ≤ kvs.length + 1 := by
  unfold putD
  split
  · rw [List.length_map]; omega
  · rw [List.length_append]; exact Nat.le_refl _
theorem putAll_len (prs : List (Pl × Nat)) : (putAll prs).length ≤ prs.length := by
  have : ∀ l : List (Pl × Nat), (putAll l.reverse).length ≤ l.length := by
    intro l
    induction l with
    | nil => exact Nat.le_refl _
    | cons a l ih =>
      rw [List.reverse_cons, putAll_snoc]
      have := putD_len (putAll l.reverse) (plK a.1) (chD a.2)
      rw [List.length_cons]; omega
  have := this prs.reverse
  rwa [List.reverse_reverse, List.length_reverse] at this
/-! ### papers -/
abbrev Paper := List (List Pl × Nat × Nat)
def prsOf (pp : Paper) : List (Pl × Nat) := pp.flatMap fun t => t.1.map fun p => (p, t.2.1)
def ppD (pp : Paper) : PyData := .list (pp.map fun t => .tuple [clD t.1, chD t.2.1, .int t.2.2])
def colOf (prs : List (Pl × Nat)) : Col := fun p => (look prs p).getD 0
theorem joinL_nil : ∀ parts : List (List Nat), TL.joinL [] parts = parts.flatten
  | [] => rfl
  | [p] => by simp [TL.joinL]
  | p :: q :: r => by
    show p ++ ([] ++ TL.joinL [] (q :: r)) = _
    rw [joinL_nil (q :: r)]
    simp
theorem join_chs (n : Nat) (f : Nat → Nat) : Txt.join "" ((List.range n).map fun c => chS (f c)) = ⟨((List.range n).map f).toArray⟩ := by
  rw [TL.join_eq, ← TL.mk_tl (Str.join "" ((List.range n).map fun c => chS (f c))), TL.tl_join]
  have e : TL.tl ("" : Str) = [] := rfl
  rw [e, joinL_nil, List.map_map]
  congr 2
  generalize List.range n = l
  induction l with
  | nil => rfl
  | cons a l ih =>
    rw [List.map_cons, List.flatten_cons, ih, List.map_cons]
    rfl
section
variable {P : Program} {w : World} {K : PySem.W.Frag} {mg : Str → Option Value} {base : Heap}
def RWith (S : List Sv) (d : PyData) : Prop := ∃ (n : Nat) (pp : Paper), S = [.dat (.int n), .dat (ppD pp)] ∧ n ≤ 3 ∧ (prsOf pp).length ≤ 100 ∧ pp.length ≤ 100 ∧ (∀ p ∈ allPl n, (look (prsOf pp) p).isSome = true) ∧ d = cpD n (colOf (prsOf pp))

theorem ok_withColours {f : Addr} {fd : FuncData} {k : Nat} (F : Fun K "with_colours" "with_colours" sWithColours f fd) (m1 : mg "range" = none) (m2 : mg "tuple" = none) : FnOk P w K mg base CX0 (k + 1) f fd pWithColours (SpD K RWith) := by
  refine fn_ok F scWithColours (fun S d h => ?_) fun A hr S d h => ?_
  · obtain ⟨n, pp, rfl, _⟩ := h
    rfl
  · obtain ⟨n, pp, rfl, h3, hl1, hl2, hlook, rfl⟩ := h
    have nd := scWithColours.nd
    have hu := hu_of hr
    have hu64 := hr.units
    walk_at "nf"
    refine hs_cons (ht_newT 2 nd fun o1 => ?_)
    walk_at "nf"
    have hsub : ∀ i, (prsOf (pp.take i)).length ≤ (prsOf pp).length := fun i => by
      have : prsOf pp = prsOf (pp.take i) ++ prsOf (pp.drop i) := by unfold prsOf; rw [← List.flatMap_append, List.take_append_drop]
      rw [this, List.length_append]; omega
    refine hs_cons (ht_for (xs := pp) (g := fun t => .tuple [clD t.1, chD t.2.1, .int t.2.2]) (fun i Δ M => ∃ s3 s4 s5 s6, Δ = [.dat (.int n), .dat (ppD pp), .ref o1, s3, s4, s5, s6, .non, .non] ∧ M = [(o1, .dT (putAll (prsOf (pp.take i))))]) (it_list (ev_v slot1 rfl)) ⟨.non, .non, .non, .non, rfl, rfl⟩ ?_ ?_)
    · rintro i y Δ M hy ⟨s3, s4, s5, s6, rfl, rfl⟩
      refine ⟨_, _, tg_tup (tgs_cons (tg_name 3 nd) (tgs_cons (tg_name 4 nd) (tgs_cons (tg_name 5 nd) tgs_nil))), ?_⟩
      walk_at "nf"
      refine hs_cons (ht_for (xs := y.1) (g := plD) (fun j Δ M => ∃ s6, Δ = [.dat (.int n), .dat (ppD pp), .ref o1, .dat (clD y.1), .dat (chD y.2.1), .dat (.int y.2.2), s6, .non, .non] ∧ M = [(o1, .dT (putAll (prsOf (pp.take i) ++ (y.1.take j).map fun p => (p, y.2.1))))]) (it_list (ev_v slot3 rfl)) ⟨s6, rfl, by rw [List.take_zero, List.map_nil, List.append_nil]⟩ ?_ ?_)
      · rintro j q Δ M hq ⟨s6, rfl, rfl⟩
        refine ⟨_, _, tg_name 6 nd, ?_⟩
        walk_at "nf"
        have hlen := putAll_len (prsOf (pp.take i) ++ (y.1.take j).map fun p => (p, y.2.1))
        have h1 := hsub (i + 1)
        have h2 : prsOf (pp.take (i + 1)) = prsOf (pp.take i) ++ y.1.map fun p => (p, y.2.1) := by
          rw [take_succ' hy]
          simp [prsOf]
        rw [h2, List.length_append, List.length_map] at h1
        have h5 : (y.1.take j).length ≤ y.1.length := by rw [List.length_take]; omega
        rw [List.length_append, List.length_map] at hlen
        refine hs_cons (ht_putT 0 hu (d := chD y.2.1) (ev_v slot4 rfl) (ex_ref 2 rfl) rfl (ks := plK q) (ev_v slot6 rfl) (by omega) ?_)
        walk_at "nf"
        refine hs_nil ⟨_, rfl, ?_⟩
        rw [take_succ' hq, List.map_append, ← List.append_assoc]
        exact congrArg (fun z => [(o1, MO.dT z)]) (putAll_snoc _ (q, y.2.1)).symm
      · rintro Δ M ⟨s6, rfl, rfl⟩
        refine hs_nil ⟨_, _, _, _, rfl, ?_⟩
        rw [List.take_length, take_succ' hy]
        simp [prsOf]
    · rintro Δ M ⟨s3, s4, s5, s6, rfl, rfl⟩
      rw [List.take_length]
      have hrow : ∀ (r : Nat), Txt.join "" ((List.range n).map fun (c : Nat) => chS (colOf (prsOf pp) ((r : Int), (c : Int)))) = rowS n (colOf (prsOf pp)) (r : Int) := fun r => join_chs n _
      refine hs_cons (ht_ret (ev_tupleL (EvD.to (ev_lc [("r", 8)] (xs := List.range n) (g := fun (r : Nat) => PyData.int (r : Int)) (fun (r : Nat) => .str (rowS n (colOf (prsOf pp)) (r : Int))) (fun _ => true) nd (by dsimp only [vwOf]; decide +kernel) (it_range1 (ev_v slot0 rfl) (by omega) m1) (by rw [List.length_range]; exact Nat.lt_of_le_of_lt h3 (by decide)) fun i r hr => ?_) (by rw [List.filter_eq_self.mpr fun _ _ => rfl])) m2) rfl)
      have hrn : r < n := List.mem_range.mp (List.mem_of_getElem? hr)
      refine ⟨_, _, tg_name 8 nd, fun i hi => hi, ets_nil, fun _ => ?_⟩
      walk_at "nf"
      refine (ev_join (ys := (List.range n).map fun (c : Nat) => chS (colOf (prsOf pp) ((r : Int), (c : Int)))) (EvD.to (ev_lc [("c", 7)] (xs := List.range n) (g := fun (r : Nat) => PyData.int (r : Int)) (fun (c : Nat) => chD (colOf (prsOf pp) ((r : Int), (c : Int)))) (fun _ => true) nd (by dsimp only [vwOf]; decide +kernel) (it_range1 (ev_v slot0 rfl) (by omega) m1) (by rw [List.length_range]; exact Nat.lt_of_le_of_lt h3 (by decide)) fun i c hc => ?_) (by rw [List.filter_eq_self.mpr fun _ _ => rfl, List.map_map]; rfl)) ?_).to (congrArg PyData.str (hrow r))
      · have hcn : c < n := List.mem_range.mp (List.mem_of_getElem? hc)
        refine ⟨_, _, tg_name 7 nd, fun i hi => hi, ets_nil, fun _ => ?_⟩
        walk_at "nf"
        have hp : ((r : Int), (c : Int)) ∈ allPl n := mem_allPl.mpr ⟨⟨by omega, by omega⟩, by omega, by omega⟩
        refine ev_getT hu (ex_ref 2 rfl) (j := 0) rfl (ks := plK ((r : Int), (c : Int))) (ev_tup (eas_cons (ev_v slot8 rfl) (eas_cons (ev_v slot7 rfl) eas_nil (by intro _; rfl)) (by intro _; rfl)) (by walk_at "len")) ?_
        rw [valD_all]
        have := hlook _ hp
        unfold colOf
        cases e : look (prsOf pp) ((r : Int), (c : Int)) with
        | none => rw [e] at this; cases this
        | some z => rfl
      · have e1 : ((List.range n).map fun (c : Nat) => chS (colOf (prsOf pp) ((r : Int), (c : Int)))).map (·.length) = (List.range n).map fun _ => 1 := by
          rw [List.map_map]
          rfl
        have e2 : ∀ l : List Nat, (l.map fun _ => 1).sum = l.length := fun l => by
          induction l with
          | nil => rfl
          | cons a l ih => rw [List.map_cons, List.sum_cons, ih, List.length_cons]; omega
        rw [e1, e2, List.length_range, List.length_map, List.length_range]
        show n + n * 0 ≤ 16777216
        omega
end
end Ck
end Ck15Part

/-! ## Ck16 -/
section Ck16Part
set_option Elab.async false
set_option linter.all false
set_option maxRecDepth 100000
set_option maxHeartbeats 4000000
/-! by_paper, mended. -/
namespace Ck
open PySem PySem.Spec PyProof.Rows L2 CkM
local macro_rules | `(tactic| walk_at "nf") => `(tactic| first | dsimp only [wipeS, List.map_cons, List.map_nil, List.set_cons_zero, List.set_cons_succ, List.length_cons, List.length_nil, List.replicate_succ, List.cons_append, List.nil_append, List.replicate_zero, List.append_nil, Nat.reduceSub, Nat.reduceAdd, List.eraseIdx_cons_zero, List.eraseIdx_cons_succ] | simp only [wipeS, List.map_cons, List.map_nil, List.set_cons_zero, List.set_cons_succ, List.length_cons, List.length_nil, List.replicate_succ, List.cons_append, List.nil_append, List.replicate_zero, List.append_nil, Nat.reduceSub, Nat.reduceAdd, List.eraseIdx_cons_zero, List.eraseIdx_cons_succ])
local macro_rules | `(tactic| walk_at "len") => `(tactic| exact small_len (Nat.le_of_ble_eq_true rfl))
local macro_rules | `(tactic| walk_at "ix") => `(tactic| first | exact IxD.tup rfl | exact IxD.lst rfl)
def chg (n : Nat) (κ κ' : Col) : List Pl := (allPl n).filter fun p => decide (κ' p ≠ κ p)
def rowsD (n i : Nat) (p : Pl → Bool) : List PyData := (List.range i).flatMap fun (r : Nat) => ((List.range n).filter fun (c : Nat) => p ((r : Int), (c : Int))).map fun (c : Nat) => plD ((r : Int), (c : Int))
theorem rowsD_succ (n i : Nat) (p : Pl → Bool) : rowsD n (i + 1) p = rowsD n i p ++ ((List.range n).filter fun (c : Nat) => p ((i : Int), (c : Int))).map fun (c : Nat) => plD ((i : Int), (c : Int)) := by
  unfold rowsD
  rw [List.range_succ, List.flatMap_append]
  simp
theorem rowsD_all (n : Nat) (p : Pl → Bool) : rowsD n n p = ((allPl n).filter p).map plD := by
  unfold rowsD allPl
  generalize List.range n = l
  suffices h : ∀ l2 : List Nat, (l2.flatMap fun (r : Nat) => (l.filter fun (c : Nat) => p ((r : Int), (c : Int))).map fun (c : Nat) => plD ((r : Int), (c : Int))) = ((l2.flatMap fun (r : Nat) => l.map fun (c : Nat) => ((r : Int), (c : Int))).filter p).map plD from h l
  intro l2
  induction l2 with
  | nil => rfl
  | cons a l2 ih =>
    rw [List.flatMap_cons, List.flatMap_cons, ih, List.filter_append, List.map_append, List.filter_map, List.map_map]
    rfl
theorem rowsD_len (n i : Nat) (p : Pl → Bool) : (rowsD n i p).length ≤ i * n := by
  induction i with
  | zero => simp [rowsD]
  | succ i ih =>
    rw [rowsD_succ, List.length_append, List.length_map, Nat.succ_mul]
    have := List.length_filter_le (fun (c : Nat) => p ((i : Int), (c : Int))) (List.range n)
    rw [List.length_range] at this
    omega
section
variable {P : Program} {w : World} {K : PySem.W.Frag} {mg : Str → Option Value} {base : Heap}
def byD (n : Nat) (κ : Col) (pp : Paper) : PyData := .tuple [cpD n (colOf (prsOf pp)), clD (chg n κ (colOf (prsOf pp))), ppD pp]
structure PaperOk (n : Nat) (pp : Paper) : Prop where
  l1 : (prsOf pp).length ≤ 100
  l2 : pp.length ≤ 100
  all : ∀ p ∈ allPl n, (look (prsOf pp) p).isSome = true
  ok : okC (colOf (prsOf pp))
def RByPaper (S : List Sv) (d : PyData) : Prop := ∃ (n : Nat) (κ : Col) (pp : Paper), S = [.dat (cpD n κ), .dat (ppD pp)] ∧ n ≤ 3 ∧ PaperOk n pp ∧ d = byD n κ pp

theorem ok_byPaper {f : Addr} {fd : FuncData} {k : Nat} (F : Fun K "by_paper" "by_paper" sByPaper f fd) (CW : CalK P w K mg base k "with_colours" pWithColours RWith) (m1 : mg "range" = none) (m2 : mg "len" = none) : FnOk P w K mg base CX0 (k + 1) f fd pByPaper (SpD K RByPaper) := by
  refine fn_ok F scByPaper (fun S d h => ?_) fun A hr S d h => ?_
  · obtain ⟨n, κ, pp, rfl, _⟩ := h
    rfl
  · obtain ⟨n, κ, pp, rfl, h3, hpp, rfl⟩ := h
    have nd := scByPaper.nd
    have hu := hu_of hr
    have hu64 := hr.units
    have hlen : ((List.range n).map fun (r : Nat) => PyData.str (rowS n κ (r : Int))).length = n := by rw [List.length_map, List.length_range]
    walk_at "nf"
    refine hs_cons (ht_set 2 nd ((ev_lenT (ds := (List.range n).map fun (r : Nat) => PyData.str (rowS n κ (r : Int))) (ev_v slot0 rfl) m2).to (by rw [hlen])) ?_)
    walk_at "nf"
    refine hs_cons (ht_set 3 nd (ev_call (k := k) CW hr (ea_cons (ev_v slot2 rfl) (ea_cons (ev_v slot1 rfl) ea_nil)) ⟨n, pp, rfl, h3, hpp.l1, hpp.l2, hpp.all, rfl⟩) ?_)
    walk_at "nf"
    refine hs_cons (ht_newL 4 nd (ds := []) eas_nil (fun o1 => ?_))
    walk_at "nf"
    generalize hκ : colOf (prsOf pp) = κ'
    refine hs_cons (ht_for (xs := List.range n) (g := fun (r : Nat) => PyData.int (r : Int)) (fun i Δ M => ∃ s5, Δ = [.dat (cpD n κ), .dat (ppD pp), .dat (.int n), .dat (cpD n κ'), .ref o1, s5, .non] ∧ M = [(o1, .lst (rowsD n i fun p => decide (κ' p ≠ κ p)))]) (it_range1 (ev_v slot2 rfl) (by omega) m1) ⟨.non, rfl, rfl⟩ ?_ ?_)
    · rintro i y Δ M hy ⟨s5, rfl, rfl⟩
      have hyn : y < n := List.mem_range.mp (List.mem_of_getElem? hy)
      have ey : y = i := by
        have hi : i < n := by have := (List.getElem?_eq_some_iff.mp hy).1; rwa [List.length_range] at this
        rw [List.getElem?_range hi] at hy; exact (Option.some.inj hy).symm
      subst ey
      refine ⟨_, _, tg_name 5 nd, ?_⟩
      walk_at "nf"
      have hl := rowsD_len n y fun p => decide (κ' p ≠ κ p)
      have hm : y * n ≤ 9 := Nat.le_trans (Nat.mul_le_mul (Nat.le_of_lt hyn) (Nat.le_refl n)) (Nat.mul_le_mul h3 h3)
      have hf := List.length_filter_le (fun (c : Nat) => decide (κ' ((y : Int), (c : Int)) ≠ κ ((y : Int), (c : Int)))) (List.range n)
      rw [List.length_range] at hf
      refine hs_cons (ht_ext 0 (ex_ref 4 rfl) rfl (es' := ((List.range n).filter fun (c : Nat) => decide (κ' ((y : Int), (c : Int)) ≠ κ ((y : Int), (c : Int)))).map fun (c : Nat) => plD ((y : Int), (c : Int))) (ev_lc [("c", 6)] (xs := List.range n) (g := fun (r : Nat) => PyData.int (r : Int)) _ _ nd (by dsimp only [vwOf]; decide +kernel) (it_range1 (ev_v slot2 rfl) (by omega) m1) (by rw [List.length_range]; exact Nat.lt_of_le_of_lt h3 (by decide)) fun i c hc => ?_) (by rw [List.length_map]; omega) ?_)
      · have hcn : c < n := List.mem_range.mp (List.mem_of_getElem? hc)
        have hp : ((y : Int), (c : Int)) ∈ allPl n := mem_allPl.mpr ⟨⟨by omega, by omega⟩, by omega, by omega⟩
        refine ⟨_, _, tg_name 6 nd, fun i hi => hi, ?_⟩
        walk_at "nf"
        refine ⟨ets_one (et_cmp (ev_cell (q := ((y : Int), (c : Int))) h3 (ev_v slot3 rfl) (ev_v slot5 rfl) (ev_v slot6 rfl) hp) (ev_cell (q := ((y : Int), (c : Int))) h3 (ev_v slot0 rfl) (ev_v slot5 rfl) (ev_v slot6 rfl) hp) (CmpR.to cr_neS ?_)), fun _ => (ev_tup (eas_cons (ev_v slot5 rfl) (eas_cons (ev_v slot6 rfl) eas_nil (by intro _; rfl)) (by intro _; rfl)) (by walk_at "len"))⟩
        by_cases h : κ' ((y : Int), (c : Int)) = κ ((y : Int), (c : Int))
        · simp [h]
        · have : ¬ chS (κ' ((y : Int), (c : Int))) = chS (κ ((y : Int), (c : Int))) := fun z => h (chS_inj z)
          simp [h, this]
      · walk_at "nf"
        refine hs_nil ⟨_, rfl, ?_⟩
        rw [rowsD_succ]
    · rintro Δ M ⟨s5, rfl, rfl⟩
      rw [List.length_range, rowsD_all]
      refine hs_freeze 4 0 rfl rfl ?_
      walk_at "nf"
      refine hs_cons (ht_ret (ev_tup (eas_cons (ev_v slot3 rfl) (eas_cons (ev_v slot4 rfl) (eas_cons (ev_v slot1 rfl) eas_nil (by intro _; rfl)) (by intro _; rfl)) (by intro _; rfl)) (by walk_at "len")) ?_)
      unfold byD chg
      rw [hκ]
      rfl
end
end Ck
end Ck16Part

/-! ## Ck17 -/
section Ck17Part
set_option Elab.async false
set_option linter.all false
set_option maxRecDepth 100000
set_option maxHeartbeats 4000000
/-! mended. -/
namespace Ck
open PySem PySem.Spec PyProof.Rows L2 CkM
local macro_rules | `(tactic| walk_at "nf") => `(tactic| first | dsimp only [wipeS, List.map_cons, List.map_nil, List.set_cons_zero, List.set_cons_succ, List.length_cons, List.length_nil, List.replicate_succ, List.cons_append, List.nil_append, List.replicate_zero, List.append_nil, Nat.reduceSub, Nat.reduceAdd, List.eraseIdx_cons_zero, List.eraseIdx_cons_succ] | simp only [wipeS, List.map_cons, List.map_nil, List.set_cons_zero, List.set_cons_succ, List.length_cons, List.length_nil, List.replicate_succ, List.cons_append, List.nil_append, List.replicate_zero, List.append_nil, Nat.reduceSub, Nat.reduceAdd, List.eraseIdx_cons_zero, List.eraseIdx_cons_succ])
local macro_rules | `(tactic| walk_at "len") => `(tactic| exact small_len (Nat.le_of_ble_eq_true rfl))
local macro_rules | `(tactic| walk_at "ix") => `(tactic| first | exact IxD.tup rfl | exact IxD.lst rfl)
theorem ev_lenC {U : Vw} {Δ : List Sv} {M : MS} {a : Expr} {p pos : Pos} {n : Nat} {κ : Col} (ha : EvD U a Δ M (cpD n κ)) (hm : U.mg "len" = none) (hg : U.sc.names.lookup ("len" : Str) = some .globalImplicit := by rfl) (he : ∀ r, starEach [a] (U.cx r).env = (false, eval a (U.cx r).env) :: starEach [] (U.cx r).env := by intro _; rfl) : EvD U (.Call (.Name "len" p) [a] [] pos) Δ M (.int n) := by
  have := ev_lenT (p := p) (pos := pos) (ds := (List.range n).map fun (r : Nat) => PyData.str (rowS n κ (r : Int))) ha hm hg he
  rwa [List.length_map, List.length_range] at this
section
variable {n : Nat} {ms : List Mv} {κ : Col}
/-! ### circles -/
theorem circles_flat (S : Sd n ms) : (circlesL n ms).flatten = seenL n ms (n * n) := by
  rw [← found_all (k := n * n) (by rw [len_pl]; exact Nat.le_refl _)]
  unfold foundL seenL
  rw [List.flatMap_def]
theorem circles_nodup (S : Sd n ms) : (circlesL n ms).flatten.Nodup := by rw [circles_flat S]; exact seen_nodup S _
theorem circles_mem (S : Sd n ms) {c : List Pl} (h : c ∈ circlesL n ms) : ∃ p ∈ allPl n, isFirst n ms p = true ∧ c = orbit n ms p := by
  obtain ⟨p, hp, rfl⟩ := List.mem_map.mp h
  exact ⟨p, (List.mem_filter.mp hp).1, (List.mem_filter.mp hp).2, rfl⟩
theorem circle_ne (S : Sd n ms) {c : List Pl} (h : c ∈ circlesL n ms) : c ≠ [] := by
  obtain ⟨p, hp, _, rfl⟩ := circles_mem S h
  exact List.ne_nil_of_mem (orbit_self S hp)
theorem circle_sub (S : Sd n ms) {c : List Pl} (h : c ∈ circlesL n ms) : ∀ q ∈ c, q ∈ allPl n := by
  obtain ⟨p, hp, _, rfl⟩ := circles_mem S h
  exact fun q hq => orbit_sub hq
theorem circle_len (S : Sd n ms) {c : List Pl} (h : c ∈ circlesL n ms) : c.length ≤ 9 := by
  obtain ⟨p, hp, _, rfl⟩ := circles_mem S h
  have := (orbit_nodup (p := p) S).length_le_of_subset fun z hz => orbit_sub hz
  rw [len_pl] at this
  have h3 := S.h3
  exact Nat.le_trans this (Nat.mul_le_mul h3 h3)
theorem circles_all (S : Sd n ms) {p : Pl} (hp : p ∈ allPl n) : ∃ c ∈ circlesL n ms, p ∈ c := by
  obtain ⟨q, _, h2, h3, h4⟩ := head_first S hp
  exact ⟨orbit n ms q, List.mem_map.mpr ⟨q, List.mem_filter.mpr ⟨orbit_sub h2, h3⟩, rfl⟩, h4⟩
theorem circles_flat_len (S : Sd n ms) : (circlesL n ms).flatten.length = n * n := by
  have h1 : (circlesL n ms).flatten.Perm (allPl n) := by
    refine (List.perm_ext_iff_of_nodup (circles_nodup S) (pl_nodup S.h1 S.h3)).mpr fun p => ?_
    rw [List.mem_flatten]
    exact ⟨fun ⟨c, hc, hp⟩ => circle_sub S hc p hp, fun hp => circles_all S hp⟩
  rw [h1.length_eq, len_pl]
theorem circles_len (S : Sd n ms) : (circlesL n ms).length ≤ 9 := by
  unfold circlesL firsts
  rw [List.length_map]
  have := List.length_filter_le (isFirst n ms) (allPl n)
  rw [len_pl] at this
  have h3 := S.h3
  exact Nat.le_trans this (Nat.mul_le_mul h3 h3)
/-! ### the paper of a wish -/
noncomputable def paperOf (n : Nat) (κ : Col) (ms : List Mv) : Paper := (circlesL n ms).map fun c => (c, topC κ c, mostN κ c)
theorem prs_of (n : Nat) (κ : Col) (ms : List Mv) : prsOf (paperOf n κ ms) = (circlesL n ms).flatMap fun c => c.map fun p => (p, topC κ c) := by
  unfold prsOf paperOf
  rw [List.flatMap_map]
theorem prs_keys (n : Nat) (κ : Col) (ms : List Mv) : (prsOf (paperOf n κ ms)).map (·.1) = (circlesL n ms).flatten := by
  rw [prs_of, List.map_flatMap, List.flatMap_def]
  congr 1
  refine (List.map_congr_left fun c _ => ?_).trans (List.map_id _)
  rw [List.map_map]
  exact List.map_id' _
theorem look_of {prs : List (Pl × Nat)} (hn : (prs.map (·.1)).Nodup) {p : Pl} {c : Nat} (h : (p, c) ∈ prs) : look prs p = some c := by
  have hr : ((prs.reverse).map (·.1)).Nodup := by rw [List.map_reverse]; exact (List.reverse_perm _).nodup_iff.mpr hn
  have hm : (p, c) ∈ prs.reverse := List.mem_reverse.mpr h
  unfold look
  revert hr hm
  generalize prs.reverse = l
  intro hr hm
  induction l with
  | nil => cases hm
  | cons a l ih =>
    rw [List.map_cons, List.nodup_cons] at hr
    rw [List.find?_cons]
    by_cases e : a.1 = p
    · rcases List.mem_cons.mp hm with rfl | hm
      · simp
      · exact absurd (List.mem_map.mpr ⟨_, hm, e.symm⟩) hr.1
    · rcases List.mem_cons.mp hm with rfl | hm
      · exact absurd rfl e
      · simp only [e, decide_false]
        exact ih hr.2 hm
/-- the mended carpet: each circle in its colour -/
theorem mend_at (S : Sd n ms) {c : List Pl} (hc : c ∈ circlesL n ms) {p : Pl} (hp : p ∈ c) : look (prsOf (paperOf n κ ms)) p = some (topC κ c) := by
  refine look_of (by rw [prs_keys]; exact circles_nodup S) ?_
  rw [prs_of]
  exact List.mem_flatMap.mpr ⟨c, hc, List.mem_map.mpr ⟨p, hp, rfl⟩⟩
noncomputable def mend (n : Nat) (κ : Col) (ms : List Mv) : Col := colOf (prsOf (paperOf n κ ms))
theorem mend_eq (S : Sd n ms) {c : List Pl} (hc : c ∈ circlesL n ms) {p : Pl} (hp : p ∈ c) : mend n κ ms p = topC κ c := by
  unfold mend colOf
  rw [mend_at S hc hp]
  rfl
theorem chS_zero : PyData.strOk (chS 0) = true := by decide +kernel
theorem paper_ok (S : Sd n ms) (hok : okC κ) : PaperOk n (paperOf n κ ms) := by
  refine ⟨?_, ?_, fun p hp => ?_, fun p => ?_⟩
  · have := congrArg List.length (prs_keys n κ ms)
    rw [List.length_map, circles_flat_len S] at this
    have h3 := S.h3
    have := Nat.mul_le_mul h3 h3
    omega
  · unfold paperOf
    rw [List.length_map]
    have := circles_len S
    omega
  · obtain ⟨c, hc, hpc⟩ := circles_all S hp
    rw [mend_at S hc hpc]
    rfl
  · unfold colOf
    cases e : look (prsOf (paperOf n κ ms)) p with
    | none => exact chS_zero
    | some v =>
      unfold look at e
      obtain ⟨q, h1, h2⟩ := Option.map_eq_some_iff.mp e
      have h1 := List.mem_reverse.mp (List.mem_of_find?_eq_some h1)
      rw [prs_of] at h1
      obtain ⟨c, hc, hq⟩ := List.mem_flatMap.mp h1
      obtain ⟨z, hz, rfl⟩ := List.mem_map.mp hq
      show PyData.strOk (chS v) = true
      rw [← h2]
      obtain ⟨y, _, hy⟩ := maxKeys_from (topC_mem (κ := κ) (circle_ne S hc))
      show PyData.strOk (chS (topC κ c)) = true
      rw [← hy]
      exact hok y
end
section
variable {P : Program} {w : World} {K : PySem.W.Frag} {mg : Str → Option Value} {base : Heap}
noncomputable def mendD (n : Nat) (κ : Col) (ms : List Mv) : PyData := byD n κ (paperOf n κ ms)
def RMended (S : List Sv) (d : PyData) : Prop := ∃ (n : Nat) (κ : Col) (ms : List Mv), S = [.dat (cpD n κ), .dat (.list (ms.map mvD))] ∧ Sd n ms ∧ okC κ ∧ d = mendD n κ ms
def ppI (t : List Pl × Nat × Nat) : PyData := .tuple [clD t.1, chD t.2.1, .int t.2.2]

theorem ok_mended {f : Addr} {fd : FuncData} {k : Nat} (F : Fun K "mended" "mended" sMended f fd) (CC : CalK P w K mg base k "circles" pCircles RCircles) (CM : CalK P w K mg base k "most_had" pMostHad RMostHad) (CB : CalK P w K mg base k "by_paper" pByPaper RByPaper) (m2 : mg "len" = none) : FnOk P w K mg base CX0 (k + 1) f fd pMended (SpD K RMended) := by
  refine fn_ok F scMended (fun S d h => ?_) fun A hr S d h => ?_
  · obtain ⟨n, κ, ms, rfl, _⟩ := h
    rfl
  · obtain ⟨n, κ, ms, rfl, S, hok, rfl⟩ := h
    have nd := scMended.nd
    have hu := hu_of hr
    have hu64 := hr.units
    have h3 := S.h3
    have hlen : ((List.range n).map fun (r : Nat) => PyData.str (rowS n κ (r : Int))).length = n := by rw [List.length_map, List.length_range]
    walk_at "nf"
    refine hs_cons (ht_newL 2 nd (ds := []) eas_nil (fun o1 => ?_))
    walk_at "nf"
    refine hs_cons (ht_for (xs := circlesL n ms) (g := clD) (fun i Δ M => ∃ s3 s4 s5, Δ = [.dat (cpD n κ), .dat (.list (ms.map mvD)), .ref o1, s3, s4, s5] ∧ M = [(o1, .lst (((circlesL n ms).take i).map fun c => ppI (c, topC κ c, mostN κ c)))]) (it_list (ev_call (k := k) CC hr (ea_cons (ev_lenC (ev_v slot0 rfl) m2) (ea_cons (ev_v slot1 rfl) ea_nil)) ⟨n, ms, rfl, S, rfl⟩)) ⟨.non, .non, .non, rfl, rfl⟩ ?_ ?_)
    · rintro i y Δ M hy ⟨s3, s4, s5, rfl, rfl⟩
      refine ⟨_, _, tg_name 3 nd, ?_⟩
      walk_at "nf"
      have hyc : y ∈ circlesL n ms := List.mem_of_getElem? hy
      have hne := circle_ne S hyc
      have hil : ((circlesL n ms).take i).length ≤ 9 := by rw [List.length_take]; have := circles_len S; omega
      refine hs_cons (ht_asg (ev_call (k := k) CM hr (ea_cons (ev_v slot0 rfl) (ea_cons (ev_v slot3 rfl) ea_nil)) ⟨n, κ, y, rfl, h3, circle_sub S hyc, hne, circle_len S hyc, hok, rfl⟩) (tg_tup (tgs_cons (tg_name 4 nd) (tgs_cons (tg_name 5 nd) tgs_nil))) ?_)
      walk_at "nf"
      refine hs_cons (ht_app 0 (ex_ref 2 rfl) rfl (d := ppI (y, topC κ y, mostN κ y)) (ev_tup (ds := [clD y, chD (topC κ y), .int (mostN κ y)]) (eas_cons (ev_v slot3 rfl) (eas_cons (ev_ix (ev_v slot5 rfl) ev_int (IxD.lst ?_)) (eas_cons (ev_v slot4 rfl) eas_nil (by intro _; rfl)) (by intro _; rfl)) (by intro _; rfl)) (by walk_at "len")) (by rw [List.length_map]; omega) ?_)
      · have := topC_head (κ := κ) hne
        unfold L2.atI
        have hlen' : 0 < (colsL κ y).length := (List.getElem?_eq_some_iff.mp this).1
        have : ixN ((colsL κ y).map chD).length 0 = some 0 := by
          unfold ixN
          rw [List.length_map, if_pos (by decide), if_pos (by omega)]
          rfl
        rw [this]
        show ((colsL κ y).map chD)[0]? = _
        rw [List.getElem?_map, topC_head hne]
        rfl
      · walk_at "nf"
        refine hs_nil ⟨_, _, _, rfl, ?_⟩
        rw [take_succ' hy, List.map_append]
        rfl
    · rintro Δ M ⟨s3, s4, s5, rfl, rfl⟩
      rw [List.take_length]
      refine hs_freeze 2 0 rfl rfl ?_
      walk_at "nf"
      refine hs_cons (ht_ret (ev_call (k := k) CB hr (ea_cons (ev_v slot0 rfl) (ea_cons (ev_v slot2 rfl) ea_nil)) ⟨n, κ, paperOf n κ ms, ?_, h3, paper_ok S hok, rfl⟩) rfl)
      unfold ppD paperOf
      rw [List.map_map]
      rfl
end
end Ck
end Ck17Part

/-! ## CkM6 -/
section CkM6Part
set_option linter.all false
set_option maxRecDepth 100000
/-! The program's list of groups. Plain Lean. -/
namespace CkM
def shoveL (n : Nat) : List Mv := (List.range (n * n)).map fun (k : Nat) => ⟨.stay, (k : Int) / (n : Int), (k : Int) % (n : Int)⟩
def fewOf (a b : Mv) : List Mv := [a, b].filter fun m => decide (m ≠ idm)
noncomputable def latStep (n : Nat) (acc : List (List Mv)) (few : List Mv) : List (List Mv) := if acc.any (fun f => decide (madeL n f = madeL n few)) then acc else acc ++ [few]
def pairsL (n : Nat) : List (List Mv) := (shoveL n).flatMap fun a => (shoveL n).map fun b => fewOf a b
noncomputable def latAll (n : Nat) (l : List (List Mv)) : List (List Mv) := l.foldl (latStep n) []
noncomputable def latL (n : Nat) : List (List Mv) := latAll n (pairsL n)
theorem latAll_snoc (n : Nat) (l : List (List Mv)) (f : List Mv) : latAll n (l ++ [f]) = latStep n (latAll n l) f := by simp [latAll]
theorem latAll_rec {n : Nat} {P : List (List Mv) → List (List Mv) → Prop} (h0 : P [] []) (hs : ∀ l acc f, P l acc → P (l ++ [f]) (latStep n acc f)) : ∀ l, P l (latAll n l) := by
  intro ps
  have : ∀ l : List (List Mv), P l.reverse (latAll n l.reverse) := by
    intro l
    induction l with
    | nil => exact h0
    | cons a l ih =>
      rw [List.reverse_cons, latAll_snoc]
      exact hs _ _ _ ih
  have := this ps.reverse
  rwa [List.reverse_reverse] at this
theorem any_made {n : Nat} {acc : List (List Mv)} {few : List Mv} : (acc.any fun f => decide (madeL n f = madeL n few)) = true ↔ ∃ f ∈ acc, madeL n f = madeL n few := by
  rw [List.any_eq_true]
  exact ⟨fun ⟨x, h, e⟩ => ⟨x, h, of_decide_eq_true e⟩, fun ⟨x, h, e⟩ => ⟨x, h, decide_eq_true e⟩⟩
theorem lat_from (n : Nat) : ∀ l, ∀ f ∈ latAll n l, f ∈ l := latAll_rec (P := fun l acc => ∀ f ∈ acc, f ∈ l) (fun f h => nomatch h) fun l acc few h f hf => by
  unfold latStep at hf
  split at hf
  · exact List.mem_append_left _ (h f hf)
  · rcases List.mem_append.mp hf with hf | hf
    · exact List.mem_append_left _ (h f hf)
    · exact List.mem_append_right _ hf
theorem lat_all (n : Nat) : ∀ l, ∀ f ∈ l, ∃ g ∈ latAll n l, madeL n g = madeL n f := latAll_rec (P := fun l acc => ∀ f ∈ l, ∃ g ∈ acc, madeL n g = madeL n f) (fun f h => nomatch h) fun l acc few h f hf => by
  unfold latStep
  split
  · rename_i ha
    rcases List.mem_append.mp hf with hf | hf
    · exact h f hf
    · rw [List.mem_singleton] at hf
      subst hf
      exact any_made.mp ha
  · rcases List.mem_append.mp hf with hf | hf
    · obtain ⟨g, h1, h2⟩ := h f hf
      exact ⟨g, List.mem_append_left _ h1, h2⟩
    · exact ⟨f, List.mem_append_right _ hf, rfl⟩
theorem lat_apart (n : Nat) : ∀ l, ((latAll n l).map (madeL n)).Nodup := latAll_rec (P := fun l acc => (acc.map (madeL n)).Nodup) List.nodup_nil fun l acc few h => by
  unfold latStep
  split
  · exact h
  · rename_i ha
    rw [List.map_append, List.nodup_append]
    refine ⟨h, by simp, fun a h1 b h2 e => ?_⟩
    simp only [List.map_cons, List.map_nil, List.mem_singleton] at h2
    subst h2
    obtain ⟨f, hf, e2⟩ := List.mem_map.mp h1
    exact ha (any_made.mpr ⟨f, hf, e2.trans e⟩)
theorem lat_len (n : Nat) : ∀ l, (latAll n l).length ≤ l.length := latAll_rec (P := fun l acc => acc.length ≤ l.length) (Nat.le_refl _) fun l acc few h => by
  unfold latStep
  split
  · rw [List.length_append]; omega
  · rw [List.length_append, List.length_append]
    simp only [List.length_cons, List.length_nil]
    omega
theorem shove_len (n : Nat) : (shoveL n).length = n * n := by simp [shoveL]
theorem pairs_len (n : Nat) : (pairsL n).length = (n * n) * (n * n) := by
  unfold pairsL
  rw [List.length_flatMap]
  simp only [List.length_map, shove_len]
  have : ∀ l : List Mv, (l.map fun _ => n * n).sum = l.length * (n * n) := fun l => by
    induction l with
    | nil => simp
    | cons a l ih => rw [List.map_cons, List.sum_cons, ih, List.length_cons, Nat.succ_mul]; omega
  rw [this, shove_len]
/-! lifts -/
def shift (n : Nat) (p : Pl) (m : Mv) : Pl := ((p.1 + m.d) % n, (p.2 + m.r) % n)
def coset (n : Nat) (T : List Mv) (p : Pl) : List Pl := T.map (shift n p)
def stStep (n : Nat) (T : List Mv) (acc : List Pl) (p : Pl) : List Pl := if p ∈ acc.flatMap (coset n T) then acc else acc ++ [p]
def startA (n : Nat) (T : List Mv) (l : List Pl) : List Pl := l.foldl (stStep n T) []
def startL (n : Nat) (T : List Mv) : List Pl := startA n T (allPl n)
theorem startA_snoc (n : Nat) (T : List Mv) (l : List Pl) (p : Pl) : startA n T (l ++ [p]) = stStep n T (startA n T l) p := by simp [startA]
theorem startA_rec {n : Nat} {T : List Mv} {P : List Pl → List Pl → Prop} (h0 : P [] []) (hs : ∀ l acc f, P l acc → P (l ++ [f]) (stStep n T acc f)) : ∀ l, P l (startA n T l) := by
  intro ps
  have : ∀ l : List Pl, P l.reverse (startA n T l.reverse) := by
    intro l
    induction l with
    | nil => exact h0
    | cons a l ih =>
      rw [List.reverse_cons, startA_snoc]
      exact hs _ _ _ ih
  have := this ps.reverse
  rwa [List.reverse_reverse] at this
theorem start_from (n : Nat) (T : List Mv) : ∀ l, ∀ p ∈ startA n T l, p ∈ l := startA_rec (P := fun l acc => ∀ p ∈ acc, p ∈ l) (fun f h => nomatch h) fun l acc few h f hf => by
  unfold stStep at hf
  split at hf
  · exact List.mem_append_left _ (h f hf)
  · rcases List.mem_append.mp hf with hf | hf
    · exact List.mem_append_left _ (h f hf)
    · exact List.mem_append_right _ hf
/-- every place is a start or lies in the coset of one -/
theorem start_all (n : Nat) (T : List Mv) : ∀ l, ∀ p ∈ l, p ∈ startA n T l ∨ p ∈ (startA n T l).flatMap (coset n T) := startA_rec (P := fun l acc => ∀ p ∈ l, p ∈ acc ∨ p ∈ acc.flatMap (coset n T)) (fun f h => nomatch h) fun l acc few h p hp => by
  unfold stStep
  split
  · rename_i ha
    rcases List.mem_append.mp hp with hp | hp
    · exact h p hp
    · rw [List.mem_singleton] at hp
      subst hp
      exact .inr ha
  · rcases List.mem_append.mp hp with hp | hp
    · rcases h p hp with h | h
      · exact .inl (List.mem_append_left _ h)
      · exact .inr (by rw [List.flatMap_append]; exact List.mem_append_left _ h)
    · exact .inl (List.mem_append_right _ hp)
theorem start_len (n : Nat) (T : List Mv) : ∀ l, (startA n T l).length ≤ l.length := startA_rec (P := fun l acc => acc.length ≤ l.length) (Nat.le_refl _) fun l acc few h => by
  unfold stStep
  split
  · rw [List.length_append]; omega
  · rw [List.length_append, List.length_append]
    simp only [List.length_cons, List.length_nil]
    omega
def liftStep (starts : List Pl) (found : List (List Mv)) (w : Way) : List (List Mv) := found.flatMap fun a => starts.map fun p => a ++ [⟨w, p.1, p.2⟩]
def liftL (starts : List Pl) (head : List Way) : List (List Mv) := head.foldl (liftStep starts) [[]]
theorem lift_len (starts : List Pl) : ∀ (head : List Way) (f0 : List (List Mv)), (head.foldl (liftStep starts) f0).length = f0.length * starts.length ^ head.length
  | [], f0 => by simp
  | w :: head, f0 => by
    rw [List.foldl_cons, lift_len starts head]
    have : (liftStep starts f0 w).length = f0.length * starts.length := by
      unfold liftStep
      rw [List.length_flatMap]
      simp only [List.length_map]
      induction f0 with
      | nil => simp
      | cons a l ih => rw [List.map_cons, List.sum_cons, ih, List.length_cons, Nat.succ_mul]; omega
    rw [this, List.length_cons, Nat.pow_succ, Nat.mul_assoc, Nat.mul_comm (starts.length ^ _) _]
theorem lift_mem (starts : List Pl) : ∀ (head : List Way) (f0 : List (List Mv)) (a : List Mv) (ps : List Pl), a ∈ f0 → ps.length = head.length → (∀ p ∈ ps, p ∈ starts) → a ++ (head.zip ps).map (fun x => ⟨x.1, x.2.1, x.2.2⟩) ∈ head.foldl (liftStep starts) f0
  | [], f0, a, ps, h, hl, hp => by simpa using h
  | w :: head, f0, a, [], h, hl, hp => by simp at hl
  | w :: head, f0, a, p :: ps, h, hl, hp => by
    rw [List.foldl_cons, List.zip_cons_cons, List.map_cons]
    have h1 : a ++ [⟨w, p.1, p.2⟩] ∈ liftStep starts f0 w := List.mem_flatMap.mpr ⟨a, h, List.mem_map.mpr ⟨p, hp p List.mem_cons_self, rfl⟩⟩
    have := lift_mem starts head _ _ ps h1 (by simpa using hl) fun q hq => hp q (List.mem_cons_of_mem _ hq)
    rwa [List.append_assoc] at this
/-- what a lift is -/
theorem lift_inv (starts : List Pl) : ∀ (head : List Way) (f0 : List (List Mv)) (b : List Mv), b ∈ head.foldl (liftStep starts) f0 → ∃ a ∈ f0, ∃ ps : List Pl, ps.length = head.length ∧ (∀ p ∈ ps, p ∈ starts) ∧ b = a ++ (head.zip ps).map (fun x => ⟨x.1, x.2.1, x.2.2⟩)
  | [], f0, b, h => ⟨b, h, [], rfl, (fun p hp => by cases hp), by simp⟩
  | w :: head, f0, b, h => by
    rw [List.foldl_cons] at h
    obtain ⟨a, ha, ps, h1, h2, h3⟩ := lift_inv starts head _ b h
    obtain ⟨a0, ha0, h4⟩ := List.mem_flatMap.mp ha
    obtain ⟨p, hp, h5⟩ := List.mem_map.mp h4
    refine ⟨a0, ha0, p :: ps, by simp [h1], fun q hq => ?_, ?_⟩
    · rcases List.mem_cons.mp hq with rfl | hq
      · exact hp
      · exact h2 q hq
    · rw [h3, ← h5, List.zip_cons_cons, List.map_cons, List.append_assoc]
      rfl
/-! all groups -/
def HEADS : List (List Way) := [[], [.half], [.side], [.flip], [.cross], [.other], [.turn], [.half, .side], [.half, .cross], [.turn, .side]]
def SIZES : List Nat := [1, 2, 2, 2, 2, 2, 4, 4, 4, 8]
noncomputable def grpRow (n : Nat) (few : List Mv) (i : Nat) : List (List Mv × Nat) := (liftL (startL n (madeL n few)) (HEADS.getD i [])).map fun a => (few ++ a, SIZES.getD i 0)
noncomputable def groupsL (n : Nat) : List (List Mv × Nat) := (latL n).flatMap fun few => (List.range 10).flatMap (grpRow n few)
theorem len_flat_le {α β : Type} {f : α → List β} {b : Nat} (h : ∀ x, (f x).length ≤ b) : ∀ l : List α, (l.flatMap f).length ≤ l.length * b
  | [] => by simp
  | a :: l => by
    have := len_flat_le h l
    have := h a
    rw [List.flatMap_cons, List.length_append, List.length_cons, Nat.succ_mul]
    omega
def gcdL (l : List Nat) : Nat := l.foldl Nat.gcd 0
end CkM
end CkM6Part

/-! ## Ck18 -/
section Ck18Part
set_option Elab.async false
set_option linter.all false
set_option maxRecDepth 100000
set_option maxHeartbeats 4000000
/-! lattices. -/
namespace Ck
open PySem PySem.Spec PyProof.Rows L2 CkM
local macro_rules | `(tactic| walk_at "nf") => `(tactic| first | dsimp only [wipeS, List.map_cons, List.map_nil, List.set_cons_zero, List.set_cons_succ, List.length_cons, List.length_nil, List.replicate_succ, List.cons_append, List.nil_append, List.replicate_zero, List.append_nil, Nat.reduceSub, Nat.reduceAdd, List.eraseIdx_cons_zero, List.eraseIdx_cons_succ] | simp only [wipeS, List.map_cons, List.map_nil, List.set_cons_zero, List.set_cons_succ, List.length_cons, List.length_nil, List.replicate_succ, List.cons_append, List.nil_append, List.replicate_zero, List.append_nil, Nat.reduceSub, Nat.reduceAdd, List.eraseIdx_cons_zero, List.eraseIdx_cons_succ])
local macro_rules | `(tactic| walk_at "len") => `(tactic| exact small_len (Nat.le_of_ble_eq_true rfl))
local macro_rules | `(tactic| walk_at "ix") => `(tactic| first | exact IxD.tup rfl | exact IxD.lst rfl)
local macro_rules | `(tactic| walk_at "br") => `(tactic| first | exact br_add | exact br_sub | exact br_mul (by first | exact cmul_l (by omega) | exact cmul_r (by omega)) | exact br_mod (by omega) | exact br_fdiv ⟨by omega, by omega⟩)
theorem mvD_inj {x y : Mv} : mvD x = mvD y → x = y := fun h => mvK_inj (by
  have : encK (mvK x) = encK (mvK y) := h
  exact kDs_inj (PyData.tuple.inj this))
theorem ok_mvS (m : Mv) : okD 8 (mvD m) = true := okD_mono (by decide) (ok_mv m)
noncomputable def keyF (n : Nat) (few : List Mv) : List (List Key) := (madeL n few).map mvK
theorem keyF_enc (n : Nat) (few : List Mv) : encN (keyF n few) = .tuple ((madeL n few).map mvD) := by
  unfold encN keyF
  rw [List.map_map]
  rfl
theorem keyF_iff {n : Nat} {f g : List Mv} : keyF n f = keyF n g ↔ madeL n f = madeL n g := ⟨fun h => map_inj (fun _ _ => mvK_inj) h, fun h => by unfold keyF; rw [h]⟩
noncomputable def latD (n : Nat) (few : List Mv) : PyData := .tuple [.list (few.map mvD), .list ((madeL n few).map mvD)]
theorem inK_lat {n : Nat} {few : List Mv} {acc : List (List Mv)} {xs : List (List (List Key) × Addr)} (h : xs.map (·.1) = acc.map (keyF n)) : inK (keyF n few) xs = acc.any fun f => decide (madeL n f = madeL n few) := by
  refine Bool.eq_iff_iff.mpr (inK_iff.trans (Iff.trans ?_ any_made.symm))
  rw [h, List.mem_map]
  exact ⟨fun ⟨f, h1, h2⟩ => ⟨f, h1, keyF_iff.mp h2⟩, fun ⟨f, h1, h2⟩ => ⟨f, h1, keyF_iff.mpr h2⟩⟩
theorem keys_nodup {n : Nat} {l : List (List Mv)} {xs : List (List (List Key) × Addr)} (h : xs.map (·.1) = (latAll n l).map (keyF n)) : (xs.map (·.1)).Nodup := by
  have : (latAll n l).map (keyF n) = ((latAll n l).map (madeL n)).map fun z => z.map mvK := by rw [List.map_map]; rfl
  rw [h, this]
  exact List.Pairwise.map _ (fun a b hab z => hab (map_inj (fun _ _ => mvK_inj) z)) (lat_apart n l)
section
variable {P : Program} {w : World} {K : PySem.W.Frag} {mg : Str → Option Value} {base : Heap}
def RLattices (S : List Sv) (d : PyData) : Prop := ∃ (n : Nat), S = [.dat (.int n)] ∧ 1 ≤ n ∧ n ≤ 3 ∧ d = .list ((latL n).map (latD n))

theorem ok_lattices {f : Addr} {fd : FuncData} {k : Nat} (F : Fun K "lattices" "lattices" sLattices f fd) (CM : CalK P w K mg base k "made" pMade RMade) (m1 : mg "range" = none) (m2 : mg "divmod" = none) (m3 : mg "tuple" = none) (m4 : mg "list" = none) : FnOk P w K mg base CX0 (k + 1) f fd pLattices (SpD K RLattices) := by
  refine fn_ok F scLattices (fun S d h => ?_) fun A hr S d h => ?_
  · obtain ⟨n, rfl, _⟩ := h
    rfl
  · obtain ⟨n, rfl, h1, h3, rfl⟩ := h
    have nd := scLattices.nd
    have hu := hu_of hr
    have hu64 := hr.units
    have hu60 : A.units + 60 < cLine := by omega
    have hn0 : 0 < n := by omega
    have hnn : n * n ≤ 9 := Nat.mul_le_mul h3 h3
    have hnnI : (n : Int) * (n : Int) = ((n * n : Nat) : Int) := by simp
    walk_at "nf"
    refine hs_cons (ht_setLc 1 [("place", 2)] (xs := List.range (n * n)) (g := fun (k : Nat) => PyData.int (k : Int)) (fun (k : Nat) => mvD ⟨.stay, (k : Int) / (n : Int), (k : Int) % (n : Int)⟩) (fun _ => true) nd (by dsimp only [vwOf]; decide +kernel) (it_range1 (((ev_bin (ev_v slot0 rfl) (ev_v slot0 rfl) (by walk_at "br"))).to (by rw [hnnI])) (by omega) m1) (by rw [List.length_range]; exact Nat.lt_of_le_of_lt hnn (by decide)) (fun i c hc => ?_) ?_)
    · have hcn : c < n * n := List.mem_range.mp (List.mem_of_getElem? hc)
      refine ⟨_, _, tg_name 2 nd, fun i hi => hi, ets_nil, fun _ => ?_⟩
      walk_at "nf"
      exact ev_bin (da := .tuple [wS .stay]) (db := .tuple [.int ((c : Int) / (n : Int)), .int ((c : Int) % (n : Int))]) (ev_tup (ds := [wS .stay]) (eas_cons ev_str eas_nil (by intro _; rfl)) (by walk_at "len")) (ev_divmod (ea_cons (ev_v slot2 rfl) (ea_cons (ev_v slot0 rfl) ea_nil)) ⟨by omega, by omega⟩ m2) (br_catT (by walk_at "len"))
    walk_at "nf"
    rw [List.filter_eq_self.mpr fun _ _ => rfl]
    have esh : ((List.range (n * n)).map fun (k : Nat) => mvD ⟨.stay, (k : Int) / (n : Int), (k : Int) % (n : Int)⟩) = (shoveL n).map mvD := by
      unfold shoveL
      rw [List.map_map]
      rfl
    rw [esh]
    refine hs_cons (ht_newN 3 nd fun o1 => ?_)
    walk_at "nf"
    refine hs_cons (ht_newL 4 nd (ds := []) eas_nil (fun o2 => ?_))
    walk_at "nf"
    refine hs_cons (ht_for (xs := shoveL n) (g := mvD) (fun i Δ M => ∃ s5 s6 s7 s9 xs, Δ = [.dat (.int n), .dat (.list ((shoveL n).map mvD)), .non, .ref o1, .ref o2, s5, s6, s7, .non, s9] ∧ M = [(o2, .lst ((latAll n (((shoveL n).take i).flatMap fun a => (shoveL n).map fun b => fewOf a b)).map (latD n))), (o1, moN P w o1 xs)] ∧ xs.map (·.1) = (latAll n (((shoveL n).take i).flatMap fun a => (shoveL n).map fun b => fewOf a b)).map (keyF n)) (it_list (ev_v slot1 rfl)) ⟨.non, .non, .non, .non, [], rfl, rfl, rfl⟩ ?_ ?_)
    · rintro i a Δ M ha ⟨s5, s6, s7, s9, xs, rfl, rfl, hxs⟩
      have hi : i < n * n := by have := (List.getElem?_eq_some_iff.mp ha).1; rwa [shove_len] at this
      generalize hpre : ((shoveL n).take i).flatMap (fun a => (shoveL n).map fun b => fewOf a b) = pre at *
      have hprel : pre.length ≤ 81 := by
        rw [← hpre]
        have := len_flat_le (f := fun a => (shoveL n).map fun b => fewOf a b) (b := n * n) (fun x => by rw [List.length_map, shove_len]; exact Nat.le_refl _) ((shoveL n).take i)
        have h2 : ((shoveL n).take i).length ≤ 9 := by rw [List.length_take]; omega
        have := Nat.mul_le_mul h2 hnn
        omega
      refine ⟨_, _, tg_name 5 nd, ?_⟩
      walk_at "nf"
      refine hs_cons (ht_for (xs := shoveL n) (g := mvD) (fun j Δ M => ∃ s6 s7 s9 xs, Δ = [.dat (.int n), .dat (.list ((shoveL n).map mvD)), .non, .ref o1, .ref o2, .dat (mvD a), s6, s7, .non, s9] ∧ M = [(o2, .lst ((latAll n (pre ++ ((shoveL n).take j).map fun b => fewOf a b)).map (latD n))), (o1, moN P w o1 xs)] ∧ xs.map (·.1) = (latAll n (pre ++ ((shoveL n).take j).map fun b => fewOf a b)).map (keyF n)) (it_list (ev_v slot1 rfl)) ⟨s6, s7, s9, xs, rfl, by rw [List.take_zero, List.map_nil, List.append_nil], by rw [List.take_zero, List.map_nil, List.append_nil]; exact hxs⟩ ?_ ?_)
      · rintro j b Δ M hb ⟨s6, s7, s9, xs, rfl, rfl, hxs⟩
        have hj : ((shoveL n).take j).length ≤ 9 := by rw [List.length_take, shove_len]; omega
        have hll := lat_len n (pre ++ ((shoveL n).take j).map fun b => fewOf a b)
        rw [List.length_append, List.length_map] at hll
        have hxl : xs.length ≤ 90 := by
          have := congrArg List.length hxs
          rw [List.length_map, List.length_map] at this
          omega
        have hnd := keys_nodup hxs
        refine ⟨_, _, tg_name 6 nd, ?_⟩
        walk_at "nf"
        refine hs_cons (ht_setLc 7 [("shove", 8)] (xs := [a, b]) (g := mvD) mvD (fun m => decide (m ≠ idm)) nd (by dsimp only [vwOf]; decide +kernel) (it_list (ev_lst (ds := [mvD a, mvD b]) (eas_cons (ev_v slot5 rfl) (eas_cons (ev_v slot6 rfl) eas_nil (by intro _; rfl)) (by intro _; rfl)) (by walk_at "len"))) (by show 2 < sizeLine; decide) (fun i c hc => ?_) ?_)
        · refine ⟨_, _, tg_name 8 nd, fun i hi => hi, ?_⟩
          walk_at "nf"
          refine ⟨ets_one (et_cmp (da := mvD c) (db := mvD idm) (ev_v slot8 rfl) (ev_tup (ds := [wS .stay, .int 0, .int 0]) (eas_cons ev_str (eas_cons ev_int (eas_cons ev_int eas_nil (by intro _; rfl)) (by intro _; rfl)) (by intro _; rfl)) (by walk_at "len")) (cr_neP hu64 (ok_mvS c) (ok_mvS idm) ?_)), fun _ => (ev_v slot8 rfl)⟩
          rw [decide_eq_true_iff]
          exact not_congr ⟨fun e => by rw [e], mvD_inj⟩
        walk_at "nf"
        have efew : (List.filter (fun m => decide (m ≠ idm)) [a, b]).map mvD = (fewOf a b).map mvD := rfl
        rw [efew]
        generalize hfew : fewOf a b = few
        refine hs_cons (ht_set 9 nd (d := encN (keyF n few)) ((ev_tupleL (ev_call (k := k) CM hr (ea_cons (ev_v slot0 rfl) (ea_cons (ev_v slot7 rfl) ea_nil)) ⟨n, few, rfl, h1, h3, rfl⟩) m3).to (keyF_enc n few).symm) ?_)
        walk_at "nf"
        refine hs_cons (ht_if (et_ninN hu60 (ks := keyF n few) (ev_v slot9 rfl) (ex_ref 3 rfl) (j := 1) rfl hnd) (fun hk => ?_) (fun hk => ?_))
        · have hin : inK (keyF n few) xs = false := by simpa using hk
          refine hs_cons (ht_putN 1 hu60 (ex_ref 3 rfl) rfl (ks := keyF n few) (ev_v slot9 rfl) hnd hin (by omega) fun bb => ?_)
          walk_at "nf"
          refine hs_cons (ht_app 0 (ex_ref 4 rfl) rfl (d := latD n few) (ev_tup (ds := [.list (few.map mvD), .list ((madeL n few).map mvD)]) (eas_cons (ev_v slot7 rfl) (eas_cons (ev_listT ((ev_v slot9 rfl : EvD _ _ _ _ (encN (keyF n few))).to (keyF_enc n few)) m4) eas_nil (by intro _; rfl)) (by intro _; rfl)) (by walk_at "len")) (by rw [List.length_map]; omega) ?_)
          walk_at "nf"
          rw [inK_lat hxs] at hin
          have est : latAll n (pre ++ ((shoveL n).take (j + 1)).map fun b => fewOf a b) = latAll n (pre ++ ((shoveL n).take j).map fun b => fewOf a b) ++ [few] := by
            rw [take_succ' hb, List.map_append, ← List.append_assoc, List.map_cons, List.map_nil, latAll_snoc, hfew]
            unfold latStep
            rw [if_neg (by rw [hin]; decide)]
          refine hs_nil (hs_nil ⟨_, _, _, xs ++ [(keyF n few, bb)], rfl, ?_, ?_⟩)
          · rw [est, List.map_append]; rfl
          · rw [est, List.map_append, List.map_append, hxs]; rfl
        · have hin : inK (keyF n few) xs = true := by simpa using hk
          rw [inK_lat hxs] at hin
          have est : latAll n (pre ++ ((shoveL n).take (j + 1)).map fun b => fewOf a b) = latAll n (pre ++ ((shoveL n).take j).map fun b => fewOf a b) := by
            rw [take_succ' hb, List.map_append, ← List.append_assoc, List.map_cons, List.map_nil, latAll_snoc, hfew]
            unfold latStep
            rw [if_pos hin]
          refine hs_nil (hs_nil ⟨_, _, _, xs, rfl, ?_, ?_⟩)
          · rw [est]
          · rw [est]; exact hxs
      · rintro Δ M ⟨s6, s7, s9, xs, rfl, rfl, hxs⟩
        rw [List.take_length] at *
        have est : ((shoveL n).take (i + 1)).flatMap (fun a => (shoveL n).map fun b => fewOf a b) = pre ++ (shoveL n).map fun b => fewOf a b := by
          rw [take_succ' ha, List.flatMap_append, hpre]
          simp
        refine hs_nil ⟨_, _, _, _, xs, rfl, ?_, ?_⟩
        · rw [est]
        · rw [est]; exact hxs
    · rintro Δ M ⟨s5, s6, s7, s9, xs, rfl, rfl, hxs⟩
      rw [List.take_length]
      exact hs_cons (ht_retM 4 0 rfl rfl slot4 (k := rfl))
end
end Ck
end Ck18Part

/-! ## Ck19 -/
section Ck19Part
set_option Elab.async false
set_option linter.all false
set_option maxRecDepth 100000
set_option maxHeartbeats 4000000
/-! lifts, divisor. -/
namespace Ck
open PySem PySem.Spec PyProof.Rows L2 CkM
local macro_rules | `(tactic| walk_at "nf") => `(tactic| first | dsimp only [wipeS, List.map_cons, List.map_nil, List.set_cons_zero, List.set_cons_succ, List.length_cons, List.length_nil, List.replicate_succ, List.cons_append, List.nil_append, List.replicate_zero, List.append_nil, Nat.reduceSub, Nat.reduceAdd, List.eraseIdx_cons_zero, List.eraseIdx_cons_succ] | simp only [wipeS, List.map_cons, List.map_nil, List.set_cons_zero, List.set_cons_succ, List.length_cons, List.length_nil, List.replicate_succ, List.cons_append, List.nil_append, List.replicate_zero, List.append_nil, Nat.reduceSub, Nat.reduceAdd, List.eraseIdx_cons_zero, List.eraseIdx_cons_succ])
local macro_rules | `(tactic| walk_at "len") => `(tactic| exact small_len (Nat.le_of_ble_eq_true rfl))
local macro_rules | `(tactic| walk_at "ix") => `(tactic| first | exact IxD.tup rfl | exact IxD.lst rfl)
local macro_rules | `(tactic| walk_at "br") => `(tactic| first | exact br_add | exact br_sub | exact br_mul (by first | exact cmul_l (by omega) | exact cmul_r (by omega)) | exact br_mod (by omega) | exact br_fdiv ⟨by omega, by omega⟩)
local macro_rules | `(tactic| walk_at "cr") => `(tactic| first | exact cr_gt | exact cr_lt | exact cr_eqI | exact cr_le | exact cr_ge | exact cr_neI)
def putB (ps : List Pl) : List (List Key × PyData) := ps.foldl (fun acc p => putD acc (plK p) (.bool true)) []
theorem putB_snoc (ps : List Pl) (p : Pl) : putB (ps ++ [p]) = putD (putB ps) (plK p) (.bool true) := by simp [putB]
theorem valD_B (ps : List Pl) (q : Pl) : (valD (putB ps) (plK q)).isSome = decide (q ∈ ps) := by
  have : ∀ l : List Pl, (valD (putB l.reverse) (plK q)).isSome = decide (q ∈ l) := by
    intro l
    induction l with
    | nil => simp [putB, valD]
    | cons a l ih =>
      rw [List.reverse_cons, putB_snoc, valD_putD]
      by_cases e : a = q
      · subst e; simp
      · rw [if_neg (fun z => e (plK_inj z)), ih]
        simp [Ne.symm e]
  have := this ps.reverse
  rw [List.reverse_reverse] at this
  rw [this]
  simp
theorem putB_len (ps : List Pl) : (putB ps).length ≤ ps.length := by
  have : ∀ l : List Pl, (putB l.reverse).length ≤ l.length := by
    intro l
    induction l with
    | nil => exact Nat.le_refl _
    | cons a l ih =>
      rw [List.reverse_cons, putB_snoc]
      have := putD_len (putB l.reverse) (plK a) (.bool true)
      rw [List.length_cons]; omega
  have := this ps.reverse
  rwa [List.reverse_reverse, List.length_reverse] at this
section
variable {P : Program} {w : World} {K : PySem.W.Frag} {mg : Str → Option Value} {base : Heap}
def grpD (a : List Mv) : PyData := .list (a.map mvD)
def RLifts (S : List Sv) (d : PyData) : Prop := ∃ (n : Nat) (head : List Way) (T : List Mv), S = [.dat (.int n), .wt (head.map wS), .dat (.list (T.map mvD))] ∧ 1 ≤ n ∧ n ≤ 3 ∧ head.length ≤ 2 ∧ T.length ≤ 72 ∧ d = .list ((liftL (startL n T) head).map grpD)

theorem ok_lifts {f : Addr} {fd : FuncData} {k : Nat} (F : Fun K "lifts" "lifts" sLifts f fd) (m1 : mg "range" = none) : FnOk P w K mg base CX0 (k + 1) f fd pLifts (SpD K RLifts) := by
  refine fn_ok F scLifts (fun S d h => ?_) fun A hr S d h => ?_
  · obtain ⟨n, head, T, rfl, _⟩ := h
    rfl
  · obtain ⟨n, head, T, rfl, h1, h3, hh, hT, rfl⟩ := h
    have nd := scLifts.nd
    have hu := hu_of hr
    have hu64 := hr.units
    have hn0 : 0 < n := by omega
    have npos : (0 : Int) < n := by omega
    have hnn : n * n ≤ 9 := Nat.mul_le_mul h3 h3
    have hcos : ∀ l : List Pl, (l.flatMap (coset n T)).length ≤ l.length * 72 := len_flat_le fun x => by unfold coset; rw [List.length_map]; exact hT
    walk_at "nf"
    refine hs_cons (ht_set 3 nd (d := .list [.list []]) (ev_lst (ds := [.list []]) (eas_cons (ev_lst (ds := []) eas_nil (by walk_at "len")) eas_nil (by intro _; rfl)) (by walk_at "len")) ?_)
    walk_at "nf"
    refine hs_cons (ht_newL 4 nd (ds := []) eas_nil (fun o1 => ?_))
    walk_at "nf"
    refine hs_cons (ht_newT 5 nd fun o2 => ?_)
    walk_at "nf"
    refine hs_cons (ht_for (xs := List.range n) (g := fun (r : Nat) => PyData.int (r : Int)) (fun i Δ M => ∃ s6 s7 s8 s9 s10, Δ = [.dat (.int n), .wt (head.map wS), .dat (.list (T.map mvD)), .dat (.list [.list []]), .ref o1, .ref o2, s6, s7, s8, s9, s10, .non, .non] ∧ M = [(o2, .dT (putB ((startA n T ((allPl n).take (i * n))).flatMap (coset n T)))), (o1, .lst ((startA n T ((allPl n).take (i * n))).map plD))]) (it_range1 (ev_v slot0 rfl) (by omega) m1) ⟨.non, .non, .non, .non, .non, rfl, by rw [Nat.zero_mul]; rfl⟩ ?_ ?_)
    · rintro i y Δ M hy ⟨s6, s7, s8, s9, s10, rfl, rfl⟩
      have hi : i < n := by have := (List.getElem?_eq_some_iff.mp hy).1; rwa [List.length_range] at this
      have ey : y = i := by rw [List.getElem?_range hi] at hy; exact (Option.some.inj hy).symm
      subst ey
      refine ⟨_, _, tg_name 6 nd, ?_⟩
      walk_at "nf"
      refine hs_cons (ht_for (xs := List.range n) (g := fun (r : Nat) => PyData.int (r : Int)) (fun j Δ M => ∃ s7 s8 s9 s10, Δ = [.dat (.int n), .wt (head.map wS), .dat (.list (T.map mvD)), .dat (.list [.list []]), .ref o1, .ref o2, .dat (.int (y : Int)), s7, s8, s9, s10, .non, .non] ∧ M = [(o2, .dT (putB ((startA n T ((allPl n).take (y * n + j))).flatMap (coset n T)))), (o1, .lst ((startA n T ((allPl n).take (y * n + j))).map plD))]) (it_range1 (ev_v slot0 rfl) (by omega) m1) ⟨s7, s8, s9, s10, rfl, rfl⟩ ?_ ?_)
      · rintro j c Δ M hc ⟨s7, s8, s9, s10, rfl, rfl⟩
        have hj : j < n := by have := (List.getElem?_eq_some_iff.mp hc).1; rwa [List.length_range] at this
        have ec : c = j := by rw [List.getElem?_range hj] at hc; exact (Option.some.inj hc).symm
        subst ec
        have hk := allPl_get hi hj
        generalize hkk : y * n + c = kk at *
        refine ⟨_, _, tg_name 7 nd, ?_⟩
        walk_at "nf"
        have hsl := start_len n T ((allPl n).take kk)
        have htk : ((allPl n).take kk).length ≤ 9 := by rw [List.length_take, len_pl]; omega
        have hcl := hcos (startA n T ((allPl n).take kk))
        have hst : startA n T ((allPl n).take (kk + 1)) = stStep n T (startA n T ((allPl n).take kk)) ((y : Int), (c : Int)) := by
          rw [take_succ' hk, startA_snoc]
        generalize hacc : startA n T ((allPl n).take kk) = acc at *
        refine hs_cons (ht_if (et_ninT hu (ks := plK ((y : Int), (c : Int))) (ev_tup (eas_cons (ev_v slot6 rfl) (eas_cons (ev_v slot7 rfl) eas_nil (by intro _; rfl)) (by intro _; rfl)) (by walk_at "len")) (ex_ref 5 rfl) (j := 0) rfl) (fun hb => ?_) (fun hb => ?_))
        · have hF : ((y : Int), (c : Int)) ∉ acc.flatMap (coset n T) := by simpa [valD_B] using hb
          have hst2 : stStep n T acc ((y : Int), (c : Int)) = acc ++ [((y : Int), (c : Int))] := by unfold stStep; rw [if_neg hF]
          refine hs_cons (ht_app 1 (ex_ref 4 rfl) rfl (d := plD ((y : Int), (c : Int))) (ev_tup (eas_cons (ev_v slot6 rfl) (eas_cons (ev_v slot7 rfl) eas_nil (by intro _; rfl)) (by intro _; rfl)) (by walk_at "len")) (by rw [List.length_map]; omega) ?_)
          walk_at "nf"
          refine hs_cons (ht_for (xs := T) (g := mvD) (fun t Δ M => ∃ s8 s9 s10, Δ = [.dat (.int n), .wt (head.map wS), .dat (.list (T.map mvD)), .dat (.list [.list []]), .ref o1, .ref o2, .dat (.int (y : Int)), .dat (.int (c : Int)), s8, s9, s10, .non, .non] ∧ M = [(o2, .dT (putB (acc.flatMap (coset n T) ++ (T.take t).map (shift n ((y : Int), (c : Int)))))), (o1, .lst (acc.map plD ++ [plD ((y : Int), (c : Int))]))]) (it_list (ev_v slot2 rfl)) ⟨s8, s9, s10, rfl, by rw [List.take_zero, List.map_nil, List.append_nil]⟩ ?_ ?_)
          · rintro t m Δ M hm ⟨s8, s9, s10, rfl, rfl⟩
            refine ⟨_, _, tg_tup (tgs_cons (tg_name 8 nd) (tgs_cons (tg_name 9 nd) (tgs_cons (tg_name 10 nd) tgs_nil))), ?_⟩
            walk_at "nf"
            have hpl := putB_len (acc.flatMap (coset n T) ++ (T.take t).map (shift n ((y : Int), (c : Int))))
            have htl : (T.take t).length ≤ 72 := by rw [List.length_take]; omega
            rw [List.length_append, List.length_map] at hpl
            refine hs_cons (ht_putT 0 hu ev_bl (ex_ref 5 rfl) rfl (ks := plK (shift n ((y : Int), (c : Int)) m)) (ev_tup (eas_cons (ev_bin (ev_bin (ev_v slot6 rfl) (ev_v slot9 rfl) (by walk_at "br")) (ev_v slot0 rfl) (by walk_at "br")) (eas_cons (ev_bin (ev_bin (ev_v slot7 rfl) (ev_v slot10 rfl) (by walk_at "br")) (ev_v slot0 rfl) (by walk_at "br")) eas_nil (by intro _; rfl)) (by intro _; rfl)) (by walk_at "len")) (by omega) ?_)
            walk_at "nf"
            refine hs_nil ⟨_, _, _, rfl, ?_⟩
            rw [take_succ' hm, List.map_append, ← List.append_assoc, List.map_cons, List.map_nil, putB_snoc]
          · rintro Δ M ⟨s8, s9, s10, rfl, rfl⟩
            refine hs_nil (hs_nil ⟨_, _, _, _, rfl, ?_⟩)
            rw [List.take_length, ← Nat.add_assoc, hkk, hst, hst2, List.flatMap_append, List.map_append]
            simp [coset]
        · have hF : ((y : Int), (c : Int)) ∈ acc.flatMap (coset n T) := by simpa [valD_B] using hb
          have hst2 : stStep n T acc ((y : Int), (c : Int)) = acc := by unfold stStep; rw [if_pos hF]
          refine hs_nil (hs_nil ⟨_, _, _, _, rfl, ?_⟩)
          rw [← Nat.add_assoc, hkk, hst, hst2]
      · rintro Δ M ⟨s7, s8, s9, s10, rfl, rfl⟩
        refine hs_nil ⟨_, _, _, _, _, rfl, ?_⟩
        rw [List.length_range, Nat.succ_mul]
    · rintro Δ M ⟨s6, s7, s8, s9, s10, rfl, rfl⟩
      have est : startA n T ((allPl n).take ((List.range n).length * n)) = startL n T := by
        unfold startL
        rw [List.length_range, List.take_of_length_le (by rw [len_pl]; exact Nat.le_refl _)]
      rw [est]
      have hsl : (startL n T).length ≤ 9 := Nat.le_trans (start_len n T (allPl n)) (by rw [len_pl]; exact hnn)
      generalize startL n T = st at *
      generalize putB (st.flatMap (coset n T)) = kv
      refine hs_freeze 4 1 rfl rfl ?_
      walk_at "nf"
      have hfl : ∀ i, (liftL st (head.take i)).length ≤ 81 := fun i => by
        unfold liftL
        rw [lift_len, List.length_singleton, Nat.one_mul]
        have h2 : (head.take i).length ≤ 2 := by rw [List.length_take]; omega
        exact Nat.le_trans (Nat.pow_le_pow_left hsl _) (Nat.pow_le_pow_right (by decide) h2)
      have hal : ∀ i, ∀ a ∈ liftL st (head.take i), a.length ≤ 2 := fun i a ha => by
        obtain ⟨a0, ha0, ps, p1, p2, p3⟩ := lift_inv st _ _ _ ha
        rw [List.mem_singleton] at ha0
        subst ha0
        rw [p3, List.nil_append, List.length_map, List.length_zip, p1, List.length_take]
        omega
      refine hs_cons (ht_for (xs := head) (g := wS) (fun i Δ M => ∃ s6 s7 s8 s9 s10 s11 s12, Δ = [.dat (.int n), .wt (head.map wS), .dat (.list (T.map mvD)), .dat (.list ((liftL st (head.take i)).map grpD)), .dat (.list (st.map plD)), .ref o2, s6, s7, s8, s9, s10, s11, s12] ∧ M = [(o2, .dT kv)]) (it_wt (ex_wt 1 rfl)) ⟨s6, s7, s8, s9, s10, .non, .non, rfl, rfl⟩ ?_ ?_)
      · rintro i wy Δ M hy ⟨s6, s7, s8, s9, s10, s11, s12, rfl, rfl⟩
        refine ⟨_, _, tg_name 8 nd, ?_⟩
        walk_at "nf"
        refine hs_cons (ht_newL 11 nd (ds := []) eas_nil (fun o3 => ?_))
        walk_at "nf"
        have hF := hfl i
        have hA := hal i
        have hnext : liftL st (head.take (i + 1)) = liftStep st (liftL st (head.take i)) wy := by
          rw [take_succ' hy]
          simp [liftL]
        generalize liftL st (head.take i) = fnd at *
        refine hs_cons (ht_for (xs := fnd) (g := grpD) (fun j Δ M => ∃ s6 s7 s12, Δ = [.dat (.int n), .wt (head.map wS), .dat (.list (T.map mvD)), .dat (.list (fnd.map grpD)), .dat (.list (st.map plD)), .ref o2, s6, s7, .dat (wS wy), s9, s10, .ref o3, s12] ∧ M = [(o3, .lst ((liftStep st (fnd.take j) wy).map grpD)), (o2, .dT kv)]) (it_list (ev_v slot3 rfl)) ⟨s6, s7, s12, rfl, rfl⟩ ?_ ?_)
        · rintro j a Δ M ha ⟨s6, s7, s12, rfl, rfl⟩
          refine ⟨_, _, tg_name 12 nd, ?_⟩
          walk_at "nf"
          have hal2 := hA a (List.mem_of_getElem? ha)
          have hls : (liftStep st (fnd.take j) wy).length ≤ 81 * 9 := by
            have := len_flat_le (f := fun a : List Mv => st.map fun p => a ++ [⟨wy, p.1, p.2⟩]) (b := 9) (fun x => by rw [List.length_map]; exact hsl) (fnd.take j)
            have h2 : (fnd.take j).length ≤ 81 := by rw [List.length_take]; omega
            have := Nat.mul_le_mul h2 (Nat.le_refl 9)
            unfold liftStep
            omega
          refine hs_cons (ht_ext 0 (ex_ref 11 rfl) rfl (es' := (st.map fun p => a ++ [⟨wy, p.1, p.2⟩]).map grpD) ((ev_lc [("down", 6), ("right", 7)] (xs := st) (g := plD) (fun p => grpD (a ++ [⟨wy, p.1, p.2⟩])) (fun _ => true) nd (by dsimp only [vwOf]; decide +kernel) (it_list (ev_v slot4 rfl)) (Nat.lt_of_le_of_lt hsl (by decide)) fun t p hp => ?_).to (by rw [List.filter_eq_self.mpr fun _ _ => rfl, List.map_map]; rfl)) (by rw [List.length_map, List.length_map, List.length_map]; omega) ?_)
          · refine ⟨_, _, tg_tup (tgs_cons (tg_name 6 nd) (tgs_cons (tg_name 7 nd) tgs_nil)), fun i hi => by simpa using hi, ets_nil, fun _ => ?_⟩
            walk_at "nf"
            refine EvD.to (ev_bin (da := .list (a.map mvD)) (db := .list [mvD ⟨wy, p.1, p.2⟩]) (ev_v slot12 rfl) (ev_lst (ds := [mvD ⟨wy, p.1, p.2⟩]) (eas_cons (ev_tup (eas_cons (ev_v slot8 rfl) (eas_cons (ev_v slot6 rfl) (eas_cons (ev_v slot7 rfl) eas_nil (by intro _; rfl)) (by intro _; rfl)) (by intro _; rfl)) (by walk_at "len")) eas_nil (by intro _; rfl)) (by walk_at "len")) (br_cat (small_len (by rw [List.length_map]; show a.length + 1 ≤ 1000; omega)))) ?_
            unfold grpD
            rw [List.map_append]
            rfl
          · walk_at "nf"
            refine hs_nil ⟨_, _, _, rfl, ?_⟩
            rw [take_succ' ha]
            simp [liftStep]
        · rintro Δ M ⟨s6, s7, s12, rfl, rfl⟩
          rw [List.take_length]
          refine hs_freeze 11 0 rfl rfl ?_
          walk_at "nf"
          refine hs_cons (ht_set 3 nd (ev_v slot11 rfl) ?_)
          walk_at "nf"
          rw [← hnext]
          exact hs_nil ⟨_, _, _, _, _, _, _, rfl, rfl⟩
      · rintro Δ M ⟨s6, s7, s8, s9, s10, s11, s12, rfl, rfl⟩
        rw [List.take_length]
        exact hs_cons (ht_ret (ev_v slot3 rfl) rfl)
def RDivisor (S : List Sv) (d : PyData) : Prop := ∃ (ns : List Nat), S = [.dat (.list (ns.map fun (x : Nat) => .int (x : Int)))] ∧ d = .int (gcdL ns)

theorem ok_divisor {f : Addr} {fd : FuncData} {k : Nat} (F : Fun K "divisor" "divisor" sDivisor f fd) : FnOk P w K mg base CX0 (k + 1) f fd pDivisor (SpD K RDivisor) := by
  refine fn_ok F scDivisor (fun S d h => ?_) fun A hr S d h => ?_
  · obtain ⟨ns, rfl, _⟩ := h
    rfl
  · obtain ⟨ns, rfl, rfl⟩ := h
    have nd := scDivisor.nd
    walk_at "nf"
    refine hs_cons (ht_set 1 nd ev_int ?_)
    walk_at "nf"
    refine hs_cons (ht_for (xs := ns) (g := fun (x : Nat) => .int (x : Int)) (fun i Δ M => ∃ s2 s3, Δ = [.dat (.list (ns.map fun (x : Nat) => .int (x : Int))), .dat (.int (gcdL (ns.take i))), s2, s3] ∧ M = []) (it_list (ev_v slot0 rfl)) ⟨.non, .non, rfl, rfl⟩ ?_ ?_)
    · rintro i y Δ M hy ⟨s2, s3, rfl, rfl⟩
      refine ⟨_, _, tg_name 2 nd, ?_⟩
      walk_at "nf"
      refine hs_cons (ht_set 3 nd (ev_v slot2 rfl) ?_)
      walk_at "nf"
      have hg : gcdL (ns.take (i + 1)) = Nat.gcd (gcdL (ns.take i)) y := by
        rw [take_succ' hy]
        simp [gcdL]
      refine hs_cons (ht_while (fun m Δ M => ∃ f : Nat, Δ = [.dat (.list (ns.map fun (x : Nat) => .int (x : Int))), .dat (.int (f : Int)), .dat (.int (y : Int)), .dat (.int (m : Int))] ∧ M = [] ∧ Nat.gcd f m = Nat.gcd (gcdL (ns.take i)) y) y ⟨_, rfl, rfl, rfl⟩ ?_)
      rintro m Δ M ⟨f, rfl, rfl, hgc⟩
      refine ⟨_, (et_cmp (ev_v slot3 rfl) ev_int (by walk_at "cr")), fun hb => ?_, fun hb => ?_⟩
      · have hm : 0 < m := by have := of_decide_eq_true hb; omega
        refine hs_cons (ht_par 1 3 nd (da := .int m) (db := .int ((f : Int) % (m : Int))) (ea_cons (ev_v slot3 rfl) (ea_cons (ev_bin (ev_v slot1 rfl) (ev_v slot3 rfl) (by walk_at "br")) ea_nil)) ?_)
        walk_at "nf"
        refine hs_nil ⟨f % m, Nat.mod_lt _ hm, m, rfl, rfl, ?_⟩
        rw [← hgc, Nat.gcd_comm m, ← Nat.gcd_rec, Nat.gcd_comm]
      · have hm : m = 0 := by have := of_decide_eq_false hb; omega
        subst hm
        have e : gcdL (ns.take (i + 1)) = f := by rw [hg, ← hgc, Nat.gcd_zero_right]
        rw [← e]
        exact hs_nil ⟨_, _, rfl, rfl⟩
    · rintro Δ M ⟨s2, s3, rfl, rfl⟩
      rw [List.take_length]
      exact hs_cons (ht_ret (ev_v slot1 rfl) rfl)
end
end Ck
end Ck19Part

/-! ## CkM7 -/
section CkM7Part
set_option linter.all false
set_option maxRecDepth 100000
/-! What bettered keeps. Plain Lean. -/
namespace CkM
noncomputable def chI (n : Nat) (κ : Col) (ms : List Mv) : Int := (n : Int) * (n : Int) - ((circlesL n ms).map fun c => (mostN κ c : Int)).sum
noncomputable def bdI (n : Nat) (e : List Mv × Nat) : Int := (e.2 : Int) * (gcdL ((circlesL n e.1).map List.length) : Int)
abbrev Best := Int × Int × List Mv
def beats (s c : Int) (b : Best) : Bool := decide (b.1 < s) || (decide (s = b.1) && decide (c < b.2.1))
noncomputable def szI (n : Nat) (ms : List Mv) : Int := ((madeL n ms).length : Int)
noncomputable def btStep (n : Nat) (κ : Col) (most : Int) (b : Best) (e : List Mv × Nat) : Best :=
  if (decide (chI n κ e.1 ≤ most) && beats (bdI n e) (chI n κ e.1) b) = true then (if beats (szI n e.1) (chI n κ e.1) b = true then (szI n e.1, chI n κ e.1, e.1) else b) else b
noncomputable def btA (n : Nat) (κ : Col) (most : Int) (l : List (List Mv × Nat)) : Best := l.foldl (btStep n κ most) (1, 0, [])
theorem btA_snoc (n : Nat) (κ : Col) (most : Int) (l : List (List Mv × Nat)) (e : List Mv × Nat) : btA n κ most (l ++ [e]) = btStep n κ most (btA n κ most l) e := by simp [btA]
theorem btA_rec {n : Nat} {κ : Col} {most : Int} {P : List (List Mv × Nat) → Best → Prop} (h0 : P [] (1, 0, [])) (hs : ∀ l b e, P l b → P (l ++ [e]) (btStep n κ most b e)) : ∀ l, P l (btA n κ most l) := by
  intro ps
  have : ∀ l : List (List Mv × Nat), P l.reverse (btA n κ most l.reverse) := by
    intro l
    induction l with
    | nil => exact h0
    | cons a l ih =>
      rw [List.reverse_cons, btA_snoc]
      exact hs _ _ _ ih
  have := this ps.reverse
  rwa [List.reverse_reverse] at this
theorem bt_from (n : Nat) (κ : Col) (most : Int) : ∀ l, (btA n κ most l).2.2 = [] ∨ ∃ e ∈ l, e.1 = (btA n κ most l).2.2 := btA_rec (P := fun l b => b.2.2 = [] ∨ ∃ e ∈ l, e.1 = b.2.2) (.inl rfl) fun l b e h => by
  have old : b.2.2 = [] ∨ ∃ e' ∈ l ++ [e], e'.1 = b.2.2 := h.imp id fun ⟨x, h1, h2⟩ => ⟨x, List.mem_append_left _ h1, h2⟩
  unfold btStep
  split
  · split
    · exact .inr ⟨e, List.mem_append_right _ (by simp), rfl⟩
    · exact old
  · exact old
noncomputable def bestL (n : Nat) (κ : Col) (most : Int) : Best := btA n κ most (groupsL n)
theorem made_len {n : Nat} (h3 : n ≤ 3) (ms : List Mv) : (madeL n ms).length ≤ 72 := by
  unfold madeL reached
  have h := List.length_filter_le (fun x => @decide (Rch (stepM n) ms idm x) (Classical.propDecidable _)) (allMv n)
  have h2 : (allMv n).length ≤ 72 := by
    have : n = 0 ∨ n = 1 ∨ n = 2 ∨ n = 3 := by omega
    rcases this with rfl | rfl | rfl | rfl <;> decide
  omega
theorem shove_mem {n : Nat} (h1 : 1 ≤ n) {m : Mv} (h : m ∈ shoveL n) : m ∈ allMv n := by
  obtain ⟨k, hk, rfl⟩ := List.mem_map.mp h
  have hk := List.mem_range.mp hk
  rw [mem_allMv, mem_allPl]
  have hn : (0 : Int) < n := by omega
  refine ⟨⟨Int.ediv_nonneg (by omega) (by omega), ?_⟩, Int.emod_nonneg _ (by omega), Int.emod_lt_of_pos _ hn⟩
  show (k : Int) / (n : Int) < n
  have : k / n < n := Nat.div_lt_of_lt_mul hk
  omega
theorem few_mem {n : Nat} (h1 : 1 ≤ n) {f : List Mv} (h : f ∈ latL n) : ∃ a ∈ shoveL n, ∃ b ∈ shoveL n, f = fewOf a b := by
  have h := lat_from n (pairsL n) f h
  obtain ⟨a, ha, h⟩ := List.mem_flatMap.mp h
  obtain ⟨b, hb, h⟩ := List.mem_map.mp h
  exact ⟨a, ha, b, hb, h.symm⟩
theorem group_mem {n : Nat} (h1 : 1 ≤ n) {e : List Mv × Nat} (h : e ∈ groupsL n) : ∀ m ∈ e.1, m ∈ allMv n := by
  obtain ⟨few, hf, h⟩ := List.mem_flatMap.mp h
  obtain ⟨i, hi, h⟩ := List.mem_flatMap.mp h
  obtain ⟨a, ha, rfl⟩ := List.mem_map.mp h
  obtain ⟨a0, ha0, ps, p1, p2, p3⟩ := lift_inv _ _ _ _ ha
  rw [List.mem_singleton] at ha0
  subst ha0
  intro m hm
  rcases List.mem_append.mp hm with hm | hm
  · obtain ⟨x, hx, y, hy, rfl⟩ := few_mem h1 hf
    have := (List.mem_filter.mp hm).1
    simp only [List.mem_cons, List.not_mem_nil, or_false] at this
    rcases this with rfl | rfl
    · exact shove_mem h1 hx
    · exact shove_mem h1 hy
  · rw [p3, List.nil_append] at hm
    obtain ⟨x, hx, rfl⟩ := List.mem_map.mp hm
    rw [mem_allMv]
    exact start_from _ _ _ _ (p2 x.2 (List.of_mem_zip hx).2)
theorem group_sz {n : Nat} {e : List Mv × Nat} (h : e ∈ groupsL n) : e.2 ≤ 8 := by
  obtain ⟨few, hf, h⟩ := List.mem_flatMap.mp h
  obtain ⟨i, hi, h⟩ := List.mem_flatMap.mp h
  obtain ⟨a, ha, rfl⟩ := List.mem_map.mp h
  have : ∀ i < 10, SIZES.getD i 0 ≤ 8 := by decide
  exact this i (List.mem_range.mp hi)
theorem row_le {n : Nat} (h3 : n ≤ 3) (few : List Mv) (i : Nat) : (grpRow n few i).length ≤ 81 := by
  unfold grpRow
  rw [List.length_map]
  unfold liftL
  rw [lift_len, List.length_singleton, Nat.one_mul]
  have hs : (startL n (madeL n few)).length ≤ 9 := by
    have := start_len n (madeL n few) (allPl n)
    have h2 : (allPl n).length ≤ 9 := by
      have : n = 0 ∨ n = 1 ∨ n = 2 ∨ n = 3 := by omega
      rcases this with rfl | rfl | rfl | rfl <;> decide
    unfold startL
    omega
  have hh : (HEADS.getD i []).length ≤ 2 := by
    by_cases hi : i < 10
    · have : ∀ i < 10, (HEADS.getD i []).length ≤ 2 := by decide
      exact this i hi
    · rw [List.getD_eq_getElem?_getD, List.getElem?_eq_none (by show 10 ≤ i; omega)]
      exact Nat.zero_le _
  exact Nat.le_trans (Nat.pow_le_pow_left hs _) (Nat.pow_le_pow_right (by decide) hh)
end CkM
end CkM7Part

/-! ## Ck20 -/
section Ck20Part
set_option Elab.async false
set_option linter.all false
set_option maxRecDepth 100000
set_option maxHeartbeats 4000000
/-! all_groups, bettered. -/
namespace Ck
open PySem PySem.Spec PyProof.Rows L2 CkM
local macro_rules | `(tactic| walk_at "nf") => `(tactic| first | dsimp only [wipeS, List.map_cons, List.map_nil, List.set_cons_zero, List.set_cons_succ, List.length_cons, List.length_nil, List.replicate_succ, List.cons_append, List.nil_append, List.replicate_zero, List.append_nil, Nat.reduceSub, Nat.reduceAdd, List.eraseIdx_cons_zero, List.eraseIdx_cons_succ] | simp only [wipeS, List.map_cons, List.map_nil, List.set_cons_zero, List.set_cons_succ, List.length_cons, List.length_nil, List.replicate_succ, List.cons_append, List.nil_append, List.replicate_zero, List.append_nil, Nat.reduceSub, Nat.reduceAdd, List.eraseIdx_cons_zero, List.eraseIdx_cons_succ])
local macro_rules | `(tactic| walk_at "len") => `(tactic| exact small_len (Nat.le_of_ble_eq_true rfl))
local macro_rules | `(tactic| walk_at "ix") => `(tactic| first | exact IxD.tup rfl | exact IxD.lst rfl)
local macro_rules | `(tactic| walk_at "br") => `(tactic| first | exact br_add | exact br_sub | exact br_mul (by first | exact cmul_l (by omega) | exact cmul_r (by omega)) | exact br_mod (by omega) | exact br_fdiv ⟨by omega, by omega⟩)
local macro_rules | `(tactic| walk_at "cr") => `(tactic| first | exact cr_gt | exact cr_lt | exact cr_eqI | exact cr_le | exact cr_ge | exact cr_neI)
structure Glob2 (K : PySem.W.Frag) (mg : Str → Option Value) : Prop where
  heads : ∃ a : Addr, mg "HEADS" = some (.ref a) ∧ WrTT K a (HEADS.map fun h => h.map wS)
  sizes : ∃ a : Addr, mg "HEAD_SIZES" = some (.ref a) ∧ WrT K a (SIZES.map fun (x : Nat) => L2.V.int (x : Int))
  largest : ∃ u : Value, mg "LARGEST" = some u ∧ RelV (L2.V.int 3) u
section
variable {U : Vw} {Δ : List Sv} {M : MS} {E : DE} {e a b c tg it : Expr} {es : List Expr} {d da db : PyData} {ds : List PyData} {x nm : Str} {pos p p1 p2 : Pos} {i j : Nat} {o : Addr}
/-- a written tuple at an index -/
theorem ev_ixW {n : Int} (ha : EvX U a Δ M (.wt ds)) (hb : EvD U b Δ M (.int n)) (h : L2.atI ds n = some d) (hs : PlainIx b := by exact fun _ _ => rfl) : EvD U (.Subscript a b pos) Δ M d := fun G0 H0 Gs G σ H st Q q =>
  ⟨tOp (rIx U.K) (rE U a) (rE U b), fun r => pe_ix (X := U.cx r) ix_seq pe_r pe_r hs, ha G0 H0 Gs G σ H st _ fun x G1 H1 e1 h1 => hb G0 H0 Gs G1 σ H1 (st.grow e1) _ fun y G2 H2 e2 h2 => by
    obtain ⟨l, vs, e0, hl, hf⟩ := h1
    cases e0
    rw [h2.int_eq]
    have hlen := Paired.length hf
    unfold L2.atI at h
    cases hx : ixN ds.length n with
    | none => rw [hx] at h; cases h
    | some j =>
      rw [hx] at h
      have h : ds[j]? = some d := h
      obtain ⟨v, hv, hd⟩ := Paired.at_ hf h
      refine .inr (.inl ⟨l, vs, n, v, rfl, rfl, Evl.ex_t e2.gh (Evl.ex_t e2.gg hl), ?_, q _ G2 H2 (e1.trans e2) hd.dt⟩)
      unfold L2.atI
      rw [hlen, hx]
      exact hv⟩
theorem ex_sizes (Gl : Glob2 U.K U.mg) (hg : U.sc.names.lookup ("HEAD_SIZES" : Str) = some .globalImplicit := by rfl) : EvX U (.Name "HEAD_SIZES" p) Δ M (.wt (SIZES.map fun (x : Nat) => PyData.int (x : Int))) := fun G0 H0 Gs G σ H st Q q => by
  obtain ⟨a, h1, h2⟩ := Gl.sizes
  refine ⟨tC (.ref a), fun r => pe_glob hg h1 rfl, q _ G H (.refl st.ext.gh) ⟨a, _, rfl, h2.sq G, ?_⟩⟩
  generalize SIZES = l
  induction l with
  | nil => exact .nil
  | cons x l ih => exact .cons (.int _) ih
theorem ev_largest (Gl : Glob2 U.K U.mg) (hg : U.sc.names.lookup ("LARGEST" : Str) = some .globalImplicit := by rfl) : EvD U (.Name "LARGEST" p) Δ M (.int 3) := fun G0 H0 Gs G σ H st Q q => by
  obtain ⟨u, h1, h2⟩ := Gl.largest
  exact ⟨tC (.int 3), fun r => pe_glob hg h1 h2, q _ G H (.refl st.ext.gh) (.int 3)⟩
end
section
variable {P : Program} {w : World} {K : PySem.W.Frag} {mg : Str → Option Value} {base : Heap}
def entD (e : List Mv × Nat) : PyData := .tuple [grpD e.1, .int e.2]
def RAllGroups (S : List Sv) (d : PyData) : Prop := ∃ (n : Nat), S = [.dat (.int n)] ∧ 1 ≤ n ∧ n ≤ 3 ∧ d = .list ((groupsL n).map entD)
theorem few_le {a b : Mv} : (fewOf a b).length ≤ 2 := List.length_filter_le _ [a, b]

theorem ok_allGroups {f : Addr} {fd : FuncData} {k : Nat} (F : Fun K "all_groups" "all_groups" sAllGroups f fd) (G2 : Glob2 K mg) (CL : CalK P w K mg base k "lattices" pLattices RLattices) (CF : CalK P w K mg base k "lifts" pLifts RLifts) (m1 : mg "enumerate" = none) : FnOk P w K mg base CX0 (k + 1) f fd pAllGroups (SpD K RAllGroups) := by
  refine fn_ok F scAllGroups (fun S d h => ?_) fun A hr S d h => ?_
  · obtain ⟨n, rfl, _⟩ := h
    rfl
  · obtain ⟨n, rfl, h1, h3, rfl⟩ := h
    have nd := scAllGroups.nd
    have hll : (latL n).length ≤ 81 := by
      have := lat_len n (pairsL n)
      rw [CkM.pairs_len] at this
      have hnn : n * n ≤ 9 := Nat.mul_le_mul h3 h3
      have := Nat.mul_le_mul hnn hnn
      unfold latL
      omega
    walk_at "nf"
    refine hs_cons (ht_newL 1 nd (ds := []) eas_nil (fun o1 => ?_))
    walk_at "nf"
    refine hs_cons (ht_for (xs := latL n) (g := latD n) (fun i Δ M => ∃ s2 s3 s4 s5 s6, Δ = [.dat (.int n), .ref o1, s2, s3, s4, s5, s6] ∧ M = [(o1, .lst ((((latL n).take i).flatMap fun few => (List.range 10).flatMap (grpRow n few)).map entD))]) (it_list (ev_call (k := k) CL hr (ea_cons (ev_v slot0 rfl) ea_nil) ⟨n, rfl, h1, h3, rfl⟩)) ⟨.non, .non, .non, .non, .non, rfl, rfl⟩ ?_ ?_)
    · rintro i few Δ M hy ⟨s2, s3, s4, s5, s6, rfl, rfl⟩
      have hfew : few ∈ latL n := List.mem_of_getElem? hy
      have hfl : few.length ≤ 2 := by
        obtain ⟨a, _, b, _, rfl⟩ := few_mem h1 hfew
        exact few_le
      have hpl : (((latL n).take i).flatMap fun few => (List.range 10).flatMap (grpRow n few)).length ≤ 81 * 810 := by
        have := len_flat_le (f := fun few => (List.range 10).flatMap (grpRow n few)) (b := 810) (fun few => by
          have := len_flat_le (f := grpRow n few) (row_le h3 few) (List.range 10)
          rwa [List.length_range] at this) ((latL n).take i)
        have h2 : ((latL n).take i).length ≤ 81 := by rw [List.length_take]; omega
        exact Nat.le_trans this (Nat.mul_le_mul h2 (Nat.le_refl _))
      have hnext : ((latL n).take (i + 1)).flatMap (fun few => (List.range 10).flatMap (grpRow n few)) = ((latL n).take i).flatMap (fun few => (List.range 10).flatMap (grpRow n few)) ++ (List.range 10).flatMap (grpRow n few) := by
        rw [take_succ' hy, List.flatMap_append]
        simp
      generalize ((latL n).take i).flatMap (fun few => (List.range 10).flatMap (grpRow n few)) = pre at *
      refine ⟨_, _, tg_tup (tgs_cons (tg_name 2 nd) (tgs_cons (tg_name 3 nd) tgs_nil)), ?_⟩
      walk_at "nf"
      obtain ⟨aH, hH1, hH2⟩ := G2.heads
      refine hs_cons (ht_forS (P := PEnum K (HEADS.map fun h => h.map wS)) (n := 10) (fun i Δ M => ∃ s4 s5 s6, Δ = [.dat (.int n), .ref o1, .dat (grpD few), .dat (grpD (madeL n few)), s4, s5, s6] ∧ M = [(o1, .lst ((pre ++ (List.range i).flatMap (grpRow n few)).map entD))]) (it_enumTT hH2 hH1 m1) ⟨s4, s5, s6, rfl, by rw [List.range_zero, List.flatMap_nil, List.append_nil]⟩ ?_ ?_)
      · rintro i Δ M hi ⟨s4, s5, s6, rfl, rfl⟩
        have hhd : (HEADS.map fun h => h.map wS)[i]? = some ((HEADS.getD i []).map wS) := by
          rw [List.getElem?_map, List.getD_eq_getElem?_getD]
          have : i < HEADS.length := hi
          rw [List.getElem?_eq_getElem this]
          rfl
        have hhl : (HEADS.getD i []).length ≤ 2 := by
          have : ∀ i < 10, (HEADS.getD i []).length ≤ 2 := by decide
          exact this i hi
        have hrl := row_le h3 few i
        have hpre : ((List.range i).flatMap (grpRow n few)).length ≤ 810 := by
          have := len_flat_le (f := grpRow n few) (row_le h3 few) (List.range i)
          rw [List.length_range] at this
          exact Nat.le_trans this (Nat.mul_le_mul (Nat.le_of_lt hi) (Nat.le_refl _))
        have hnx : (List.range (i + 1)).flatMap (grpRow n few) = (List.range i).flatMap (grpRow n few) ++ grpRow n few i := by
          rw [List.range_succ, List.flatMap_append]
          simp
        have hsz : L2.atI (SIZES.map fun (x : Nat) => PyData.int (x : Int)) (i : Int) = some (.int ((SIZES.getD i 0 : Nat) : Int)) := by
          have : ∀ i < 10, L2.atI (SIZES.map fun (x : Nat) => PyData.int (x : Int)) ((i : Nat) : Int) = some (.int ((SIZES.getD i 0 : Nat) : Int)) := by
            intro i hi
            have : i = 0 ∨ i = 1 ∨ i = 2 ∨ i = 3 ∨ i = 4 ∨ i = 5 ∨ i = 6 ∨ i = 7 ∨ i = 8 ∨ i = 9 := by omega
            rcases this with rfl | rfl | rfl | rfl | rfl | rfl | rfl | rfl | rfl | rfl <;> rfl
          exact this i hi
        refine ⟨_, tgs_enum 4 5 nd hhd, ?_⟩
        walk_at "nf"
        have hrow : grpRow n few i = (liftL (startL n (madeL n few)) (HEADS.getD i [])).map fun a => (few ++ a, SIZES.getD i 0) := rfl
        rw [hrow, List.length_map] at hrl
        have hal : ∀ a ∈ liftL (startL n (madeL n few)) (HEADS.getD i []), a.length ≤ 2 := fun a ha => by
          obtain ⟨a0, ha0, ps, p1, p2, p3⟩ := lift_inv _ _ _ _ ha
          rw [List.mem_singleton] at ha0
          subst ha0
          rw [p3, List.nil_append, List.length_map, List.length_zip, p1]
          omega
        generalize HEADS.getD i [] = head at *
        generalize SIZES.getD i 0 = sz at *
        generalize hL : liftL (startL n (madeL n few)) head = L at *
        refine hs_cons (ht_for (xs := L) (g := grpD) (fun j Δ M => ∃ s6, Δ = [.dat (.int n), .ref o1, .dat (grpD few), .dat (grpD (madeL n few)), .dat (.int (i : Int)), .wt (head.map wS), s6] ∧ M = [(o1, .lst ((pre ++ (List.range i).flatMap (grpRow n few) ++ (L.take j).map fun a => (few ++ a, sz)).map entD))]) (it_list (ev_call (k := k) CF hr (ea_cons (ev_v slot0 rfl) (ea_consX (ex_wt 5 rfl) (ea_cons (ev_v slot3 rfl) ea_nil))) ⟨n, head, madeL n few, rfl, h1, h3, hhl, made_len h3 few, by rw [hL]⟩)) ⟨s6, rfl, by rw [List.take_zero, List.map_nil, List.append_nil]⟩ ?_ ?_)
        · rintro j a Δ M ha ⟨s6, rfl, rfl⟩
          have hal2 := hal a (List.mem_of_getElem? ha)
          refine ⟨_, _, tg_name 6 nd, ?_⟩
          walk_at "nf"
          refine hs_cons (ht_app 0 (ex_ref 1 rfl) rfl (d := entD (few ++ a, sz)) (EvD.to (ev_tup (ds := [.list (few.map mvD ++ a.map mvD), .int sz]) (eas_cons (ev_bin (da := .list (few.map mvD)) (db := .list (a.map mvD)) (ev_v slot2 rfl) (ev_v slot6 rfl) (br_cat (small_len (by rw [List.length_map, List.length_map]; omega)))) (eas_cons (ev_ixW (ex_sizes G2) (ev_v slot4 rfl) hsz) eas_nil (by intro _; rfl)) (by intro _; rfl)) (by walk_at "len")) ?_) ?_ ?_)
          · unfold entD grpD
            rw [List.map_append]
          · rw [List.length_map, List.length_append, List.length_append, List.length_map, List.length_take]
            omega
          · walk_at "nf"
            refine hs_nil ⟨_, rfl, ?_⟩
            rw [take_succ' ha]
            simp only [List.map_append, List.map_cons, List.map_nil, List.append_assoc]
        · rintro Δ M ⟨s6, rfl, rfl⟩
          rw [List.take_length]
          refine hs_nil ⟨_, _, _, rfl, ?_⟩
          rw [hnx, hrow, List.append_assoc]
      · rintro Δ M ⟨s4, s5, s6, rfl, rfl⟩
        refine hs_nil ⟨_, _, _, _, _, rfl, ?_⟩
        rw [hnext]
    · rintro Δ M ⟨s2, s3, s4, s5, s6, rfl, rfl⟩
      rw [List.take_length]
      exact hs_cons (ht_retM 1 0 rfl rfl slot1 (k := rfl))

/-! ### bettered -/
def bestD (b : Best) : PyData := .tuple [.int b.1, .int b.2.1, grpD b.2.2]
noncomputable def betD (n : Nat) (κ : Col) (most : Int) : PyData := .tuple [grpD (bestL n κ most).2.2, .int (bestL n κ most).1, mendD n κ (bestL n κ most).2.2]
def RBettered (S : List Sv) (d : PyData) : Prop := ∃ (n : Nat) (κ : Col) (most : Int), S = [.dat (cpD n κ), .dat (.int most)] ∧ 1 ≤ n ∧ n ≤ 3 ∧ okC κ ∧ d = betD n κ most
theorem sum_most {n : Nat} {κ : Col} {ms : List Mv} : ((circlesL n ms).map fun c => PyData.int (mostN κ c : Int)) = ((circlesL n ms).map fun c => (mostN κ c : Int)).map .int := by rw [List.map_map]; rfl

theorem ok_bettered {f : Addr} {fd : FuncData} {k : Nat} (F : Fun K "bettered" "bettered" sBettered f fd) (G2 : Glob2 K mg) (CG : CalK P w K mg base k "all_groups" pAllGroups RAllGroups) (CC : CalK P w K mg base k "circles" pCircles RCircles) (CM : CalK P w K mg base k "most_had" pMostHad RMostHad) (CD : CalK P w K mg base k "divisor" pDivisor RDivisor) (CA : CalK P w K mg base k "made" pMade RMade) (CE : CalK P w K mg base k "mended" pMended RMended) (m1 : mg "len" = none) (m2 : mg "sum" = none) : FnOk P w K mg base CX0 (k + 1) f fd pBettered (SpD K RBettered) := by
  refine fn_ok F scBettered (fun S d h => ?_) fun A hr S d h => ?_
  · obtain ⟨n, κ, most, rfl, _⟩ := h
    rfl
  · obtain ⟨n, κ, most, rfl, h1, h3, hok, rfl⟩ := h
    have nd := scBettered.nd
    have hnn : n * n ≤ 9 := Nat.mul_le_mul h3 h3
    have hgr : ∀ e ∈ groupsL n, Sd n e.1 := fun e he => ⟨h1, h3, group_mem h1 he⟩
    walk_at "nf"
    refine hs_cons (ht_set 2 nd (ev_lenC (ev_v slot0 rfl) m1) ?_)
    walk_at "nf"
    refine hs_cons (ht_if (et_cmp (ev_v slot2 rfl) (ev_largest G2) cr_gt) (fun hk => ?_) (fun hk => hs_nil ?_))
    · have := of_decide_eq_true hk
      omega
    refine hs_cons (ht_set 3 nd (d := bestD (1, 0, [])) (ev_tup (ds := [.int 1, .int 0, .list []]) (eas_cons ev_int (eas_cons ev_int (eas_cons (ev_lst (ds := []) eas_nil (by walk_at "len")) eas_nil (by intro _; rfl)) (by intro _; rfl)) (by intro _; rfl)) (by walk_at "len")) ?_)
    walk_at "nf"
    refine hs_cons (ht_for (xs := groupsL n) (g := entD) (fun i Δ M => ∃ s4 s5 s6 s7 s9 s10, Δ = [.dat (cpD n κ), .dat (.int most), .dat (.int n), .dat (bestD (btA n κ most ((groupsL n).take i))), s4, s5, s6, s7, .non, s9, s10] ∧ M = []) (it_list (ev_call (k := k) CG hr (ea_cons (ev_v slot2 rfl) ea_nil) ⟨n, rfl, h1, h3, rfl⟩)) ⟨.non, .non, .non, .non, .non, .non, rfl, rfl⟩ ?_ ?_)
    · rintro i e Δ M he ⟨s4, s5, s6, s7, s9, s10, rfl, rfl⟩
      have S := hgr e (List.mem_of_getElem? he)
      have hnext : btA n κ most ((groupsL n).take (i + 1)) = btStep n κ most (btA n κ most ((groupsL n).take i)) e := by rw [take_succ' he, btA_snoc]
      generalize btA n κ most ((groupsL n).take i) = b at *
      have hcl := circles_len S
      have hszl : (circlesL n e.1).length < sizeLine := Nat.lt_of_le_of_lt hcl (by decide)
      have hsz2 := group_sz (List.mem_of_getElem? he)
      refine ⟨_, _, tg_tup (tgs_cons (tg_name 4 nd) (tgs_cons (tg_name 5 nd) tgs_nil)), ?_⟩
      walk_at "nf"
      refine hs_cons (ht_set 6 nd (ev_call (k := k) CC hr (ea_cons (ev_v slot2 rfl) (ea_cons (ev_v slot4 rfl) ea_nil)) ⟨n, e.1, rfl, S, rfl⟩) ?_)
      walk_at "nf"
      refine hs_cons (ht_set 7 nd (d := .int (chI n κ e.1)) (ev_bin (ev_bin (ev_v slot2 rfl) (ev_v slot2 rfl) (by walk_at "br")) (ev_sum (ns := (circlesL n e.1).map fun c => (mostN κ c : Int)) (EvD.to (ev_lc [("some", 8)] (xs := circlesL n e.1) (g := clD) (fun c => .int (mostN κ c : Int)) (fun _ => true) nd (by dsimp only [vwOf]; decide +kernel) (it_list (ev_v slot6 rfl)) hszl fun t c hc => ?_) (by rw [List.filter_eq_self.mpr fun _ _ => rfl, sum_most])) m2) br_sub) ?_)
      · have hc := List.mem_of_getElem? hc
        refine ⟨_, _, tg_name 8 nd, fun i hi => hi, ets_nil, fun _ => ?_⟩
        walk_at "nf"
        exact ev_ix (ev_call (k := k) CM hr (ea_cons (ev_v slot0 rfl) (ea_cons (ev_v slot8 rfl) ea_nil)) ⟨n, κ, c, rfl, h3, circle_sub S hc, circle_ne S hc, circle_len S hc, hok, rfl⟩) ev_int (IxD.tup rfl)
      walk_at "nf"
      refine hs_cons (ht_set 9 nd (d := .int (bdI n e)) (ev_bin (ev_v slot5 rfl) (ev_call (k := k) CD hr (ea_cons (EvD.to (ev_lc [("some", 8)] (xs := circlesL n e.1) (g := clD) (fun c => .int (c.length : Int)) (fun _ => true) nd (by dsimp only [vwOf]; decide +kernel) (it_list (ev_v slot6 rfl)) hszl fun t c hc => ?_) (d' := .list (((circlesL n e.1).map List.length).map fun (x : Nat) => .int (x : Int))) (by rw [List.filter_eq_self.mpr fun _ _ => rfl, List.map_map]; rfl)) ea_nil) ⟨(circlesL n e.1).map List.length, rfl, rfl⟩) (br_mul ?_)) ?_)
      · refine ⟨_, _, tg_name 8 nd, fun i hi => hi, ets_nil, fun _ => ?_⟩
        walk_at "nf"
        refine (ev_lenL (ds := c.map plD) (ev_v slot8 rfl) m1).to ?_
        rw [List.length_map]
      · exact cmul_l (by omega)
      walk_at "nf"
      refine hs_cons (ht_if (et_w (ew_and (et_cmp (ev_v slot7 rfl) (ev_v slot1 rfl) (by walk_at "cr")) fun _ => (ew_and1 (et_w (ew_or (et_cmp (ev_v slot9 rfl) (ev_ix (ev_v slot3 rfl) ev_int (by walk_at "ix")) (by walk_at "cr")) fun _ => (ew_or1 (et_w (ew_and (et_cmp (ev_v slot9 rfl) (ev_ix (ev_v slot3 rfl) ev_int (by walk_at "ix")) (by walk_at "cr")) fun _ => (ew_and1 (et_cmp (ev_v slot7 rfl) (ev_ix (ev_v slot3 rfl) ev_int (by walk_at "ix")) (by walk_at "cr"))))))))))) (fun hk => ?_) (fun hk => hs_nil ?_))
      · refine hs_cons (ht_set 10 nd (d := .int (szI n e.1)) ((ev_lenL (ds := (madeL n e.1).map mvD) (ev_call (k := k) CA hr (ea_cons (ev_v slot2 rfl) (ea_cons (ev_v slot4 rfl) ea_nil)) ⟨n, e.1, rfl, h1, h3, rfl⟩) m1).to (by rw [List.length_map]; rfl)) ?_)
        walk_at "nf"
        refine hs_cons (ht_if (et_w (ew_or (et_cmp (ev_v slot10 rfl) (ev_ix (ev_v slot3 rfl) ev_int (by walk_at "ix")) (by walk_at "cr")) fun _ => (ew_or1 (et_w (ew_and (et_cmp (ev_v slot10 rfl) (ev_ix (ev_v slot3 rfl) ev_int (by walk_at "ix")) (by walk_at "cr")) fun _ => (ew_and1 (et_cmp (ev_v slot7 rfl) (ev_ix (ev_v slot3 rfl) ev_int (by walk_at "ix")) (by walk_at "cr")))))))) (fun hk2 => ?_) (fun hk2 => hs_nil ?_))
        · refine hs_cons (ht_set 3 nd (ev_tup (eas_cons (ev_v slot10 rfl) (eas_cons (ev_v slot7 rfl) (eas_cons (ev_v slot4 rfl) eas_nil (by intro _; rfl)) (by intro _; rfl)) (by intro _; rfl)) (by walk_at "len")) ?_)
          walk_at "nf"
          have e2 : PyData.tuple [.int (szI n e.1), .int (chI n κ e.1), grpD e.1] = bestD (btA n κ most ((groupsL n).take (i + 1))) := by
            rw [hnext]
            unfold btStep
            rw [if_pos (show (decide (chI n κ e.1 ≤ most) && beats (bdI n e) (chI n κ e.1) b) = true from hk), if_pos (show beats (szI n e.1) (chI n κ e.1) b = true from hk2)]
            rfl
          rw [e2]
          exact hs_nil (hs_nil (hs_nil ⟨_, _, _, _, _, _, rfl, rfl⟩))
        · have e2 : bestD b = bestD (btA n κ most ((groupsL n).take (i + 1))) := by
            rw [hnext]
            unfold btStep
            rw [if_pos (show (decide (chI n κ e.1 ≤ most) && beats (bdI n e) (chI n κ e.1) b) = true from hk), if_neg (show ¬ beats (szI n e.1) (chI n κ e.1) b = true from fun z => by
              have hk2 : beats (szI n e.1) (chI n κ e.1) b = false := hk2
              rw [hk2] at z
              cases z)]
          rw [e2]
          exact hs_nil (hs_nil ⟨_, _, _, _, _, _, rfl, rfl⟩)
      · have e2 : bestD b = bestD (btA n κ most ((groupsL n).take (i + 1))) := by
          rw [hnext]
          unfold btStep
          rw [if_neg (show ¬ (decide (chI n κ e.1 ≤ most) && beats (bdI n e) (chI n κ e.1) b) = true from fun z => by
            have hk : (decide (chI n κ e.1 ≤ most) && beats (bdI n e) (chI n κ e.1) b) = false := hk
            rw [hk] at z
            cases z)]
        rw [e2]
        exact hs_nil ⟨_, _, _, _, _, _, rfl, rfl⟩
    · rintro Δ M ⟨s4, s5, s6, s7, s9, s10, rfl, rfl⟩
      rw [List.take_length]
      have S : Sd n (bestL n κ most).2.2 := ⟨h1, h3, fun m hm => by
        rcases bt_from n κ most (groupsL n) with z | ⟨e, he, z⟩
        · have z : (bestL n κ most).2.2 = [] := z
          rw [z] at hm; cases hm
        · have z : e.1 = (bestL n κ most).2.2 := z
          rw [← z] at hm
          exact group_mem h1 he m hm⟩
      refine hs_cons (ht_ret (ev_tup (ds := [grpD (bestL n κ most).2.2, .int (bestL n κ most).1, mendD n κ (bestL n κ most).2.2]) (eas_cons (ev_ix (ev_v slot3 rfl) ev_int (by walk_at "ix")) (eas_cons (ev_ix (ev_v slot3 rfl) ev_int (by walk_at "ix")) (eas_cons (ev_call (k := k) CE hr (ea_cons (ev_v slot0 rfl) (ea_cons (ev_ix (ev_v slot3 rfl) ev_int (by walk_at "ix")) ea_nil)) ⟨n, κ, (bestL n κ most).2.2, rfl, S, hok, rfl⟩) eas_nil (by intro _; rfl)) (by intro _; rfl)) (by intro _; rfl)) (by walk_at "len")) rfl)
end
end Ck
end Ck20Part

/-! ## Ck21 -/
section Ck21Part
set_option Elab.async false
set_option linter.all false
set_option maxRecDepth 100000
set_option maxHeartbeats 4000000
/-! The law's own defs: cell_at, whole, mixed, led, all, movement, is_movement, letters. -/
namespace Ck
open PySem PySem.Spec PyProof.Rows L2 CkM
local macro_rules | `(tactic| walk_at "nf") => `(tactic| first | dsimp only [wipeS, List.map_cons, List.map_nil, List.set_cons_zero, List.set_cons_succ, List.length_cons, List.length_nil, List.replicate_succ, List.cons_append, List.nil_append, List.replicate_zero, List.append_nil, Nat.reduceSub, Nat.reduceAdd, List.eraseIdx_cons_zero, List.eraseIdx_cons_succ] | simp only [wipeS, List.map_cons, List.map_nil, List.set_cons_zero, List.set_cons_succ, List.length_cons, List.length_nil, List.replicate_succ, List.cons_append, List.nil_append, List.replicate_zero, List.append_nil, Nat.reduceSub, Nat.reduceAdd, List.eraseIdx_cons_zero, List.eraseIdx_cons_succ])
local macro_rules | `(tactic| walk_at "len") => `(tactic| exact small_len (Nat.le_of_ble_eq_true rfl))
local macro_rules | `(tactic| walk_at "ix") => `(tactic| first | exact IxD.tup rfl | exact IxD.lst rfl)
local macro_rules | `(tactic| walk_at "br") => `(tactic| first | exact br_add | exact br_sub | exact br_mul (by first | exact cmul_l (by omega) | exact cmul_r (by omega)) | exact br_mod (by omega) | exact br_fdiv ⟨by omega, by omega⟩)
local macro_rules | `(tactic| walk_at "cr") => `(tactic| first | exact cr_gt | exact cr_lt | exact cr_eqI | exact cr_le | exact cr_ge | exact cr_neI)
section
variable {P : Program} {w : World} {K : PySem.W.Frag} {mg : Str → Option Value} {base : Heap}
def cellAt (ns : List Int) (k : Nat) : Int := ns.getD k 0
def RCellAt (S : List Sv) (d : PyData) : Prop := ∃ (ns : List Int) (k : Nat), S = [.scr ns, .dat (.int k)] ∧ d = .int (cellAt ns k)
theorem atI_nat {α : Type} {xs : List α} {k : Nat} (h : k < xs.length) : L2.atI xs (k : Int) = xs[k]? := by
  unfold L2.atI
  have : ixN xs.length (k : Int) = some k := by
    unfold ixN
    rw [if_pos (by omega), if_pos (by omega), Int.toNat_natCast]
  rw [this]
  rfl

theorem ok_lCellAt {f : Addr} {fd : FuncData} {k : Nat} (F : Fun K "_law_cell_at" "_law_cell_at" sLCellAt f fd) (m1 : mg "len" = none) : FnOk P w K mg base CX0 (k + 1) f fd pLCellAt (SpD K RCellAt) := by
  refine fn_ok F scLCellAt (fun S d h => ?_) fun A hr S d h => ?_
  · obtain ⟨ns, k, rfl, _⟩ := h
    rfl
  · obtain ⟨ns, k, rfl, rfl⟩ := h
    have nd := scLCellAt.nd
    walk_at "nf"
    refine hs_cons (ht_if (et_cmp (ev_v slot1 rfl) (ev_lenS (ex_scr 0 rfl) m1) cr_lt) (fun hk => ?_) (fun hk => hs_nil ?_))
    · have hk : k < ns.length := by have := of_decide_eq_true hk; omega
      refine hs_cons (ht_ret (ev_ixS (n := (k : Int)) (v := cellAt ns k) (ex_scr 0 rfl) (ev_v slot1 rfl) ?_) rfl)
      rw [atI_nat hk]
      unfold cellAt
      rw [List.getD_eq_getElem?_getD, List.getElem?_eq_getElem hk]
      rfl
    · have hk : ¬ k < ns.length := by have := of_decide_eq_false hk; omega
      refine hs_cons (ht_ret ev_int ?_)
      show PyData.int 0 = PyData.int (cellAt ns k)
      unfold cellAt
      rw [List.getD_eq_getElem?_getD, List.getElem?_eq_none (by omega)]
      rfl
def RWhole (S : List Sv) (d : PyData) : Prop := ∃ (n : Int), S = [.dat (.int n)] ∧ d = .bool true

theorem ok_lWhole {f : Addr} {fd : FuncData} {k : Nat} (F : Fun K "_law_whole" "_law_whole" sLWhole f fd) (m1 : mg "isinstance" = none) (m2 : mg "int" = none) (m3 : mg "bool" = none) : FnOk P w K mg base CX0 (k + 1) f fd pLWhole (SpD K RWhole) := by
  refine fn_ok F scLWhole (fun S d h => ?_) fun A hr S d h => ?_
  · obtain ⟨n, rfl, _⟩ := h
    rfl
  · obtain ⟨n, rfl, rfl⟩ := h
    have nd := scLWhole.nd
    walk_at "nf"
    exact hs_cons (ht_ret (ev_and (k := true) (l := true) (ev_isi (T' := "int") (ev_v slot0 rfl) (.int n) (by decide +kernel) (by decide +kernel) m1 m2) fun _ => ev_one (ev_not (k := false) (ev_isi (T' := "bool") (ev_v slot0 rfl) (.int n) (by decide +kernel) (by decide +kernel) m1 m3))) rfl)
def mixI (c k : Int) : Int := (c % 2147483647 + 17) * (48271 + 2 * k * k) % 2147483629
theorem mix_nonneg (c k : Int) : 0 ≤ mixI c k ∧ mixI c k < 2147483629 := ⟨Int.emod_nonneg _ (by decide), Int.emod_lt_of_pos _ (by decide)⟩
def RMixed (S : List Sv) (d : PyData) : Prop := ∃ (c k : Int), S = [.dat (.int c), .dat (.int k)] ∧ 0 ≤ k ∧ k < 1000000 ∧ d = .int (mixI c k)

theorem ok_lMixed {f : Addr} {fd : FuncData} {k : Nat} (F : Fun K "_law_mixed" "_law_mixed" sLMixed f fd) : FnOk P w K mg base CX0 (k + 1) f fd pLMixed (SpD K RMixed) := by
  refine fn_ok F scLMixed (fun S d h => ?_) fun A hr S d h => ?_
  · obtain ⟨c, k, rfl, _⟩ := h
    rfl
  · obtain ⟨c, k, rfl, h0, h1, rfl⟩ := h
    have nd := scLMixed.nd
    walk_at "nf"
    have b1 := Int.emod_nonneg c (show (2147483647 : Int) ≠ 0 by decide)
    have b2 := Int.emod_lt_of_pos c (show (0 : Int) < 2147483647 by decide)
    exact hs_cons (ht_ret (ev_bin (ev_bin (ev_bin (ev_bin (ev_v slot0 rfl) ev_int (by walk_at "br")) ev_int (by walk_at "br")) (ev_bin ev_int (ev_bin (ev_bin ev_int (ev_v slot1 rfl) (by walk_at "br")) (ev_v slot1 rfl) (by walk_at "br")) (by walk_at "br")) (by walk_at "br")) ev_int (by walk_at "br")) rfl)
theorem names_in (x : Way) (l : List Way) : decide (Str.ofString x.name ∈ l.map fun y => Str.ofString y.name) = decide (x ∈ l) := by
  refine decide_eq_decide.mpr ⟨fun h => ?_, fun h => List.mem_map.mpr ⟨x, h, rfl⟩⟩
  obtain ⟨y, hy, e⟩ := List.mem_map.mp h
  rw [← name_inj e]
  exact hy

theorem ok_lLed {f : Addr} {fd : FuncData} {k : Nat} (F : Fun K "_law_led" "_law_led" sLLed f fd) : FnOk P w K mg base CX0 (k + 1) f fd pLLed (SpD K RLed) := by
  refine fn_ok F scLLed (fun S d h => ?_) fun A hr S d h => ?_
  · obtain ⟨n, m, p, rfl, _⟩ := h
    rfl
  · obtain ⟨n, m, p, rfl, hn, rfl⟩ := h
    have nd := scLLed.nd
    walk_at "nf"
    refine hs_cons (ht_asg (ev_v slot2 rfl) (tg_tup (tgs_cons (tg_name 3 nd) (tgs_cons (tg_name 4 nd) tgs_nil))) ?_)
    walk_at "nf"
    refine hs_cons (ht_asg (ev_v slot1 rfl) (tg_tup (tgs_cons (tg_name 5 nd) (tgs_cons (tg_name 6 nd) (tgs_cons (tg_name 7 nd) tgs_nil)))) ?_)
    walk_at "nf"
    obtain ⟨wy, dd, rr⟩ := m
    have T : ∀ {U : Vw} {Δ : List Sv} {M : MS} {a b c d : Str} {p1 p2 p3 p4 p5 : Pos}, EvD U (.Tuple [.Constant (.str a) 0 p1, .Constant (.str b) 0 p2, .Constant (.str c) 0 p3, .Constant (.str d) 0 p4] 0 p5) Δ M (.tuple ([a, b, c, d].map .str)) := ev_tup (ds := [.str _, .str _, .str _, .str _]) (eas_cons ev_str (eas_cons ev_str (eas_cons ev_str (eas_cons ev_str eas_nil (by intro _; rfl)) (by intro _; rfl)) (by intro _; rfl)) (by intro _; rfl)) (by walk_at "len")
    have N := names_in wy
    cases wy
    all_goals first
      | refine hs_cons (ht_if (k := true) (EvT.to (et_cmp (ev_v slot5 rfl) T cr_inS) ((N [.turn, .back, .cross, .other]).trans (by decide))) (fun _ => hs_cons (ht_par 3 4 nd (da := .int p.2) (db := .int p.1) (ea_cons (ev_v slot4 rfl) (ea_cons (ev_v slot3 rfl) ea_nil)) (hs_nil ?_))) (fun h => nomatch h))
      | refine hs_cons (ht_if (k := false) (EvT.to (et_cmp (ev_v slot5 rfl) T cr_inS) ((N [.turn, .back, .cross, .other]).trans (by decide))) (fun h => nomatch h) (fun _ => hs_nil ?_))
    all_goals walk_at "nf"
    all_goals first
      | refine hs_cons (ht_if (k := true) (EvT.to (et_cmp (ev_v slot5 rfl) T cr_inS) ((N [.half, .flip, .back, .other]).trans (by decide))) (fun _ => hs_cons (ht_set 3 nd (ev_bin ev_int (ev_v slot3 rfl) (by walk_at "br")) (hs_nil ?_))) (fun h => nomatch h))
      | refine hs_cons (ht_if (k := false) (EvT.to (et_cmp (ev_v slot5 rfl) T cr_inS) ((N [.half, .flip, .back, .other]).trans (by decide))) (fun h => nomatch h) (fun _ => hs_nil ?_))
    all_goals try walk_at "nf"
    all_goals first
      | refine hs_cons (ht_if (k := true) (EvT.to (et_cmp (ev_v slot5 rfl) T cr_inS) ((N [.half, .side, .turn, .other]).trans (by decide))) (fun _ => hs_cons (ht_set 4 nd (ev_bin ev_int (ev_v slot4 rfl) (by walk_at "br")) (hs_nil ?_))) (fun h => nomatch h))
      | refine hs_cons (ht_if (k := false) (EvT.to (et_cmp (ev_v slot5 rfl) T cr_inS) ((N [.half, .side, .turn, .other]).trans (by decide))) (fun h => nomatch h) (fun _ => hs_nil ?_))
    all_goals try walk_at "nf"
    all_goals refine hs_cons (ht_ret (ev_tup (eas_cons (ev_bin (ev_bin (ev_v slot3 rfl) (ev_v slot6 rfl) (by walk_at "br")) (ev_v slot0 rfl) (by walk_at "br")) (eas_cons (ev_bin (ev_bin (ev_v slot4 rfl) (ev_v slot7 rfl) (by walk_at "br")) (ev_v slot0 rfl) (by walk_at "br")) eas_nil (by intro _; rfl)) (by intro _; rfl)) (by walk_at "len")) ?_)
    all_goals simp only [plD, CkM.led, turned, Way.sa, Way.sb, Way.sc, Way.sd, Int.one_mul, Int.zero_mul, Int.zero_add, Int.add_zero, Int.neg_mul, Int.zero_sub]
def allW (n : Nat) : List Mv := Way.all.flatMap fun w => (allPl n).map fun p => ⟨w, p.1, p.2⟩
theorem allW_mem {n : Nat} {m : Mv} (h : m ∈ allW n) : m ∈ allMv n := by
  obtain ⟨w, _, h⟩ := List.mem_flatMap.mp h
  obtain ⟨p, hp, rfl⟩ := List.mem_map.mp h
  exact mem_allMv.mpr hp
theorem allW_all {n : Nat} {m : Mv} (h : m ∈ allMv n) : m ∈ allW n := List.mem_flatMap.mpr ⟨m.w, Way.mem_all _, List.mem_map.mpr ⟨(m.d, m.r), mem_allMv.mp h, rfl⟩⟩
theorem allW_len (n : Nat) : (allW n).length = 8 * (n * n) := by
  unfold allW
  rw [List.length_flatMap]
  simp [len_pl, Way.all]
  omega
def RAll (S : List Sv) (d : PyData) : Prop := ∃ (n : Nat), S = [.dat (.int n)] ∧ 1 ≤ n ∧ n ≤ 3 ∧ d = .list ((allW n).map mvD)
theorem allPl_take_row {n i j : Nat} (hi : i < n) (hj : j < n) : (allPl n).take (i * n + j + 1) = (allPl n).take (i * n + j) ++ [((i : Int), (j : Int))] := take_succ' (allPl_get hi hj)

theorem ok_lAll {f : Addr} {fd : FuncData} {k : Nat} (F : Fun K "_law_all" "_law_all" sLAll f fd) (m1 : mg "range" = none) : FnOk P w K mg base CX0 (k + 1) f fd pLAll (SpD K RAll) := by
  refine fn_ok F scLAll (fun S d h => ?_) fun A hr S d h => ?_
  · obtain ⟨n, rfl, _⟩ := h
    rfl
  · obtain ⟨n, rfl, h1, h3, rfl⟩ := h
    have nd := scLAll.nd
    have hnn : n * n ≤ 9 := Nat.mul_le_mul h3 h3
    walk_at "nf"
    refine hs_cons (ht_newL 1 nd (ds := []) eas_nil (fun o1 => ?_))
    walk_at "nf"
    refine hs_cons (ht_for (xs := Way.all) (g := wS) (fun i Δ M => ∃ s2 s3 s4, Δ = [.dat (.int n), .ref o1, s2, s3, s4] ∧ M = [(o1, .lst (((Way.all.take i).flatMap fun w => (allPl n).map fun p => (⟨w, p.1, p.2⟩ : Mv)).map mvD))]) (it_list (ev_lst (ds := Way.all.map wS) (eas_cons ev_str (eas_cons ev_str (eas_cons ev_str (eas_cons ev_str (eas_cons ev_str (eas_cons ev_str (eas_cons ev_str (eas_cons ev_str eas_nil (by intro _; rfl)) (by intro _; rfl)) (by intro _; rfl)) (by intro _; rfl)) (by intro _; rfl)) (by intro _; rfl)) (by intro _; rfl)) (by intro _; rfl)) (by walk_at "len"))) ⟨.non, .non, .non, rfl, rfl⟩ ?_ ?_)
    · rintro i wy Δ M hy ⟨s2, s3, s4, rfl, rfl⟩
      have hpl : (((Way.all.take i).flatMap fun w => (allPl n).map fun p => (⟨w, p.1, p.2⟩ : Mv)).map mvD).length ≤ 72 := by
        rw [List.length_map]
        have := len_flat_le (f := fun w => (allPl n).map fun p => (⟨w, p.1, p.2⟩ : Mv)) (b := 9) (fun w => by rw [List.length_map, len_pl]; exact hnn) (Way.all.take i)
        have h2 : (Way.all.take i).length ≤ 8 := by rw [List.length_take]; exact Nat.min_le_right _ _
        have := Nat.mul_le_mul h2 (Nat.le_refl 9)
        omega
      have hnext : ((Way.all.take (i + 1)).flatMap fun w => (allPl n).map fun p => (⟨w, p.1, p.2⟩ : Mv)) = ((Way.all.take i).flatMap fun w => (allPl n).map fun p => (⟨w, p.1, p.2⟩ : Mv)) ++ (allPl n).map fun p => (⟨wy, p.1, p.2⟩ : Mv) := by
        rw [take_succ' hy, List.flatMap_append]
        simp
      generalize ((Way.all.take i).flatMap fun w => (allPl n).map fun p => (⟨w, p.1, p.2⟩ : Mv)) = pre at *
      refine ⟨_, _, tg_name 2 nd, ?_⟩
      walk_at "nf"
      refine hs_cons (ht_for (xs := List.range n) (g := fun (r : Nat) => PyData.int (r : Int)) (fun r Δ M => ∃ s3 s4, Δ = [.dat (.int n), .ref o1, .dat (wS wy), s3, s4] ∧ M = [(o1, .lst ((pre ++ ((allPl n).take (r * n)).map fun p => (⟨wy, p.1, p.2⟩ : Mv)).map mvD))]) (it_range1 (ev_v slot0 rfl) (by omega) m1) ⟨s3, s4, rfl, by rw [Nat.zero_mul, List.take_zero, List.map_nil, List.append_nil]⟩ ?_ ?_)
      · rintro r y Δ M hy ⟨s3, s4, rfl, rfl⟩
        have hi : r < n := by have := (List.getElem?_eq_some_iff.mp hy).1; rwa [List.length_range] at this
        have ey : y = r := by rw [List.getElem?_range hi] at hy; exact (Option.some.inj hy).symm
        subst ey
        refine ⟨_, _, tg_name 3 nd, ?_⟩
        walk_at "nf"
        refine hs_cons (ht_for (xs := List.range n) (g := fun (r : Nat) => PyData.int (r : Int)) (fun c Δ M => ∃ s4, Δ = [.dat (.int n), .ref o1, .dat (wS wy), .dat (.int (y : Int)), s4] ∧ M = [(o1, .lst ((pre ++ ((allPl n).take (y * n + c)).map fun p => (⟨wy, p.1, p.2⟩ : Mv)).map mvD))]) (it_range1 (ev_v slot0 rfl) (by omega) m1) ⟨s4, rfl, rfl⟩ ?_ ?_)
        · rintro c z Δ M hz ⟨s4, rfl, rfl⟩
          have hj : c < n := by have := (List.getElem?_eq_some_iff.mp hz).1; rwa [List.length_range] at this
          have ez : z = c := by rw [List.getElem?_range hj] at hz; exact (Option.some.inj hz).symm
          subst ez
          refine ⟨_, _, tg_name 4 nd, ?_⟩
          walk_at "nf"
          rw [List.length_map] at hpl
          refine hs_cons (ht_app 0 (ex_ref 1 rfl) rfl (d := mvD ⟨wy, (y : Int), (z : Int)⟩) (ev_tup (eas_cons (ev_v slot2 rfl) (eas_cons (ev_v slot3 rfl) (eas_cons (ev_v slot4 rfl) eas_nil (by intro _; rfl)) (by intro _; rfl)) (by intro _; rfl)) (by walk_at "len")) (by rw [List.length_map, List.length_append, List.length_map, List.length_take, len_pl]; omega) ?_)
          walk_at "nf"
          refine hs_nil ⟨_, rfl, ?_⟩
          rw [← Nat.add_assoc, allPl_take_row hi hj]
          simp only [List.map_append, List.map_cons, List.map_nil, List.append_assoc]
        · rintro Δ M ⟨s4, rfl, rfl⟩
          refine hs_nil ⟨_, _, rfl, ?_⟩
          rw [List.length_range, Nat.succ_mul]
      · rintro Δ M ⟨s3, s4, rfl, rfl⟩
        refine hs_nil ⟨_, _, _, rfl, ?_⟩
        rw [List.length_range, List.take_of_length_le (by rw [len_pl]; exact Nat.le_refl _), hnext]
    · rintro Δ M ⟨s2, s3, s4, rfl, rfl⟩
      rw [List.take_length]
      exact hs_cons (ht_retM 1 0 rfl rfl slot1 (k := rfl))
def mvAt (n : Nat) (c : Int) : Mv := (allW n).getD (c % (8 * (n : Int) * (n : Int))).toNat idm
theorem mvAt_mem {n : Nat} (h1 : 1 ≤ n) (c : Int) : mvAt n c ∈ allMv n := by
  unfold mvAt
  rw [List.getD_eq_getElem?_getD]
  cases e : (allW n)[(c % (8 * (n : Int) * (n : Int))).toNat]? with
  | none => exact idm_mem (by omega)
  | some m => exact allW_mem (List.mem_of_getElem? e)
def RMovement (S : List Sv) (d : PyData) : Prop := ∃ (n : Nat) (c : Int), S = [.dat (.int n), .dat (.int c)] ∧ 1 ≤ n ∧ n ≤ 3 ∧ d = mvD (mvAt n c)

theorem ok_lMovement {f : Addr} {fd : FuncData} {k : Nat} (F : Fun K "_law_movement" "_law_movement" sLMovement f fd) (CA : CalK P w K mg base k "_law_all" pLAll RAll) : FnOk P w K mg base CX0 (k + 1) f fd pLMovement (SpD K RMovement) := by
  refine fn_ok F scLMovement (fun S d h => ?_) fun A hr S d h => ?_
  · obtain ⟨n, c, rfl, _⟩ := h
    rfl
  · obtain ⟨n, c, rfl, h1, h3, rfl⟩ := h
    have nd := scLMovement.nd
    walk_at "nf"
    have hn : (8 : Int) * (n : Int) * (n : Int) = ((8 * (n * n) : Nat) : Int) := by
      rw [Int.mul_assoc]
      simp
    have hpos : 0 < 8 * (n * n) := by have := Nat.mul_le_mul h1 h1; omega
    have b1 := Int.emod_nonneg c (show (8 : Int) * (n : Int) * (n : Int) ≠ 0 by omega)
    have b2 := Int.emod_lt_of_pos c (show (0 : Int) < 8 * (n : Int) * (n : Int) by omega)
    refine hs_cons (ht_ret (ev_ix (ev_call (k := k) CA hr (ea_cons (ev_v slot0 rfl) ea_nil) ⟨n, rfl, h1, h3, rfl⟩) (ev_bin (ev_v slot1 rfl) (ev_bin (ev_bin ev_int (ev_v slot0 rfl) (by walk_at "br")) (ev_v slot0 rfl) (by walk_at "br")) (br_mod (by omega))) (IxD.lst (d := mvD (mvAt n c)) ?_)) rfl)
    have e1 : c % (8 * (n : Int) * (n : Int)) = ((c % (8 * (n : Int) * (n : Int))).toNat : Int) := (Int.toNat_of_nonneg b1).symm
    have hlt : (c % (8 * (n : Int) * (n : Int))).toNat < (allW n).length := by rw [allW_len]; omega
    rw [e1, atI_nat (by rw [List.length_map]; exact hlt), List.getElem?_map, List.getElem?_eq_getElem hlt]
    unfold mvAt
    rw [List.getD_eq_getElem?_getD, List.getElem?_eq_getElem hlt]
    rfl
def RIsMovement (S : List Sv) (d : PyData) : Prop := ∃ (n : Nat) (m : Mv), S = [.dat (.int n), .dat (mvD m)] ∧ 1 ≤ n ∧ n ≤ 3 ∧ m ∈ allMv n ∧ d = .bool true

theorem ok_lIsMovement {f : Addr} {fd : FuncData} {k : Nat} (F : Fun K "_law_is_movement" "_law_is_movement" sLIsMovement f fd) (CA : CalK P w K mg base k "_law_all" pLAll RAll) (CW : CalK P w K mg base k "_law_whole" pLWhole RWhole) (m1 : mg "isinstance" = none) (m2 : mg "tuple" = none) (m3 : mg "len" = none) : FnOk P w K mg base CX0 (k + 1) f fd pLIsMovement (SpD K RIsMovement) := by
  refine fn_ok F scLIsMovement (fun S d h => ?_) fun A hr S d h => ?_
  · obtain ⟨n, m, rfl, _⟩ := h
    rfl
  · obtain ⟨n, m, rfl, h1, h3, hm, rfl⟩ := h
    have nd := scLIsMovement.nd
    walk_at "nf"
    have hu65 : A.units + 65 < cLine := by have := hr.un; omega
    refine hs_cons (ht_if (k := false) (EvT.to (et_w (ew_or (k := false) (et_not (k := true) (et_val (ev_isi (T := "tuple") (T' := "tuple") (k := true) (d := mvD m) (ev_v slot1 rfl) (.tup _) (by decide +kernel) (by decide +kernel) m1 m2))) fun _ => ew_or (k := false) (EvT.to (et_cmp (ev_lenT (ds := [wS m.w, .int m.d, .int m.r]) (ev_v slot1 rfl) m3) ev_int cr_neI) rfl) fun _ => ew_or (k := false) (et_not (k := true) (et_val (ev_call (k := k) CW hr (ea_cons (ev_ix (ev_v slot1 rfl) ev_int (by walk_at "ix")) ea_nil) ⟨m.d, rfl, rfl⟩))) fun _ => ew_or1 (k := false) (et_not (k := true) (et_val (ev_call (k := k) CW hr (ea_cons (ev_ix (ev_v slot1 rfl) ev_int (by walk_at "ix")) ea_nil) ⟨m.r, rfl, rfl⟩))))) rfl) (fun h => nomatch h) (fun _ => hs_nil ?_))
    refine hs_cons (ht_ret (ev_cmp (k := true) (ev_v slot1 rfl) (ev_call (k := k) CA hr (ea_cons (ev_v slot0 rfl) ea_nil) ⟨n, rfl, h1, h3, rfl⟩) (cr_inD (d := mvD m) hu65 (ok_mv m) (ok_mvs _) ?_)) rfl)
    exact ⟨fun _ => List.mem_map.mpr ⟨m, allW_all hm, rfl⟩, fun _ => rfl⟩
def letL (s : Int) (many : Nat) : List Nat := (List.range many).map fun (k : Nat) => 97 + ((s + 7 * (k : Int)) % 26).toNat
def RLetters (S : List Sv) (d : PyData) : Prop := ∃ (s : Int) (many : Nat), S = [.dat (.int s), .dat (.int many)] ∧ many ≤ 100 ∧ d = .list ((letL s many).map chD)

theorem ok_lLetters {f : Addr} {fd : FuncData} {k : Nat} (F : Fun K "_law_letters" "_law_letters" sLLetters f fd) (m1 : mg "range" = none) : FnOk P w K mg base CX0 (k + 1) f fd pLLetters (SpD K RLetters) := by
  refine fn_ok F scLLetters (fun S d h => ?_) fun A hr S d h => ?_
  · obtain ⟨s, many, rfl, _⟩ := h
    rfl
  · obtain ⟨s, many, rfl, h100, rfl⟩ := h
    have nd := scLLetters.nd
    walk_at "nf"
    refine hs_cons (ht_set 2 nd ev_str ?_)
    walk_at "nf"
    refine hs_cons (ht_ret (EvD.to (ev_lc [("_law_k", 3)] (xs := List.range many) (g := fun (k : Nat) => PyData.int (k : Int)) (fun (k : Nat) => chD (97 + ((s + 7 * (k : Int)) % 26).toNat)) (fun _ => true) nd (by dsimp only [vwOf]; decide +kernel) (it_range1 (ev_v slot1 rfl) (by omega) m1) (by rw [List.length_range]; exact Nat.lt_of_le_of_lt h100 (by decide)) fun i c hc => ?_) (d' := .list ((letL s many).map chD)) (by rw [List.filter_eq_self.mpr fun _ _ => rfl]; unfold letL; rw [List.map_map]; rfl)) rfl)
    refine ⟨_, _, tg_name 3 nd, fun i hi => hi, ets_nil, fun _ => ?_⟩
    walk_at "nf"
    have b1 := Int.emod_nonneg (s + 7 * (c : Int)) (show (26 : Int) ≠ 0 by decide)
    have b2 := Int.emod_lt_of_pos (s + 7 * (c : Int)) (show (0 : Int) < 26 by decide)
    refine ev_ix (ev_v slot2 rfl) (ev_bin (ev_bin (ev_v slot0 rfl) (ev_bin ev_int (ev_v slot3 rfl) (by walk_at "br")) (by walk_at "br")) ev_int (by walk_at "br")) (IxD.str (c := 97 + ((s + 7 * (c : Int)) % 26).toNat) (small_len (by decide +kernel)) ?_)
    have e1 : (s + 7 * (c : Int)) % 26 = (((s + 7 * (c : Int)) % 26).toNat : Int) := (Int.toNat_of_nonneg b1).symm
    have hlt : ((s + 7 * (c : Int)) % 26).toNat < 26 := by omega
    generalize ((s + 7 * (c : Int)) % 26).toNat = t at *
    rw [e1]
    have : ∀ t < 26, L2.atI (Str.ofString "abcdefghijklmnopqrstuvwxyz").cps.toList ((t : Nat) : Int) = some (97 + t) := by decide +kernel
    exact this t hlt
end
end Ck
end Ck21Part

/-! ## Ck22 -/
section Ck22Part
set_option Elab.async false
set_option linter.all false
set_option maxRecDepth 100000
set_option maxHeartbeats 4000000
/-! The law's own defs: moved, carpet, had, image. -/
namespace Ck
open PySem PySem.Spec PyProof.Rows L2 CkM
local macro_rules | `(tactic| walk_at "nf") => `(tactic| first | dsimp only [wipeS, List.map_cons, List.map_nil, List.set_cons_zero, List.set_cons_succ, List.length_cons, List.length_nil, List.replicate_succ, List.cons_append, List.nil_append, List.replicate_zero, List.append_nil, Nat.reduceSub, Nat.reduceAdd, List.eraseIdx_cons_zero, List.eraseIdx_cons_succ] | simp only [wipeS, List.map_cons, List.map_nil, List.set_cons_zero, List.set_cons_succ, List.length_cons, List.length_nil, List.replicate_succ, List.cons_append, List.nil_append, List.replicate_zero, List.append_nil, Nat.reduceSub, Nat.reduceAdd, List.eraseIdx_cons_zero, List.eraseIdx_cons_succ])
local macro_rules | `(tactic| walk_at "len") => `(tactic| exact small_len (Nat.le_of_ble_eq_true rfl))
local macro_rules | `(tactic| walk_at "ix") => `(tactic| first | exact IxD.tup rfl | exact IxD.lst rfl)
local macro_rules | `(tactic| walk_at "br") => `(tactic| first | exact br_add | exact br_sub | exact br_mul (by first | exact cmul_l (by omega) | exact cmul_r (by omega)) | exact br_mod (by omega) | exact br_fdiv ⟨by omega, by omega⟩)
local macro_rules | `(tactic| walk_at "cr") => `(tactic| first | exact cr_gt | exact cr_lt | exact cr_eqI | exact cr_le | exact cr_ge | exact cr_neI)
theorem led_onto : ∀ n : Nat, 1 ≤ n → n ≤ 3 → ∀ m ∈ allMv n, ∀ q ∈ allPl n, ∃ p ∈ allPl n, CkM.led n m p = q := by
  intro n h1 h3
  have : n = 1 ∨ n = 2 ∨ n = 3 := by omega
  rcases this with rfl | rfl | rfl <;> decide +kernel
def prsM (n : Nat) (κ : Col) (m : Mv) (k : Nat) : List (Pl × Nat) := ((allPl n).take k).map fun p => (CkM.led n m p, κ p)
section
variable {P : Program} {w : World} {K : PySem.W.Frag} {mg : Str → Option Value} {base : Heap}
def RMoved (S : List Sv) (d : PyData) : Prop := ∃ (n : Nat) (κ : Col) (m : Mv), S = [.dat (cpD n κ), .dat (mvD m)] ∧ 1 ≤ n ∧ n ≤ 3 ∧ m ∈ allMv n ∧ d = cpD n (colOf (prsM n κ m (n * n)))

theorem ok_lMoved {f : Addr} {fd : FuncData} {k : Nat} (F : Fun K "_law_moved" "_law_moved" sLMoved f fd) (CL : CalK P w K mg base k "_law_led" pLLed RLed) (m1 : mg "range" = none) (m2 : mg "tuple" = none) (m3 : mg "len" = none) : FnOk P w K mg base CX0 (k + 1) f fd pLMoved (SpD K RMoved) := by
  refine fn_ok F scLMoved (fun S d h => ?_) fun A hr S d h => ?_
  · obtain ⟨n, κ, m, rfl, _⟩ := h
    rfl
  · obtain ⟨n, κ, m, rfl, h1, h3, hm, rfl⟩ := h
    have nd := scLMoved.nd
    have hu := hu_of hr
    have npos : (0 : Int) < n := by omega
    have hnn : n * n ≤ 9 := Nat.mul_le_mul h3 h3
    walk_at "nf"
    refine hs_cons (ht_set 2 nd (ev_lenC (ev_v slot0 rfl) m3) ?_)
    walk_at "nf"
    refine hs_cons (ht_newT 3 nd fun o1 => ?_)
    walk_at "nf"
    refine hs_cons (ht_for (xs := List.range n) (g := fun (r : Nat) => PyData.int (r : Int)) (fun i Δ M => ∃ s4 s5, Δ = [.dat (cpD n κ), .dat (mvD m), .dat (.int n), .ref o1, s4, s5] ∧ M = [(o1, .dT (putAll (prsM n κ m (i * n))))]) (it_range1 (ev_v slot2 rfl) (by omega) m1) ⟨.non, .non, rfl, by rw [Nat.zero_mul]; rfl⟩ ?_ ?_)
    · rintro i y Δ M hy ⟨s4, s5, rfl, rfl⟩
      have hi : i < n := by have := (List.getElem?_eq_some_iff.mp hy).1; rwa [List.length_range] at this
      have ey : y = i := by rw [List.getElem?_range hi] at hy; exact (Option.some.inj hy).symm
      subst ey
      refine ⟨_, _, tg_name 4 nd, ?_⟩
      walk_at "nf"
      refine hs_cons (ht_for (xs := List.range n) (g := fun (r : Nat) => PyData.int (r : Int)) (fun j Δ M => ∃ s5, Δ = [.dat (cpD n κ), .dat (mvD m), .dat (.int n), .ref o1, .dat (.int (y : Int)), s5] ∧ M = [(o1, .dT (putAll (prsM n κ m (y * n + j))))]) (it_range1 (ev_v slot2 rfl) (by omega) m1) ⟨s5, rfl, rfl⟩ ?_ ?_)
      · rintro j c Δ M hc ⟨s5, rfl, rfl⟩
        have hj : j < n := by have := (List.getElem?_eq_some_iff.mp hc).1; rwa [List.length_range] at this
        have ec : c = j := by rw [List.getElem?_range hj] at hc; exact (Option.some.inj hc).symm
        subst ec
        have hk := allPl_get hi hj
        have hp : ((y : Int), (c : Int)) ∈ allPl n := List.mem_of_getElem? hk
        have hl := putAll_len (prsM n κ m (y * n + c))
        have hl2 : (prsM n κ m (y * n + c)).length ≤ 9 := by unfold prsM; rw [List.length_map, List.length_take, len_pl]; omega
        refine ⟨_, _, tg_name 5 nd, ?_⟩
        walk_at "nf"
        refine hs_cons (ht_putT 0 hu (d := chD (κ ((y : Int), (c : Int)))) (ev_cell (q := ((y : Int), (c : Int))) h3 (ev_v slot0 rfl) (ev_v slot4 rfl) (ev_v slot5 rfl) hp) (ex_ref 3 rfl) rfl (ks := plK (CkM.led n m ((y : Int), (c : Int)))) (ev_call (k := k) CL hr (ea_cons (ev_v slot2 rfl) (ea_cons (ev_v slot1 rfl) (ea_cons (ev_tup (eas_cons (ev_v slot4 rfl) (eas_cons (ev_v slot5 rfl) eas_nil (by intro _; rfl)) (by intro _; rfl)) (by walk_at "len")) ea_nil))) ⟨n, m, ((y : Int), (c : Int)), rfl, npos, rfl⟩) (by omega) ?_)
        walk_at "nf"
        refine hs_nil ⟨_, rfl, ?_⟩
        have : prsM n κ m (y * n + (c + 1)) = prsM n κ m (y * n + c) ++ [(CkM.led n m ((y : Int), (c : Int)), κ ((y : Int), (c : Int)))] := by
          unfold prsM
          rw [← Nat.add_assoc, allPl_take_row hi hj, List.map_append]
          rfl
        rw [this, putAll_snoc]
      · rintro Δ M ⟨s5, rfl, rfl⟩
        refine hs_nil ⟨_, _, rfl, ?_⟩
        rw [List.length_range, Nat.succ_mul]
    · rintro Δ M ⟨s4, s5, rfl, rfl⟩
      rw [List.length_range]
      have hall : ∀ q ∈ allPl n, (look (prsM n κ m (n * n)) q).isSome = true := fun q hq => by
        obtain ⟨p, hp, e⟩ := led_onto n h1 h3 m hm q hq
        unfold look
        rw [Option.isSome_map, List.find?_isSome]
        refine ⟨(CkM.led n m p, κ p), List.mem_reverse.mpr (List.mem_map.mpr ⟨p, ?_, rfl⟩), decide_eq_true e⟩
        rw [List.take_of_length_le (by rw [len_pl]; exact Nat.le_refl _)]
        exact hp
      generalize prsM n κ m (n * n) = prs at *
      have hrow : ∀ (r : Nat), Txt.join "" ((List.range n).map fun (c : Nat) => chS (colOf prs ((r : Int), (c : Int)))) = rowS n (colOf prs) (r : Int) := fun r => join_chs n _
      refine hs_cons (ht_ret (ev_tupleL (EvD.to (ev_lc [("_law_r", 4)] (xs := List.range n) (g := fun (r : Nat) => PyData.int (r : Int)) (fun (r : Nat) => .str (rowS n (colOf prs) (r : Int))) (fun _ => true) nd (by dsimp only [vwOf]; decide +kernel) (it_range1 (ev_v slot2 rfl) (by omega) m1) (by rw [List.length_range]; exact Nat.lt_of_le_of_lt h3 (by decide)) fun i r hr => ?_) (by rw [List.filter_eq_self.mpr fun _ _ => rfl])) m2) rfl)
      have hrn : r < n := List.mem_range.mp (List.mem_of_getElem? hr)
      refine ⟨_, _, tg_name 4 nd, fun i hi => hi, ets_nil, fun _ => ?_⟩
      walk_at "nf"
      refine (ev_join (ys := (List.range n).map fun (c : Nat) => chS (colOf prs ((r : Int), (c : Int)))) (EvD.to (ev_lc [("_law_c", 5)] (xs := List.range n) (g := fun (r : Nat) => PyData.int (r : Int)) (fun (c : Nat) => chD (colOf prs ((r : Int), (c : Int)))) (fun _ => true) nd (by dsimp only [vwOf]; decide +kernel) (it_range1 (ev_v slot2 rfl) (by omega) m1) (by rw [List.length_range]; exact Nat.lt_of_le_of_lt h3 (by decide)) fun i c hc => ?_) (by rw [List.filter_eq_self.mpr fun _ _ => rfl, List.map_map]; rfl)) ?_).to (congrArg PyData.str (hrow r))
      · have hcn : c < n := List.mem_range.mp (List.mem_of_getElem? hc)
        refine ⟨_, _, tg_name 5 nd, fun i hi => hi, ets_nil, fun _ => ?_⟩
        walk_at "nf"
        have hp : ((r : Int), (c : Int)) ∈ allPl n := mem_allPl.mpr ⟨⟨by omega, by omega⟩, by omega, by omega⟩
        refine ev_getT hu (ex_ref 3 rfl) (j := 0) rfl (ks := plK ((r : Int), (c : Int))) (ev_tup (eas_cons (ev_v slot4 rfl) (eas_cons (ev_v slot5 rfl) eas_nil (by intro _; rfl)) (by intro _; rfl)) (by walk_at "len")) ?_
        rw [valD_all]
        have := hall _ hp
        unfold colOf
        cases e : look prs ((r : Int), (c : Int)) with
        | none => rw [e] at this; cases this
        | some z => rfl
      · have e1 : ((List.range n).map fun (c : Nat) => chS (colOf prs ((r : Int), (c : Int)))).map (·.length) = (List.range n).map fun _ => 1 := by
          rw [List.map_map]
          rfl
        have e2 : ∀ l : List Nat, (l.map fun _ => 1).sum = l.length := fun l => by
          induction l with
          | nil => rfl
          | cons a l ih => rw [List.map_cons, List.sum_cons, ih, List.length_cons]; omega
        rw [e1, e2, List.length_range, List.length_map, List.length_range]
        show n + n * 0 ≤ 16777216
        omega
def RLHad (S : List Sv) (d : PyData) : Prop := ∃ (n : Nat) (κ : Col) (ps : List Pl), S = [.dat (cpD n κ), .dat (clD ps)] ∧ n ≤ 3 ∧ (∀ p ∈ ps, p ∈ allPl n) ∧ ps.length ≤ 9 ∧ d = dictK (hadI (hadF κ ps))

theorem ok_lHad {f : Addr} {fd : FuncData} {k : Nat} (F : Fun K "_law_had" "_law_had" sLHad f fd) : FnOk P w K mg base CX0 (k + 1) f fd pLHad (SpD K RLHad) := by
  refine fn_ok F scLHad (fun S d h => ?_) fun A hr S d h => ?_
  · obtain ⟨n, κ, ps, rfl, _⟩ := h
    rfl
  · obtain ⟨n, κ, ps, rfl, h3, hps, h9, rfl⟩ := h
    have nd := scLHad.nd
    have hu := hu_of hr
    walk_at "nf"
    refine hs_cons (ht_newK 2 nd fun o1 => ?_)
    walk_at "nf"
    refine hs_cons (ht_for (xs := ps) (g := plD) (fun i Δ M => ∃ s3 s4, Δ = [.dat (cpD n κ), .dat (clD ps), .ref o1, s3, s4] ∧ M = [(o1, .dK (hadM (hadF κ (ps.take i))))]) (it_list (ev_v slot1 rfl)) ⟨.non, .non, rfl, rfl⟩ ?_ ?_)
    · rintro i y Δ M hy ⟨s3, s4, rfl, rfl⟩
      refine ⟨_, _, tg_tup (tgs_cons (tg_name 3 nd) (tgs_cons (tg_name 4 nd) tgs_nil)), ?_⟩
      walk_at "nf"
      have hyp := hps y (List.mem_of_getElem? hy)
      have hlen := hadF_len κ (ps.take i)
      have htk : (ps.take i).length ≤ ps.length := by rw [List.length_take]; omega
      refine hs_cons (ht_putK 0 (ks := ckK (κ y)) hu (ev_bin (ev_get2K (j := 0) (kvs := hadM (hadF κ (ps.take i))) (ks := ckK (κ y)) hu (ex_ref 2 rfl) rfl (ev_cell (q := y) h3 (ev_v slot0 rfl) (ev_v slot3 rfl) (ev_v slot4 rfl) hyp) ev_int (fun r => ⟨rfl, rfl, rfl, rfl⟩) |>.to (valD_had _ _)) ev_int br_add) (ex_ref 2 rfl) rfl (ev_cell (q := y) h3 (ev_v slot0 rfl) (ev_v slot3 rfl) (ev_v slot4 rfl) hyp) (by rw [hadM, hadI, List.length_map, List.length_map]; omega) ?_)
      walk_at "nf"
      refine hs_nil ⟨_, _, rfl, ?_⟩
      rw [putD_had, take_succ' hy, hadF_snoc]
    · rintro Δ M ⟨s3, s4, rfl, rfl⟩
      rw [List.take_length]
      refine hs_freezeK (kvs := hadI (hadF κ ps)) 2 0 rfl rfl ?_
      walk_at "nf"
      exact hs_cons (ht_ret (ev_v slot2 rfl) rfl)
def spotAt (ws : List Way) (s : Pl) : Pl := ws.foldl (fun s x => CkM.led 7 ⟨x, 0, 0⟩ s) s
def imgL (ws : List Way) : List Pl := [spotAt ws (1, 0), spotAt ws (0, 1)]
def RImage (S : List Sv) (d : PyData) : Prop := ∃ (ws : List Way), S = [.dat (.list (ws.map wS))] ∧ d = clD (imgL ws)

theorem ok_lImage {f : Addr} {fd : FuncData} {k : Nat} (F : Fun K "_law_image" "_law_image" sLImage f fd) (CL : CalK P w K mg base k "_law_led" pLLed RLed) : FnOk P w K mg base CX0 (k + 1) f fd pLImage (SpD K RImage) := by
  refine fn_ok F scLImage (fun S d h => ?_) fun A hr S d h => ?_
  · obtain ⟨ws, rfl, _⟩ := h
    rfl
  · obtain ⟨ws, rfl, rfl⟩ := h
    have nd := scLImage.nd
    walk_at "nf"
    refine hs_cons (ht_newL 1 nd (ds := []) eas_nil (fun o1 => ?_))
    walk_at "nf"
    refine hs_cons (ht_for (xs := ([(1, 0), (0, 1)] : List Pl)) (g := plD) (fun i Δ M => ∃ s2 s3, Δ = [.dat (.list (ws.map wS)), .ref o1, s2, s3] ∧ M = [(o1, .lst (((([(1, 0), (0, 1)] : List Pl).take i).map (spotAt ws)).map plD))]) (it_list (ev_lst (eas_cons (ev_tup (eas_cons ev_int (eas_cons ev_int eas_nil (by intro _; rfl)) (by intro _; rfl)) (by walk_at "len")) (eas_cons (ev_tup (eas_cons ev_int (eas_cons ev_int eas_nil (by intro _; rfl)) (by intro _; rfl)) (by walk_at "len")) eas_nil (by intro _; rfl)) (by intro _; rfl)) (by walk_at "len"))) ⟨.non, .non, rfl, rfl⟩ ?_ ?_)
    · rintro i y Δ M hy ⟨s2, s3, rfl, rfl⟩
      refine ⟨_, _, tg_name 2 nd, ?_⟩
      walk_at "nf"
      refine hs_cons (ht_for (xs := ws) (g := wS) (fun j Δ M => ∃ s3, Δ = [.dat (.list (ws.map wS)), .ref o1, .dat (plD (spotAt (ws.take j) y)), s3] ∧ M = [(o1, .lst (((([(1, 0), (0, 1)] : List Pl).take i).map (spotAt ws)).map plD))]) (it_list (ev_v slot0 rfl)) ⟨s3, rfl, rfl⟩ ?_ ?_)
      · rintro j x Δ M hx ⟨s3, rfl, rfl⟩
        refine ⟨_, _, tg_name 3 nd, ?_⟩
        walk_at "nf"
        refine hs_cons (ht_set 2 nd (ev_call (k := k) CL hr (ea_cons ev_int (ea_cons (ev_tup (eas_cons (ev_v slot3 rfl) (eas_cons ev_int (eas_cons ev_int eas_nil (by intro _; rfl)) (by intro _; rfl)) (by intro _; rfl)) (by walk_at "len")) (ea_cons (ev_v slot2 rfl) ea_nil))) ⟨7, ⟨x, 0, 0⟩, spotAt (ws.take j) y, rfl, by decide, rfl⟩) ?_)
        walk_at "nf"
        have e : CkM.led 7 ⟨x, 0, 0⟩ (spotAt (ws.take j) y) = spotAt (ws.take (j + 1)) y := by
          rw [take_succ' hx]
          simp [spotAt]
        rw [e]
        exact hs_nil ⟨_, rfl, rfl⟩
      · rintro Δ M ⟨s3, rfl, rfl⟩
        rw [List.take_length]
        have hl : ((([(1, 0), (0, 1)] : List Pl).take i).map (spotAt ws)).length ≤ 2 := by rw [List.length_map, List.length_take]; exact Nat.min_le_right _ _
        refine hs_cons (ht_app 0 (ex_ref 1 rfl) rfl (ev_v slot2 rfl) (by rw [List.length_map]; omega) ?_)
        walk_at "nf"
        refine hs_nil ⟨_, _, rfl, ?_⟩
        rw [take_succ' hy]
        simp only [List.map_append, List.map_cons, List.map_nil]
    · rintro Δ M ⟨s2, s3, rfl, rfl⟩
      exact hs_cons (ht_retM 1 0 rfl rfl slot1 (k := rfl))
end
end Ck
end Ck22Part

/-! ## Ck23 -/
section Ck23Part
set_option Elab.async false
set_option linter.all false
set_option maxRecDepth 100000
set_option maxHeartbeats 4000000
/-! The law's own defs: carpet, table, size, price. -/
namespace Ck
open PySem PySem.Spec PyProof.Rows L2 CkM
local macro_rules | `(tactic| walk_at "nf") => `(tactic| first | dsimp only [wipeS, List.map_cons, List.map_nil, List.set_cons_zero, List.set_cons_succ, List.length_cons, List.length_nil, List.replicate_succ, List.cons_append, List.nil_append, List.replicate_zero, List.append_nil, Nat.reduceSub, Nat.reduceAdd, List.eraseIdx_cons_zero, List.eraseIdx_cons_succ] | simp only [wipeS, List.map_cons, List.map_nil, List.set_cons_zero, List.set_cons_succ, List.length_cons, List.length_nil, List.replicate_succ, List.cons_append, List.nil_append, List.replicate_zero, List.append_nil, Nat.reduceSub, Nat.reduceAdd, List.eraseIdx_cons_zero, List.eraseIdx_cons_succ])
local macro_rules | `(tactic| walk_at "len") => `(tactic| exact small_len (Nat.le_of_ble_eq_true rfl))
local macro_rules | `(tactic| walk_at "ix") => `(tactic| first | exact IxD.tup rfl | exact IxD.lst rfl)
local macro_rules | `(tactic| walk_at "br") => `(tactic| first | exact br_add | exact br_sub | exact br_mul (by first | exact cmul_l (by omega) | exact cmul_r (by omega)) | exact br_mod (by omega) | exact br_fdiv ⟨by omega, by omega⟩)
local macro_rules | `(tactic| walk_at "cr") => `(tactic| first | exact cr_gt | exact cr_lt | exact cr_eqI | exact cr_le | exact cr_ge | exact cr_neI)

section
variable {U : Vw} {Δ : List Sv} {M : MS} {E : DE} {e a b c tg it : Expr} {es : List Expr} {d da db : PyData} {ds : List PyData} {x nm : Str} {pos p p1 p2 : Pos} {i j : Nat} {o : Addr}
/-- a list that is being made at an index -/
theorem ev_ixM {n : Int} (ha : EvX U a Δ M (.ref o)) (hj : M[j]? = some (o, .lst ds)) (hb : EvD U b Δ M (.int n)) (h : L2.atI ds n = some d) (hs : PlainIx b := by exact fun _ _ => rfl) : EvD U (.Subscript a b pos) Δ M d := fun G0 H0 Gs G σ H st Q q =>
  ⟨tOp (rIx U.K) (rE U a) (rE U b), fun r => pe_ix (X := U.cx r) ix_seq pe_r pe_r hs, ha G0 H0 Gs G σ H st _ fun x G1 H1 e1 h1 => hb G0 H0 Gs G1 σ H1 (st.grow e1) _ fun y G2 H2 e2 h2 => by
    cases h1
    rw [h2.int_eq]
    obtain ⟨_, _, us, q3, q4⟩ := ((st.grow e1).grow e2).ref hj
    obtain ⟨z, z1, z2⟩ := q4.atI h
    exact .inl ⟨o, us, n, z, rfl, rfl, .of q3, z1, q _ G2 H2 (e1.trans e2) z2⟩⟩
end
section
variable {P : Program} {w : World} {K : PySem.W.Frag} {mg : Str → Option Value} {base : Heap}
/-! ### the carpet of a script -/
def atOf (s : Int) (n : Nat) (r c : Nat) : Int :=
  if s = 1 then (c : Int) else if s = 2 then ((r : Int) + (c : Int)) % (n : Int) else if s = 3 then (if (n : Int) - 1 - (r : Int) < (r : Int) then (n : Int) - 1 - (r : Int) else (r : Int)) + (n : Int) * (if (n : Int) - 1 - (c : Int) < (c : Int) then (n : Int) - 1 - (c : Int) else (c : Int)) else (r : Int) * (n : Int) + (c : Int)
def letAt (cells : List Int) (ls : List Nat) (a : Int) : Nat := ls.getD (mixI (cells.getD (a % (cells.length : Int)).toNat 0) a % (ls.length : Int)).toNat 0
def carC (cells : List Int) (n : Nat) (ls : List Nat) (seed : Int) : Col := fun p => letAt cells ls (atOf (seed % 4) n p.1.toNat p.2.toNat)
def RCarpet (S : List Sv) (d : PyData) : Prop := ∃ (cells : List Int) (n : Nat) (ls : List Nat) (seed : Int), S = [.dat (.list (cells.map .int)), .dat (.int n), .dat (.list (ls.map chD)), .dat (.int seed)] ∧ 1 ≤ n ∧ n ≤ 3 ∧ cells ≠ [] ∧ cells.length ≤ 100 ∧ ls ≠ [] ∧ ls.length ≤ 100 ∧ d = cpD n (carC cells n ls seed)
theorem at_range {s : Int} {n r c : Nat} (hn : n ≤ 3) (hr : r < n) (hc : c < n) : 0 ≤ atOf s n r c ∧ atOf s n r c < 1000 := by
  have : n = 1 ∨ n = 2 ∨ n = 3 := by omega
  unfold atOf
  rcases this with rfl | rfl | rfl
  all_goals
    split
    · omega
    · split
      · omega
      · split
        · split <;> split <;> omega
        · omega
def rowTo (κ : Col) (r : Int) (j : Nat) : Str := ⟨((List.range j).map fun (c : Nat) => κ (r, (c : Int))).toArray⟩
theorem rowTo_succ (κ : Col) (r : Int) (j : Nat) : rowTo κ r j ++ chS (κ (r, (j : Int))) = rowTo κ r (j + 1) := by
  show (⟨_ ++ _⟩ : Str) = ⟨_⟩
  congr 1
  simp [rowTo, chS, List.range_succ]
theorem rowTo_len (κ : Col) (r : Int) (j : Nat) : (rowTo κ r j).length = j := by
  show (List.toArray _).size = j
  rw [List.size_toArray, List.length_map, List.length_range]

theorem ok_lCarpet {f : Addr} {fd : FuncData} {k : Nat} (F : Fun K "_law_carpet" "_law_carpet" sLCarpet f fd) (CM : CalK P w K mg base k "_law_mixed" pLMixed RMixed) (m1 : mg "range" = none) (m2 : mg "tuple" = none) (m3 : mg "len" = none) (m4 : mg "min" = none) : FnOk P w K mg base CX0 (k + 1) f fd pLCarpet (SpD K RCarpet) := by
  refine fn_ok F scLCarpet (fun S d h => ?_) fun A hr S d h => ?_
  · obtain ⟨cells, n, ls, seed, rfl, _⟩ := h
    rfl
  · obtain ⟨cells, n, ls, seed, rfl, h1, h3, hc0, hcl, hl0, hll, rfl⟩ := h
    have nd := scLCarpet.nd
    have npos : (0 : Int) < n := by omega
    have hcp : 0 < cells.length := List.length_pos_iff.mpr hc0
    have hlp : 0 < ls.length := List.length_pos_iff.mpr hl0
    generalize hκ : carC cells n ls seed = κ
    walk_at "nf"
    refine hs_cons (ht_newL 4 nd (ds := []) eas_nil (fun o1 => ?_))
    walk_at "nf"
    refine hs_cons (ht_for (xs := List.range n) (g := fun (r : Nat) => PyData.int (r : Int)) (fun i Δ M => ∃ s5 s6 s7 s8, Δ = [.dat (.list (cells.map .int)), .dat (.int n), .dat (.list (ls.map chD)), .dat (.int seed), .ref o1, s5, s6, s7, s8] ∧ M = [(o1, .lst ((List.range i).map fun (r : Nat) => PyData.str (rowS n κ (r : Int))))]) (it_range1 (ev_v slot1 rfl) (by omega) m1) ⟨.non, .non, .non, .non, rfl, rfl⟩ ?_ ?_)
    · rintro i y Δ M hy ⟨s5, s6, s7, s8, rfl, rfl⟩
      have hi : i < n := by have := (List.getElem?_eq_some_iff.mp hy).1; rwa [List.length_range] at this
      have ey : y = i := by rw [List.getElem?_range hi] at hy; exact (Option.some.inj hy).symm
      subst ey
      refine ⟨_, _, tg_name 5 nd, ?_⟩
      walk_at "nf"
      refine hs_cons (ht_set 6 nd (d := .str (rowTo κ (y : Int) 0)) ev_str ?_)
      walk_at "nf"
      refine hs_cons (ht_for (xs := List.range n) (g := fun (r : Nat) => PyData.int (r : Int)) (fun j Δ M => ∃ s7 s8, Δ = [.dat (.list (cells.map .int)), .dat (.int n), .dat (.list (ls.map chD)), .dat (.int seed), .ref o1, .dat (.int (y : Int)), .dat (.str (rowTo κ (y : Int) j)), s7, s8] ∧ M = [(o1, .lst ((List.range y).map fun (r : Nat) => PyData.str (rowS n κ (r : Int))))]) (it_range1 (ev_v slot1 rfl) (by omega) m1) ⟨s7, s8, rfl, rfl⟩ ?_ ?_)
      · rintro j c Δ M hc ⟨s7, s8, rfl, rfl⟩
        have hj : j < n := by have := (List.getElem?_eq_some_iff.mp hc).1; rwa [List.length_range] at this
        have ec : c = j := by rw [List.getElem?_range hj] at hc; exact (Option.some.inj hc).symm
        subst ec
        have hat := at_range (s := seed % 4) h3 hi hj
        have hκc : κ ((y : Int), (c : Int)) = letAt cells ls (atOf (seed % 4) n y c) := by rw [← hκ]; rfl
        refine ⟨_, _, tg_name 7 nd, ?_⟩
        walk_at "nf"
        refine hs_cons (ht_set 8 nd (ev_bin (ev_bin (ev_v slot5 rfl) (ev_v slot1 rfl) (by walk_at "br")) (ev_v slot7 rfl) (by walk_at "br")) ?_)
        walk_at "nf"
        have b1 := Int.emod_nonneg seed (show (4 : Int) ≠ 0 by decide)
        have b2 := Int.emod_lt_of_pos seed (show (0 : Int) < 4 by decide)
        have hs4 : seed % 4 = 0 ∨ seed % 4 = 1 ∨ seed % 4 = 2 ∨ seed % 4 = 3 := by omega
        rcases hs4 with h | h | h | h
        all_goals first
          | refine hs_cons (ht_if (k := true) (EvT.to (et_cmp (ev_bin (ev_v slot3 rfl) ev_int (by walk_at "br")) ev_int (by walk_at "cr")) (by rw [h]; decide)) (fun _ => hs_cons (ht_set 8 nd (ev_v slot7 rfl) (hs_nil ?_))) (fun h => nomatch h))
          | refine hs_cons (ht_if (k := false) (EvT.to (et_cmp (ev_bin (ev_v slot3 rfl) ev_int (by walk_at "br")) ev_int (by walk_at "cr")) (by rw [h]; decide)) (fun h => nomatch h) (fun _ => hs_nil ?_))
        all_goals try walk_at "nf"
        all_goals first
          | refine hs_cons (ht_if (k := true) (EvT.to (et_cmp (ev_bin (ev_v slot3 rfl) ev_int (by walk_at "br")) ev_int (by walk_at "cr")) (by rw [h]; decide)) (fun _ => hs_cons (ht_set 8 nd (ev_bin (ev_bin (ev_v slot5 rfl) (ev_v slot7 rfl) (by walk_at "br")) (ev_v slot1 rfl) (by walk_at "br")) (hs_nil ?_))) (fun h => nomatch h))
          | refine hs_cons (ht_if (k := false) (EvT.to (et_cmp (ev_bin (ev_v slot3 rfl) ev_int (by walk_at "br")) ev_int (by walk_at "cr")) (by rw [h]; decide)) (fun h => nomatch h) (fun _ => hs_nil ?_))
        all_goals try walk_at "nf"
        all_goals first
          | refine hs_cons (ht_if (k := true) (EvT.to (et_cmp (ev_bin (ev_v slot3 rfl) ev_int (by walk_at "br")) ev_int (by walk_at "cr")) (by rw [h]; decide)) (fun _ => hs_cons (ht_set 8 nd (ev_bin (ev_min2 (ea_cons (ev_v slot5 rfl) (ea_cons (ev_bin (ev_bin (ev_v slot1 rfl) ev_int (by walk_at "br")) (ev_v slot5 rfl) (by walk_at "br")) ea_nil)) m4) (ev_bin (ev_v slot1 rfl) (ev_min2 (ea_cons (ev_v slot7 rfl) (ea_cons (ev_bin (ev_bin (ev_v slot1 rfl) ev_int (by walk_at "br")) (ev_v slot7 rfl) (by walk_at "br")) ea_nil)) m4) (br_mul (cmul_l (by omega)))) br_add) (hs_nil ?_))) (fun h => nomatch h))
          | refine hs_cons (ht_if (k := false) (EvT.to (et_cmp (ev_bin (ev_v slot3 rfl) ev_int (by walk_at "br")) ev_int (by walk_at "cr")) (by rw [h]; decide)) (fun h => nomatch h) (fun _ => hs_nil ?_))
        all_goals try walk_at "nf"
        all_goals first
          | (show HS _ _ [.dat (.list (cells.map .int)), .dat (.int n), .dat (.list (ls.map chD)), .dat (.int seed), .ref o1, .dat (.int (y : Int)), .dat (.str (rowTo κ (y : Int) c)), .dat (.int (c : Int)), .dat (.int (atOf 0 n y c))] _ _; rw [show atOf 0 n y c = atOf (seed % 4) n y c from by rw [h]])
          | (show HS _ _ [.dat (.list (cells.map .int)), .dat (.int n), .dat (.list (ls.map chD)), .dat (.int seed), .ref o1, .dat (.int (y : Int)), .dat (.str (rowTo κ (y : Int) c)), .dat (.int (c : Int)), .dat (.int (atOf 1 n y c))] _ _; rw [show atOf 1 n y c = atOf (seed % 4) n y c from by rw [h]])
          | (show HS _ _ [.dat (.list (cells.map .int)), .dat (.int n), .dat (.list (ls.map chD)), .dat (.int seed), .ref o1, .dat (.int (y : Int)), .dat (.str (rowTo κ (y : Int) c)), .dat (.int (c : Int)), .dat (.int (atOf 2 n y c))] _ _; rw [show atOf 2 n y c = atOf (seed % 4) n y c from by rw [h]])
          | (show HS _ _ [.dat (.list (cells.map .int)), .dat (.int n), .dat (.list (ls.map chD)), .dat (.int seed), .ref o1, .dat (.int (y : Int)), .dat (.str (rowTo κ (y : Int) c)), .dat (.int (c : Int)), .dat (.int (atOf 3 n y c))] _ _; rw [show atOf 3 n y c = atOf (seed % 4) n y c from by rw [h]])
        all_goals
          have hat0 := hat.1
          have hat1 := hat.2
          clear h
          generalize atOf (seed % 4) n y c = t at *
          have c1 := Int.emod_nonneg t (show (cells.length : Int) ≠ 0 by omega)
          have c2 := Int.emod_lt_of_pos t (show (0 : Int) < (cells.length : Int) by omega)
          have hcell : L2.atI (cells.map PyData.int) (t % (cells.length : Int)) = some (.int (cells.getD (t % (cells.length : Int)).toNat 0)) := by
            have e1 : t % (cells.length : Int) = ((t % (cells.length : Int)).toNat : Int) := (Int.toNat_of_nonneg c1).symm
            have hlt : (t % (cells.length : Int)).toNat < cells.length := by omega
            generalize (t % (cells.length : Int)).toNat = z at *
            rw [e1, atI_nat (by rw [List.length_map]; exact hlt), List.getElem?_map, List.getD_eq_getElem?_getD, List.getElem?_eq_getElem hlt]
            rfl
          have mx := mix_nonneg (cells.getD (t % (cells.length : Int)).toNat 0) t
          have hlet : L2.atI (ls.map chD) (mixI (cells.getD (t % (cells.length : Int)).toNat 0) t % (ls.length : Int)) = some (chD (letAt cells ls t)) := by
            unfold letAt
            generalize mixI (cells.getD (t % (cells.length : Int)).toNat 0) t = mm at *
            have d1 := Int.emod_nonneg mm (show (ls.length : Int) ≠ 0 by omega)
            have d2 := Int.emod_lt_of_pos mm (show (0 : Int) < (ls.length : Int) by omega)
            have e1 : mm % (ls.length : Int) = ((mm % (ls.length : Int)).toNat : Int) := (Int.toNat_of_nonneg d1).symm
            have hlt : (mm % (ls.length : Int)).toNat < ls.length := by omega
            generalize (mm % (ls.length : Int)).toNat = z at *
            rw [e1, atI_nat (by rw [List.length_map]; exact hlt), List.getElem?_map, List.getD_eq_getElem?_getD, List.getElem?_eq_getElem hlt]
            rfl
          refine hs_cons (ht_set 6 nd (d := .str (rowTo κ (y : Int) (c + 1))) (EvD.to (ev_bin (ev_v slot6 rfl) (ev_ix (ev_v slot2 rfl) (ev_bin (ev_call (k := k) CM hr (ea_cons (ev_ix (ev_v slot0 rfl) (ev_bin (ev_v slot8 rfl) ((ev_lenL (ds := cells.map .int) (ev_v slot0 rfl) m3).to (by rw [List.length_map])) (br_mod (by omega))) (IxD.lst hcell)) (ea_cons (ev_v slot8 rfl) ea_nil)) ⟨_, t, rfl, hat0, by omega, rfl⟩) ((ev_lenL (ds := ls.map chD) (ev_v slot2 rfl) m3).to (by rw [List.length_map])) (br_mod (by omega))) (IxD.lst hlet)) (br_addS (small_len (by rw [rowTo_len]; show c + 1 ≤ 1000; omega)))) (congrArg PyData.str (by rw [← rowTo_succ, hκc]))) ?_)
          walk_at "nf"
          exact hs_nil ⟨_, _, rfl, rfl⟩
      · rintro Δ M ⟨s7, s8, rfl, rfl⟩
        refine hs_cons (ht_app 0 (ex_ref 4 rfl) rfl (ev_v slot6 rfl) (by rw [List.length_map, List.length_range]; omega) ?_)
        walk_at "nf"
        refine hs_nil ⟨_, _, _, _, rfl, ?_⟩
        rw [List.range_succ, List.map_append, List.length_range]
        rfl
    · rintro Δ M ⟨s5, s6, s7, s8, rfl, rfl⟩
      rw [List.length_range]
      refine hs_freeze 4 0 rfl rfl ?_
      walk_at "nf"
      exact hs_cons (ht_ret (ev_tupleL (ev_v slot4 rfl) m2) rfl)
end
end Ck
end Ck23Part

/-! ## Ck24 -/
section Ck24Part
set_option Elab.async false
set_option linter.all false
set_option maxRecDepth 100000
set_option maxHeartbeats 4000000
/-! The law's own defs: table, size. -/
namespace Ck
open PySem PySem.Spec PyProof.Rows L2 CkM
local macro_rules | `(tactic| walk_at "nf") => `(tactic| first | dsimp only [wipeS, List.map_cons, List.map_nil, List.set_cons_zero, List.set_cons_succ, List.length_cons, List.length_nil, List.replicate_succ, List.cons_append, List.nil_append, List.replicate_zero, List.append_nil, Nat.reduceSub, Nat.reduceAdd, List.eraseIdx_cons_zero, List.eraseIdx_cons_succ] | simp only [wipeS, List.map_cons, List.map_nil, List.set_cons_zero, List.set_cons_succ, List.length_cons, List.length_nil, List.replicate_succ, List.cons_append, List.nil_append, List.replicate_zero, List.append_nil, Nat.reduceSub, Nat.reduceAdd, List.eraseIdx_cons_zero, List.eraseIdx_cons_succ])
local macro_rules | `(tactic| walk_at "len") => `(tactic| exact small_len (Nat.le_of_ble_eq_true rfl))
local macro_rules | `(tactic| walk_at "ix") => `(tactic| first | exact IxD.tup rfl | exact IxD.lst rfl)
local macro_rules | `(tactic| walk_at "br") => `(tactic| first | exact br_add | exact br_sub | exact br_mul (by first | exact cmul_l (by omega) | exact cmul_r (by omega)) | exact br_mod (by omega) | exact br_fdiv ⟨by omega, by omega⟩)
local macro_rules | `(tactic| walk_at "cr") => `(tactic| first | exact cr_gt | exact cr_lt | exact cr_eqI | exact cr_le | exact cr_ge | exact cr_neI)

def nmS (x : Way) : Str := Str.ofString x.name
def tabE (a b : Way) : List Key × Str := ([.inr (nmS a), .inr (nmS b)], nmS (a.mul b))
def tabL : List (List Key × Str) := Way.all.flatMap fun a => Way.all.map (tabE a)
def asD (l : List (List Key × Str)) : List (List Key × PyData) := l.map fun kv => (kv.1, PyData.str kv.2)
theorem tabK_inj {a b c d : Way} (h : (tabE a b).1 = (tabE c d).1) : a = c ∧ b = d := by
  unfold tabE at h
  injection h with h1 h
  injection h with h2 h
  exact ⟨name_inj (Sum.inr.inj h1), name_inj (Sum.inr.inj h2)⟩
theorem img_iff : ∀ a ∈ Way.all, ∀ b ∈ Way.all, ∀ x ∈ Way.all, (imgL [a, b] = imgL [x] ↔ x = a.mul b) := by decide +kernel
theorem all_nodup : Way.all.Nodup := by decide
theorem valD_as {l : List (List Key × Str)} {k : List Key} (h : ∀ kv ∈ l, kv.1 ≠ k) : (valD (asD l) k).isSome = false := by
  induction l with
  | nil => rfl
  | cons a l ih =>
    unfold asD
    rw [List.map_cons, valD_cons, if_neg (h a List.mem_cons_self)]
    exact ih fun kv hk => h kv (List.mem_cons_of_mem _ hk)
theorem valV_as {l : List (List Key × Str)} (hn : ∀ x ∈ l, ∀ y ∈ l, x.1 = y.1 → x.2 = y.2) {kv : List Key × Str} (h : kv ∈ l) : valV (l.map fun kv => (kv.1, V.str kv.2)) kv.1 = some (.str kv.2) := by
  induction l with
  | nil => cases h
  | cons a l ih =>
    rw [List.map_cons]
    by_cases e : a.1 = kv.1
    · rw [valV_pos e, hn a List.mem_cons_self kv h e]
    · rw [valV_neg e]
      rcases List.mem_cons.mp h with rfl | h
      · exact absurd rfl e
      · exact ih (fun x hx y hy => hn x (List.mem_cons_of_mem _ hx) y (List.mem_cons_of_mem _ hy)) h
theorem tab_at (a b : Way) : valV (tabL.map fun kv => (kv.1, V.str kv.2)) (tabE a b).1 = some (.str (nmS (a.mul b))) := by
  refine valV_as (kv := tabE a b) (fun x hx y hy e => ?_) (List.mem_flatMap.mpr ⟨a, Way.mem_all a, List.mem_map.mpr ⟨b, Way.mem_all b, rfl⟩⟩)
  obtain ⟨a1, _, h1⟩ := List.mem_flatMap.mp hx
  obtain ⟨b1, _, rfl⟩ := List.mem_map.mp h1
  obtain ⟨a2, _, h2⟩ := List.mem_flatMap.mp hy
  obtain ⟨b2, _, rfl⟩ := List.mem_map.mp h2
  obtain ⟨rfl, rfl⟩ := tabK_inj e
  rfl
section
variable {P : Program} {w : World} {K : PySem.W.Frag} {mg : Str → Option Value} {base : Heap}
def RTable (S : List Sv) (d : PyData) : Prop := S = [] ∧ d = dictT tabL

theorem ok_lTable {f : Addr} {fd : FuncData} {k : Nat} (F : Fun K "_law_table" "_law_table" sLTable f fd) (CI : CalK P w K mg base k "_law_image" pLImage RImage) : FnOk P w K mg base CX0 (k + 1) f fd pLTable (SpD K RTable) := by
  refine fn_ok F scLTable (fun S d h => ?_) fun A hr S d h => ?_
  · obtain ⟨rfl, _⟩ := h
    rfl
  · obtain ⟨rfl, rfl⟩ := h
    have nd := scLTable.nd
    have hu := hu_of hr
    have hu64 := hr.units
    walk_at "nf"
    refine hs_cons (ht_set 0 nd (d := .list (Way.all.map wS)) (ev_lst (ds := Way.all.map wS) (eas_cons ev_str (eas_cons ev_str (eas_cons ev_str (eas_cons ev_str (eas_cons ev_str (eas_cons ev_str (eas_cons ev_str (eas_cons ev_str eas_nil (by intro _; rfl)) (by intro _; rfl)) (by intro _; rfl)) (by intro _; rfl)) (by intro _; rfl)) (by intro _; rfl)) (by intro _; rfl)) (by intro _; rfl)) (by walk_at "len")) ?_)
    walk_at "nf"
    refine hs_cons (ht_newT 1 nd fun o1 => ?_)
    walk_at "nf"
    refine hs_cons (ht_for (xs := Way.all) (g := wS) (fun i Δ M => ∃ s2 s3 s4, Δ = [.dat (.list (Way.all.map wS)), .ref o1, s2, s3, s4] ∧ M = [(o1, .dT (asD ((Way.all.take i).flatMap fun a => Way.all.map (tabE a))))]) (it_list (ev_v slot0 rfl)) ⟨.non, .non, .non, rfl, rfl⟩ ?_ ?_)
    · rintro i a Δ M ha ⟨s2, s3, s4, rfl, rfl⟩
      have hpl : ((Way.all.take i).flatMap fun a => Way.all.map (tabE a)).length ≤ 64 := by
        have := len_flat_le (f := fun a => Way.all.map (tabE a)) (b := 8) (fun w => by rw [List.length_map]; exact Nat.le_refl _) (Way.all.take i)
        have h2 : (Way.all.take i).length ≤ 8 := by rw [List.length_take]; exact Nat.min_le_right _ _
        have := Nat.mul_le_mul h2 (Nat.le_refl 8)
        omega
      have hnext : ((Way.all.take (i + 1)).flatMap fun a => Way.all.map (tabE a)) = ((Way.all.take i).flatMap fun a => Way.all.map (tabE a)) ++ Way.all.map (tabE a) := by
        rw [take_succ' ha, List.flatMap_append]
        simp
      have hpk : ∀ kv ∈ ((Way.all.take i).flatMap fun a => Way.all.map (tabE a)), ∀ b, kv.1 ≠ (tabE a b).1 := fun kv hkv b e => by
        obtain ⟨a1, h0, h1⟩ := List.mem_flatMap.mp hkv
        obtain ⟨b1, _, rfl⟩ := List.mem_map.mp h1
        obtain ⟨rfl, rfl⟩ := tabK_inj e
        obtain ⟨j, hj, e2⟩ := List.mem_take_iff_getElem.mp h0
        have : Way.all[j]? = some a1 := by rw [← e2]; exact List.getElem?_eq_getElem (by omega)
        have := nd_ix all_nodup this ha
        omega
      generalize ((Way.all.take i).flatMap fun a => Way.all.map (tabE a)) = pre at *
      refine ⟨_, _, tg_name 2 nd, ?_⟩
      walk_at "nf"
      refine hs_cons (ht_for (xs := Way.all) (g := wS) (fun j Δ M => ∃ s3 s4, Δ = [.dat (.list (Way.all.map wS)), .ref o1, .dat (wS a), s3, s4] ∧ M = [(o1, .dT (asD (pre ++ (Way.all.take j).map (tabE a))))]) (it_list (ev_v slot0 rfl)) ⟨s3, s4, rfl, by rw [List.take_zero, List.map_nil, List.append_nil]⟩ ?_ ?_)
      · rintro j b Δ M hb ⟨s3, s4, rfl, rfl⟩
        have hnew : ∀ kv ∈ pre ++ (Way.all.take j).map (tabE a), kv.1 ≠ (tabE a b).1 := fun kv hkv e => by
          rcases List.mem_append.mp hkv with hkv | hkv
          · exact hpk kv hkv b e
          · obtain ⟨b1, h0, rfl⟩ := List.mem_map.mp hkv
            obtain ⟨_, rfl⟩ := tabK_inj e
            obtain ⟨t, ht, e2⟩ := List.mem_take_iff_getElem.mp h0
            have : Way.all[t]? = some b1 := by rw [← e2]; exact List.getElem?_eq_getElem (by omega)
            have := nd_ix all_nodup this hb
            omega
        have hlen : (pre ++ (Way.all.take j).map (tabE a)).length ≤ 72 := by
          have h2 : (Way.all.take j).length ≤ 8 := by rw [List.length_take]; exact Nat.min_le_right _ _
          rw [List.length_append, List.length_map]; omega
        have hnj : pre ++ (Way.all.take (j + 1)).map (tabE a) = pre ++ (Way.all.take j).map (tabE a) ++ [tabE a b] := by
          rw [take_succ' hb, List.map_append, List.append_assoc]
          rfl
        generalize pre ++ (Way.all.take j).map (tabE a) = pr at *
        refine ⟨_, _, tg_name 3 nd, ?_⟩
        walk_at "nf"
        refine hs_cons (ht_for (xs := Way.all) (g := wS) (fun t Δ M => ∃ s4, Δ = [.dat (.list (Way.all.map wS)), .ref o1, .dat (wS a), .dat (wS b), s4] ∧ M = [(o1, .dT (asD (pr ++ ((Way.all.take t).filter fun x => decide (x = a.mul b)).map fun _ => tabE a b)))]) (it_list (ev_v slot0 rfl)) ⟨s4, rfl, by rw [List.take_zero, List.filter_nil, List.map_nil, List.append_nil]⟩ ?_ ?_)
        · rintro t x Δ M hx ⟨s4, rfl, rfl⟩
          refine ⟨_, _, tg_name 4 nd, ?_⟩
          walk_at "nf"
          refine hs_cons (ht_if (k := decide (x = a.mul b)) (et_cmp (ev_call (k := k) CI hr (ea_cons (ev_lst (eas_cons (ev_v slot2 rfl) (eas_cons (ev_v slot3 rfl) eas_nil (by intro _; rfl)) (by intro _; rfl)) (by walk_at "len")) ea_nil) ⟨[a, b], rfl, rfl⟩) (ev_call (k := k) CI hr (ea_cons (ev_lst (eas_cons (ev_v slot4 rfl) eas_nil (by intro _; rfl)) (by walk_at "len")) ea_nil) ⟨[x], rfl, rfl⟩) (cr_eqP hu64 (by show okL 7 _ = true; exact ok_pls _) (by show okL 7 _ = true; exact ok_pls _) ?_)) (fun hk => ?_) (fun hk => hs_nil (hs_nil ?_)))
          · rw [decide_eq_true_iff, ← img_iff a (Way.mem_all a) b (Way.mem_all b) x (Way.mem_all x)]
            constructor
            · intro e; rw [e]
            · intro e
              exact map_inj (fun p q h => plK_inj (kDs_inj (PyData.tuple.inj h))) (PyData.list.inj e)
          · have hk : x = a.mul b := of_decide_eq_true hk
            have hbef : (Way.all.take t).filter (fun x => decide (x = a.mul b)) = [] := by
              rw [List.filter_eq_nil_iff]
              intro y hy e
              have e : y = a.mul b := of_decide_eq_true e
              obtain ⟨u, hu', e2⟩ := List.mem_take_iff_getElem.mp hy
              have : Way.all[u]? = some y := by rw [← e2]; exact List.getElem?_eq_getElem (by omega)
              rw [e, ← hk] at this
              have := nd_ix all_nodup this hx
              omega
            rw [hbef, List.map_nil, List.append_nil]
            refine hs_cons (ht_putT 0 hu (d := .str (nmS (a.mul b))) ((ev_v slot4 rfl : EvD _ _ _ _ (wS x)).to (by rw [hk]; rfl)) (ex_ref 1 rfl) rfl (ks := (tabE a b).1) (ev_tup (eas_cons (ev_v slot2 rfl) (eas_cons (ev_v slot3 rfl) eas_nil (by intro _; rfl)) (by intro _; rfl)) (by walk_at "len")) (by unfold asD; rw [List.length_map]; omega) ?_)
            walk_at "nf"
            refine hs_nil (hs_nil ⟨_, rfl, ?_⟩)
            rw [putD_new (valD_as hnew), take_succ' hx, List.filter_append, hbef, List.filter_cons, if_pos (decide_eq_true hk)]
            simp [asD, tabE]
          · have hk : ¬ x = a.mul b := of_decide_eq_false hk
            refine ⟨_, rfl, ?_⟩
            rw [take_succ' hx, List.filter_append, List.filter_cons, if_neg (by simpa using hk), List.filter_nil, List.append_nil]
        · rintro Δ M ⟨s4, rfl, rfl⟩
          refine hs_nil ⟨_, _, rfl, ?_⟩
          have : ∀ x : Way, ((Way.all.take Way.all.length).filter fun y => decide (y = x)).length = 1 := fun x => by cases x <;> decide
          have h1 := this (a.mul b)
          rw [hnj]
          congr 3
          congr 2
          generalize (Way.all.take Way.all.length).filter (fun y => decide (y = a.mul b)) = l at *
          match l, h1 with
          | [z], _ => rfl
      · rintro Δ M ⟨s3, s4, rfl, rfl⟩
        rw [List.take_length]
        refine hs_nil ⟨_, _, _, rfl, ?_⟩
        rw [hnext]
    · rintro Δ M ⟨s2, s3, s4, rfl, rfl⟩
      rw [List.take_length]
      refine hs_freezeT (kvs := tabL) 1 0 rfl rfl ?_
      walk_at "nf"
      exact hs_cons (ht_ret (ev_v slot1 rfl) rfl)
def RSize (S : List Sv) (d : PyData) : Prop := ∃ (n : Nat) (ms : List Mv), S = [.dat (.int n), .dat (.list (ms.map mvD)), .dat (dictT tabL)] ∧ 1 ≤ n ∧ n ≤ 3 ∧ d = .int (szI n ms)

theorem ok_lSize {f : Addr} {fd : FuncData} {k : Nat} (F : Fun K "_law_size" "_law_size" sLSize f fd) (CL : CalK P w K mg base k "_law_led" pLLed RLed) (m1 : mg "len" = none) : FnOk P w K mg base CX0 (k + 1) f fd pLSize (SpD K RSize) := by
  refine fn_ok F scLSize (fun S d h => ?_) fun A hr S d h => ?_
  · obtain ⟨n, ms, rfl, _⟩ := h
    rfl
  · obtain ⟨n, ms, rfl, h1, h3, rfl⟩ := h
    have hp : idm ∈ allMv n := idm_mem (by omega)
    have nd := scLSize.nd
    have hu := hu_of hr
    have hu64 := hr.units
    have npos : (0 : Int) < n := by omega
    have hbound : ∀ F : List Mv, F.Nodup → (∀ x ∈ F, x ∈ allMv n) → F.length ≤ 8 * (n * n) := fun F hF hS => by
      rw [← len_mv]
      exact hF.length_le_of_subset hS
    have hnn : n * n ≤ 9 := Nat.mul_le_mul h3 h3
    walk_at "nf"
    refine hs_cons (ht_newT1 3 nd hu (ks := mvK idm) (ev_tup (eas_cons ev_str (eas_cons ev_int (eas_cons ev_int eas_nil (by intro _; rfl)) (by intro _; rfl)) (by intro _; rfl)) (by walk_at "len")) ev_bl fun o1 => ?_)
    walk_at "nf"
    refine hs_cons (ht_newL 4 nd (ds := [mvD idm]) (eas_cons (ev_tup (eas_cons ev_str (eas_cons ev_int (eas_cons ev_int eas_nil (by intro _; rfl)) (by intro _; rfl)) (by intro _; rfl)) (by walk_at "len")) eas_nil (by intro _; rfl)) (fun o2 => ?_))
    walk_at "nf"
    refine hs_cons (ht_while (fun m Δ M => ∃ F Wk s5 s6 s7 s8 s9, Δ = [.dat (.int n), .dat (.list (ms.map mvD)), .dat (dictT tabL), .ref o1, .ref o2, s5, s6, s7, s8, s9] ∧ M = [(o2, .lst (Wk.map mvD)), (o1, .dT (setD mvK F))] ∧ WL (stepM n) ms idm F Wk ∧ (∀ x ∈ F, x ∈ allMv n) ∧ m = 2 * (8 * (n * n) - F.length) + Wk.length ∧ m ≤ 200) _ ⟨[idm], [idm], .non, .non, .non, .non, .non, rfl, rfl, .start, fun x hx => by rw [List.mem_singleton] at hx; subst hx; exact hp, rfl, by simp; omega⟩ ?_)
    rintro m Δ M ⟨F, Wk, s5, s6, s7, s8, s9, rfl, rfl, hW, hS, hm, hm200⟩
    refine ⟨!Wk.isEmpty, et_neNil hu64 (ex_ref 4 rfl) (j := 0) rfl (ok_mvs Wk) (by cases Wk <;> simp), fun hne => ?_, fun he => ?_⟩
    · have hWk : Wk ≠ [] := by intro e; subst e; simp at hne
      obtain ⟨x, hx⟩ : ∃ x, Wk[Wk.length - 1]? = some x := ⟨_, List.getElem?_eq_getElem (by have := List.length_pos_iff.mpr hWk; omega)⟩
      have hWi := hW.pop hx
      have hF1 := hbound F hW.nd hS
      have hlenW : Wk.dropLast.length + 1 = Wk.length := by
        rw [List.length_dropLast]
        have := List.length_pos_iff.mpr hWk
        omega
      refine hs_cons (ht_pop 5 0 nd (ex_ref 4 rfl) rfl (d := mvD x) (by rw [List.length_map, List.getElem?_map, hx]; rfl) ?_)
      walk_at "nf"
      rw [← List.map_dropLast]
      refine hs_cons (ht_for (xs := ms) (g := mvD) (fun i Δ M => ∃ F Wk s6 s7 s8 s9, Δ = [.dat (.int n), .dat (.list (ms.map mvD)), .dat (dictT tabL), .ref o1, .ref o2, .dat (mvD x), s6, s7, s8, s9] ∧ M = [(o2, .lst (Wk.map mvD)), (o1, .dT (setD mvK F))] ∧ WLi (stepM n) ms idm x i F Wk ∧ (∀ x ∈ F, x ∈ allMv n) ∧ 2 * (8 * (n * n) - F.length) + Wk.length < m) (it_list (ev_v slot1 rfl)) ⟨F, Wk.dropLast, s6, s7, s8, s9, rfl, rfl, hWi, hS, by omega⟩ ?_ ?_)
      · rintro i y Δ M hy ⟨F, Wk, s6, s7, s8, s9, rfl, rfl, hWi, hS, hm2⟩
        refine ⟨_, _, tg_name 6 nd, ?_⟩
        walk_at "nf"
        refine hs_cons (ht_asg (ev_call (k := k) CL hr (ea_cons (ev_v slot0 rfl) (ea_cons (ev_v slot6 rfl) (ea_cons (ev_tup (eas_cons (ev_ix (ev_v slot5 rfl) ev_int (by walk_at "ix")) (eas_cons (ev_ix (ev_v slot5 rfl) ev_int (by walk_at "ix")) eas_nil (by intro _; rfl)) (by intro _; rfl)) (by walk_at "len")) ea_nil))) ⟨n, y, (x.d, x.r), rfl, npos, rfl⟩) (tg_tup (tgs_cons (tg_name 7 nd) (tgs_cons (tg_name 8 nd) tgs_nil))) ?_)
        walk_at "nf"
        refine hs_cons (ht_set 9 nd (d := mvD (thn n x y)) (ev_tup (ds := [wS (x.w.mul y.w), .int (CkM.led n y (x.d, x.r)).1, .int (CkM.led n y (x.d, x.r)).2]) (eas_cons (ev_getTD (kvs := tabL) (ks := (tabE x.w y.w).1) (n := nmS (x.w.mul y.w)) hu (ev_v slot2 rfl) (ev_tup (ds := [wS x.w, wS y.w]) (eas_cons (ev_ix (ev_v slot5 rfl) ev_int (by walk_at "ix")) (eas_cons (ev_ix (ev_v slot6 rfl) ev_int (by walk_at "ix")) eas_nil (by intro _; rfl)) (by intro _; rfl)) (by walk_at "len")) (tab_at x.w y.w)) (eas_cons (ev_v slot7 rfl) (eas_cons (ev_v slot8 rfl) eas_nil (by intro _; rfl)) (by intro _; rfl)) (by intro _; rfl)) (by walk_at "len")) ?_)
        walk_at "nf"
        have hz : thn n x y ∈ allMv n := thn_mem (by omega) x y
        have hF1 := hbound F hWi.nd hS
        refine hs_cons (ht_if (et_ninT hu (ks := mvK (thn n x y)) (ev_v slot9 rfl) (ex_ref 3 rfl) (j := 1) rfl) (fun hk => ?_) (fun hk => ?_))
        · have hF : thn n x y ∉ F := by simpa [valD_set (fun _ _ => mvK_inj)] using hk
          have hF2 := hbound (F ++ [thn n x y]) (hWi.new hy hF).nd (fun z hz' => by
            rw [List.mem_append, List.mem_singleton] at hz'
            rcases hz' with h | rfl
            · exact hS z h
            · exact hz)
          refine hs_cons (ht_putT 1 hu ev_bl (ex_ref 3 rfl) rfl (ks := mvK (thn n x y)) (ev_v slot9 rfl) (by rw [setD, List.length_map]; omega) ?_)
          walk_at "nf"
          rw [putD_set (fun _ _ => mvK_inj) hF]
          refine hs_cons (ht_app 0 (ex_ref 4 rfl) rfl (ev_v slot9 rfl) (by rw [List.length_map]; rw [List.length_append] at hF2; omega) ?_)
          walk_at "nf"
          refine hs_nil (hs_nil ⟨F ++ [thn n x y], Wk ++ [thn n x y], _, _, _, _, rfl, by rw [List.map_append]; rfl, hWi.new hy hF, fun z hz' => ?_, ?_⟩)
          · rw [List.mem_append, List.mem_singleton] at hz'
            rcases hz' with h | rfl
            · exact hS z h
            · exact hz
          · rw [List.length_append, List.length_append, List.length_singleton] at *
            omega
        · have hF : thn n x y ∈ F := by simpa [valD_set (fun _ _ => mvK_inj)] using hk
          exact hs_nil (hs_nil ⟨F, Wk, _, _, _, _, rfl, rfl, hWi.old hy hF, hS, hm2⟩)
      · rintro Δ M ⟨F, Wk, s6, s7, s8, s9, rfl, rfl, hWi, hS, hm2⟩
        exact hs_nil ⟨_, hm2, F, Wk, _, _, _, _, _, rfl, rfl, hWi.done, hS, rfl, by omega⟩
    · have hWk : Wk = [] := by cases Wk <;> simp_all
      subst hWk
      refine hs_cons (ht_ret ((ev_lenMT (ex_ref 3 rfl) (j := 1) rfl m1).to ?_) rfl)
      rw [setD, List.length_map]
      have hperm := reached_perm (univ := allMv n) (mv_nodup h1 h3) hW.nd (fun y => hW.all) fun y hy => hS y (hW.all.mpr hy)
      unfold szI madeL
      rw [hperm.length_eq]
end
end Ck
end Ck24Part

/-! ## Ck25 -/
section Ck25Part
set_option Elab.async false
set_option linter.all false
set_option maxRecDepth 100000
set_option maxHeartbeats 4000000
/-! The law's own defs: circles, price. -/
namespace Ck
open PySem PySem.Spec PyProof.Rows L2 CkM
open PySem.W (EachIs AllAlike Sortable dataLe alike)
local macro_rules | `(tactic| walk_at "nf") => `(tactic| first | dsimp only [wipeS, List.map_cons, List.map_nil, List.set_cons_zero, List.set_cons_succ, List.length_cons, List.length_nil, List.replicate_succ, List.cons_append, List.nil_append, List.replicate_zero, List.append_nil, Nat.reduceSub, Nat.reduceAdd, List.eraseIdx_cons_zero, List.eraseIdx_cons_succ] | simp only [wipeS, List.map_cons, List.map_nil, List.set_cons_zero, List.set_cons_succ, List.length_cons, List.length_nil, List.replicate_succ, List.cons_append, List.nil_append, List.replicate_zero, List.append_nil, Nat.reduceSub, Nat.reduceAdd, List.eraseIdx_cons_zero, List.eraseIdx_cons_succ])
local macro_rules | `(tactic| walk_at "len") => `(tactic| exact small_len (Nat.le_of_ble_eq_true rfl))
local macro_rules | `(tactic| walk_at "ix") => `(tactic| first | exact IxD.tup rfl | exact IxD.lst rfl)
local macro_rules | `(tactic| walk_at "br") => `(tactic| first | exact br_add | exact br_sub | exact br_mul (by first | exact cmul_l (by omega) | exact cmul_r (by omega)) | exact br_mod (by omega) | exact br_fdiv ⟨by omega, by omega⟩)
local macro_rules | `(tactic| walk_at "cr") => `(tactic| first | exact cr_gt | exact cr_lt | exact cr_eqI | exact cr_le | exact cr_ge | exact cr_neI)

/-- the queue before its turn i; within the turn, t steps done -/
structure Qu {α β : Type} (step : α → β → α) (gs : List β) (a : α) (F : List α) (i : Nat) : Prop where
  nd : F.Nodup
  reach : ∀ x ∈ F, Rch step gs a x
  base : a ∈ F
  closed : ∀ j x, j < i → F[j]? = some x → ∀ g ∈ gs, step x g ∈ F
section
variable {α β : Type} {step : α → β → α} {gs : List β} {a x : α} {F : List α} {i t : Nat} {g : β}
theorem Qu.start : Qu step gs a [a] 0 := ⟨by simp, fun x h => by rw [List.mem_singleton] at h; subst h; exact .base, by simp, fun _ _ h => absurd h (Nat.not_lt_zero _)⟩
theorem Qu.add (h : Qu step gs a F i) (hi : i ≤ F.length) (hx : x ∈ F) (hg : g ∈ gs) (hn : step x g ∉ F) : Qu step gs a (F ++ [step x g]) i := ⟨by
  rw [List.nodup_append]
  refine ⟨h.nd, by simp, fun u hu v hv e => ?_⟩
  rw [List.mem_singleton] at hv
  subst e hv
  exact hn hu, fun y hy => by
  rw [List.mem_append, List.mem_singleton] at hy
  rcases hy with hy | rfl
  · exact h.reach y hy
  · exact (h.reach x hx).step hg, List.mem_append_left _ h.base, fun j y hj hy k hk => by
  rw [List.getElem?_append_left (by omega)] at hy
  exact List.mem_append_left _ (h.closed j y hj hy k hk)⟩
theorem Qu.next (h : Qu step gs a F i) (hx : F[i]? = some x) (hs : ∀ g ∈ gs, step x g ∈ F) : Qu step gs a F (i + 1) := ⟨h.nd, h.reach, h.base, fun j y hj hy g hg => by
  by_cases e : j = i
  · subst e
    rw [hx] at hy
    cases hy
    exact hs g hg
  · exact h.closed j y (by omega) hy g hg⟩
theorem Qu.all (h : Qu step gs a F i) (hi : F.length ≤ i) {y : α} : y ∈ F ↔ Rch step gs a y := by
  refine ⟨h.reach y, fun r => ?_⟩
  induction r with
  | base => exact h.base
  | @step x g _ hg ih =>
    obtain ⟨j, hj⟩ := List.mem_iff_getElem?.mp ih
    exact h.closed j x (by have := (List.getElem?_eq_some_iff.mp hj).1; omega) hj g hg
end
theorem pl_alike2 (F : List Pl) : AllAlike (F.map plD) := .of fun b b' => by simp [plD, alike, PySem.W.alikeAll]
theorem pl_sortable2 (F : List Pl) : Sortable (F.map plD) := .tuples fun b => ⟨_, _, rfl⟩
theorem alike_pls : ∀ c c' : List Pl, PySem.W.alikeAll (c.map plD) (c'.map plD) = true
  | [], _ => by simp [PySem.W.alikeAll]
  | _ :: _, [] => by simp [PySem.W.alikeAll]
  | x :: c, y :: c' => by
    rw [List.map_cons, List.map_cons, PySem.W.alikeAll, alike_pls c c']
    simp [plD, alike, PySem.W.alikeAll]
theorem cl_alike (L : List (List Pl)) : AllAlike (L.map clD) := .of fun b b' => by
  unfold clD
  rw [alike]
  exact alike_pls b b'
theorem cl_sortable (L : List (List Pl)) : Sortable (L.map clD) := .others fun b => ⟨fun h => (nomatch h), fun xs h => (nomatch h)⟩
theorem sorted_pls {univ F : List Pl} (hs : univ.Pairwise fun x y => leK (plK y) (plK x) = false) {S : List Pl} (hp : S.Perm F) (hS : S.Sublist univ) : (F.map plD).mergeSort (dataLe false id) = S.map plD := by
  have h1 := msort_univ (key := plK) hs hp hS (fun _ _ => plK_inj)
  have h2 := PySem.W.sort_maps (r := leK) (s := dataLe false id) (l := F.map plK) encK fun _ _ _ _ => rfl
  rw [h1, List.map_map, List.map_map] at h2
  exact h2.symm
noncomputable def lawCircles (n : Nat) (ms : List Mv) : List (List Pl) := (circlesL n ms).mergeSort (dataLe false clD)
theorem law_perm (n : Nat) (ms : List Mv) : (lawCircles n ms).Perm (circlesL n ms) := List.mergeSort_perm _ _
theorem sorted_cls (L : List (List Pl)) : (L.map clD).mergeSort (dataLe false id) = (L.mergeSort (dataLe false clD)).map clD := by
  rw [← PySem.W.sort_maps (r := dataLe false clD) (s := dataLe false id) clD fun _ _ _ _ => rfl]
section
variable {P : Program} {w : World} {K : PySem.W.Frag} {mg : Str → Option Value} {base : Heap}
def RLCircles (S : List Sv) (d : PyData) : Prop := ∃ (n : Nat) (ms : List Mv), S = [.dat (.int n), .dat (.list (ms.map mvD))] ∧ Sd n ms ∧ d = .list ((lawCircles n ms).map clD)

theorem ok_lCircles {f : Addr} {fd : FuncData} {k : Nat} (F : Fun K "_law_circles" "_law_circles" sLCircles f fd) (CL : CalK P w K mg base k "_law_led" pLLed RLed) (m1 : mg "range" = none) (m2 : mg "divmod" = none) (m3 : mg "len" = none) (m4 : mg "sorted" = none) : FnOk P w K mg base CX0 (k + 1) f fd pLCircles (SpD K RLCircles) := by
  refine fn_ok F scLCircles (fun S d h => ?_) fun A hr S d h => ?_
  · obtain ⟨n, ms, rfl, _⟩ := h
    rfl
  · obtain ⟨n, ms, rfl, S, rfl⟩ := h
    have h1 := S.h1
    have h3 := S.h3
    have nd := scLCircles.nd
    have hu := hu_of hr
    have hu64 := hr.units
    have npos : (0 : Int) < n := by omega
    have hnn : n * n ≤ 9 := Nat.mul_le_mul h3 h3
    have hnnI : (n : Int) * (n : Int) = ((n * n : Nat) : Int) := by simp
    walk_at "nf"
    refine hs_cons (ht_newT 2 nd fun o1 => ?_)
    walk_at "nf"
    refine hs_cons (ht_newL 3 nd (ds := []) eas_nil (fun o2 => ?_))
    walk_at "nf"
    refine hs_cons (ht_for (xs := List.range (n * n)) (g := fun (r : Nat) => PyData.int (r : Int)) (fun i Δ M => ∃ s4 s5 s6 s7 s8 s9 F, Δ = [.dat (.int n), .dat (.list (ms.map mvD)), .ref o1, .ref o2, s4, s5, s6, s7, s8, s9] ∧ M = [(o2, .lst ((foundL n ms i).map clD)), (o1, .dT (setD plK F))] ∧ F.Nodup ∧ ∀ q, q ∈ F ↔ q ∈ seenL n ms i) (it_range1 (((ev_bin (ev_v slot0 rfl) (ev_v slot0 rfl) (by walk_at "br"))).to (by rw [hnnI])) (by omega) m1) ⟨.non, .non, .non, .non, .non, .non, [], rfl, rfl, List.nodup_nil, fun q => by simp [seenL]⟩ ?_ ?_)
    · rintro i y Δ M hy ⟨s4, s5, s6, s7, s8, s9, F, rfl, rfl, hFn, hF⟩
      have hi : i < n * n := by have := (List.getElem?_eq_some_iff.mp hy).1; rwa [List.length_range] at this
      have ey : y = i := by rw [List.getElem?_range hi] at hy; exact (Option.some.inj hy).symm
      subst ey
      have hk : (allPl n)[y]? = some (((y / n : Nat) : Int), ((y % n : Nat) : Int)) := by
        have h0 : 0 < n := by omega
        have := allPl_get (n := n) (i := y / n) (j := y % n) (Nat.div_lt_of_lt_mul hi) (Nat.mod_lt _ h0)
        have e : y / n * n + y % n = y := by rw [Nat.mul_comm]; exact Nat.div_add_mod y n
        rwa [e] at this
      have hcast : PyData.tuple [.int ((y : Int) / (n : Int)), .int ((y : Int) % (n : Int))] = plD (((y / n : Nat) : Int), ((y % n : Nat) : Int)) := by
        show PyData.tuple _ = PyData.tuple _
        rw [Int.natCast_ediv, Int.natCast_emod]
      generalize (((y / n : Nat) : Int), ((y % n : Nat) : Int)) = p at *
      have hp : p ∈ allPl n := List.mem_of_getElem? hk
      refine ⟨_, _, tg_name 4 nd, ?_⟩
      walk_at "nf"
      refine hs_cons (ht_set 5 nd (d := plD p) ((ev_divmod (ea_cons (ev_v slot4 rfl) (ea_cons (ev_v slot0 rfl) ea_nil)) ⟨by omega, by omega⟩ m2).to hcast) ?_)
      walk_at "nf"
      have hfl : (foundL n ms y).length ≤ 9 := by
        unfold foundL
        rw [List.length_map]
        have := List.length_filter_le (isFirst n ms) ((allPl n).take y)
        rw [List.length_take] at this
        omega
      refine hs_cons (ht_if (et_ninT hu (ks := plK p) (ev_v slot5 rfl) (ex_ref 2 rfl) (j := 1) rfl) (fun hb => ?_) (fun hb => hs_nil (hs_nil ?_)))
      · have hpF : p ∉ F := by simpa [valD_set (fun _ _ => plK_inj)] using hb
        have hfirst := (seen_iff S hk).mp (fun z => hpF ((hF p).mpr z))
        have hdis : ∀ q ∈ orbit n ms p, q ∉ F := fun q hq z => by
          obtain ⟨t, ht⟩ := List.mem_iff_getElem?.mp hq
          exact new_place S hk hfirst ht (List.mem_append_left _ ((hF q).mp z))
        have hpl : ∀ sp : List Pl, sp.Nodup → (∀ q ∈ sp, q ∈ orbit n ms p) → (F ++ sp).length ≤ 9 := fun sp h1' h2' => by
          have : (F ++ sp).Nodup := by
            rw [List.nodup_append]
            exact ⟨hFn, h1', fun a ha b hb e => hdis b (h2' b hb) (e ▸ ha)⟩
          have := this.length_le_of_subset (l₂ := allPl n) fun z hz => by
            rcases List.mem_append.mp hz with h | h
            · exact seen_sub S z ((hF z).mp h)
            · exact orbit_sub (h2' z h)
          rw [len_pl] at this
          omega
        refine hs_cons (ht_newL 6 nd (ds := [plD p]) (eas_cons (ev_v slot5 rfl) eas_nil (by intro _; rfl)) (fun o3 => ?_))
        walk_at "nf"
        have hF9 := hpl [] List.nodup_nil (fun q h => nomatch h)
        rw [List.append_nil] at hF9
        refine hs_cons (ht_putT 2 hu ev_bl (ex_ref 2 rfl) rfl (ks := plK p) (ev_v slot5 rfl) (by rw [setD, List.length_map]; omega) ?_)
        walk_at "nf"
        rw [putD_set (fun _ _ => plK_inj) hpF]
        refine hs_cons (ht_set 7 nd ev_int ?_)
        walk_at "nf"
        refine hs_cons (ht_while (fun m Δ M => ∃ (at_ : Nat) (sp : List Pl) (s8 s9 : Sv), Δ = [.dat (.int n), .dat (.list (ms.map mvD)), .ref o1, .ref o2, .dat (.int (y : Int)), .dat (plD p), .ref o3, .dat (.int (at_ : Int)), s8, s9] ∧ M = [(o3, .lst (sp.map plD)), (o2, .lst ((foundL n ms y).map clD)), (o1, .dT (setD plK (F ++ sp)))] ∧ Qu (stepP n) ms p sp at_ ∧ at_ ≤ sp.length ∧ m = 9 - at_) 9 ⟨0, [p], s8, s9, rfl, rfl, .start, Nat.zero_le _, rfl⟩ ?_)
        rintro m Δ M ⟨at_, sp, s8, s9, rfl, rfl, hQ, hat, rfl⟩
        have hspo : ∀ q ∈ sp, q ∈ orbit n ms p := fun q hq => (mem_orbit S hp).mpr (hQ.reach q hq)
        have hspl := hpl sp hQ.nd hspo
        rw [List.length_append] at hspl
        refine ⟨_, et_cmp (ev_v slot7 rfl) ((ev_lenM (ex_ref 6 rfl) (j := 0) rfl m3).to (by rw [List.length_map])) cr_lt, fun hb => ?_, fun hb => ?_⟩
        · have hlt : at_ < sp.length := by have := of_decide_eq_true hb; omega
          obtain ⟨x, hx⟩ : ∃ x, sp[at_]? = some x := ⟨_, List.getElem?_eq_getElem hlt⟩
          refine hs_cons (ht_for (xs := ms) (g := mvD) (fun i Δ M => ∃ sp s8 s9, Δ = [.dat (.int n), .dat (.list (ms.map mvD)), .ref o1, .ref o2, .dat (.int (y : Int)), .dat (plD p), .ref o3, .dat (.int (at_ : Int)), s8, s9] ∧ M = [(o3, .lst (sp.map plD)), (o2, .lst ((foundL n ms y).map clD)), (o1, .dT (setD plK (F ++ sp)))] ∧ Qu (stepP n) ms p sp at_ ∧ sp[at_]? = some x ∧ ∀ g ∈ ms.take i, stepP n x g ∈ sp) (it_list (ev_v slot1 rfl)) ⟨sp, s8, s9, rfl, rfl, hQ, hx, fun g hg => by rw [List.take_zero] at hg; cases hg⟩ ?_ ?_)
          · rintro i g Δ M hg ⟨sp, s8, s9, rfl, rfl, hQ, hx, hdone⟩
            have hspo : ∀ q ∈ sp, q ∈ orbit n ms p := fun q hq => (mem_orbit S hp).mpr (hQ.reach q hq)
            have hspl := hpl sp hQ.nd hspo
            have hxs : x ∈ sp := List.mem_of_getElem? hx
            have hgm : g ∈ ms := List.mem_of_getElem? hg
            have hgo : CkM.led n g x ∈ orbit n ms p := (mem_orbit S hp).mpr ((hQ.reach x hxs).step hgm)
            refine ⟨_, _, tg_name 8 nd, ?_⟩
            walk_at "nf"
            have hlt2 : at_ < sp.length := (List.getElem?_eq_some_iff.mp hx).1
            refine hs_cons (ht_set 9 nd (ev_call (k := k) CL hr (ea_cons (ev_v slot0 rfl) (ea_cons (ev_v slot8 rfl) (ea_cons (ev_ixM (ex_ref 6 rfl) (j := 0) rfl (ev_v slot7 rfl) (d := plD x) (by rw [atI_nat (by rw [List.length_map]; exact hlt2), List.getElem?_map, hx]; rfl)) ea_nil))) ⟨n, g, x, rfl, npos, rfl⟩) ?_)
            walk_at "nf"
            refine hs_cons (ht_if (et_ninT hu (ks := plK (CkM.led n g x)) (ev_v slot9 rfl) (ex_ref 2 rfl) (j := 2) rfl) (fun hk2 => ?_) (fun hk2 => hs_nil (hs_nil ?_)))
            · have hnF : CkM.led n g x ∉ F ++ sp := by simpa [valD_set (fun _ _ => plK_inj)] using hk2
              have hns : CkM.led n g x ∉ sp := fun z => hnF (List.mem_append_right _ z)
              refine hs_cons (ht_putT 2 hu ev_bl (ex_ref 2 rfl) rfl (ks := plK (CkM.led n g x)) (ev_v slot9 rfl) (by rw [setD, List.length_map]; omega) ?_)
              walk_at "nf"
              rw [putD_set (fun _ _ => plK_inj) hnF]
              rw [List.length_append] at hspl
              refine hs_cons (ht_app 0 (ex_ref 6 rfl) rfl (ev_v slot9 rfl) (by rw [List.length_map]; omega) ?_)
              walk_at "nf"
              refine hs_nil (hs_nil ⟨sp ++ [CkM.led n g x], _, _, rfl, by rw [List.map_append, List.append_assoc]; rfl, hQ.add (by omega) hxs hgm hns, by rw [List.getElem?_append_left hlt2]; exact hx, fun g' hg' => ?_⟩)
              rw [take_succ' hg, List.mem_append, List.mem_singleton] at hg'
              rcases hg' with h | rfl
              · exact List.mem_append_left _ (hdone g' h)
              · exact List.mem_append_right _ (by simp)
            · have hin : CkM.led n g x ∈ sp := by
                have := hk2
                rw [valD_set (fun _ _ => plK_inj)] at this
                have this : ¬ CkM.led n g x ∈ F → CkM.led n g x ∈ sp := by simpa using this
                exact this (hdis _ hgo)
              refine ⟨sp, _, _, rfl, rfl, hQ, hx, fun g' hg' => ?_⟩
              rw [take_succ' hg, List.mem_append, List.mem_singleton] at hg'
              rcases hg' with h | rfl
              · exact hdone g' h
              · exact hin
          · rintro Δ M ⟨sp, s8, s9, rfl, rfl, hQ, hx, hdone⟩
            rw [List.take_length] at hdone
            have hlt2 : at_ < sp.length := (List.getElem?_eq_some_iff.mp hx).1
            have hspl2 := hpl sp hQ.nd fun q hq => (mem_orbit S hp).mpr (hQ.reach q hq)
            rw [List.length_append] at hspl2
            refine hs_cons (ht_set 7 nd (d := .int ((at_ + 1 : Nat) : Int)) (((ev_bin (ev_v slot7 rfl) ev_int (by walk_at "br"))).to (by rw [Int.natCast_add]; rfl)) ?_)
            walk_at "nf"
            exact hs_nil ⟨9 - (at_ + 1), by omega, at_ + 1, sp, _, _, rfl, rfl, hQ.next hx hdone, hlt2, rfl⟩
        · have hge : sp.length ≤ at_ := by have := of_decide_eq_false hb; omega
          have hall : ∀ q, q ∈ sp ↔ Rch (stepP n) ms p q := fun q => hQ.all hge
          have hperm : (orbit n ms p).Perm sp := reached_perm (pl_nodup h1 h3) hQ.nd hall fun y hy => S.mem hp hy
          refine hs_freeze 6 0 rfl rfl ?_
          walk_at "nf"
          refine hs_cons (ht_app 0 (ex_ref 3 rfl) rfl (d := clD (orbit n ms p)) ((ev_sortedL (ds := sp.map plD) hu64 (ev_v slot6 rfl) (pl_alike2 sp) (pl_sortable2 sp) (fun d hd => ?_) m4).to (congrArg PyData.list (sorted_pls (pl_sorted n h1 h3) hperm List.filter_sublist))) (by rw [List.length_map]; omega) ?_)
          · obtain ⟨q, _, rfl⟩ := List.mem_map.mp hd
            have := okD_lay 7 (plD q) rfl
            exact ⟨this.1, by omega⟩
          · walk_at "nf"
            refine hs_nil (hs_nil ⟨_, _, _, _, _, _, F ++ sp, rfl, ?_, ?_, fun q => ?_⟩)
            · rw [found_more hk hfirst, List.map_append]
              rfl
            · rw [List.nodup_append]
              exact ⟨hFn, hQ.nd, fun a ha b hb e => hdis b (hspo b hb) (e ▸ ha)⟩
            · rw [seen_more hk hfirst, List.mem_append, List.mem_append, hF q, hall q, ← mem_orbit S hp]
      · have hpF : p ∈ F := by simpa [valD_set (fun _ _ => plK_inj)] using hb
        have hfirst : ¬ isFirst n ms p = true := fun z => (seen_iff S hk).mpr z ((hF p).mp hpF)
        refine ⟨_, _, _, _, _, _, F, rfl, ?_, hFn, fun q => ?_⟩
        · rw [found_same hk hfirst]
        · rw [seen_same hk hfirst]; exact hF q
    · rintro Δ M ⟨s4, s5, s6, s7, s8, s9, F, rfl, rfl, hFn, hF⟩
      rw [List.length_range, found_all (by rw [len_pl]; exact Nat.le_refl _)]
      refine hs_freeze 3 0 rfl rfl ?_
      walk_at "nf"
      refine hs_cons (ht_ret ((ev_sortedL (ds := (circlesL n ms).map clD) hu64 (ev_v slot3 rfl) (cl_alike _) (cl_sortable _) (fun d hd => ?_) m4).to (congrArg PyData.list (sorted_cls _))) rfl)
      obtain ⟨c, _, rfl⟩ := List.mem_map.mp hd
      have := okD_lay 8 (clD c) (by show okL 7 _ = true; exact ok_pls c)
      exact ⟨this.1, by omega⟩
def RPrice (S : List Sv) (d : PyData) : Prop := ∃ (n : Nat) (κ : Col) (ms : List Mv), S = [.dat (cpD n κ), .dat (.list (ms.map mvD))] ∧ Sd n ms ∧ d = .int (chI n κ ms)
theorem sum_len (L : List (List Pl)) (κ : Col) : (L.map fun c => ((c.length : Int) - (mostN κ c : Int))).sum = (L.flatten.length : Int) - (L.map fun c => (mostN κ c : Int)).sum := by
  induction L with
  | nil => rfl
  | cons c L ih =>
    rw [List.map_cons, List.sum_cons, ih, List.flatten_cons, List.length_append, List.map_cons, List.sum_cons, Int.natCast_add]
    omega
theorem perm_sum {l m : List Int} (h : l.Perm m) : l.sum = m.sum := by
  induction h with
  | nil => rfl
  | cons a _ ih => rw [List.sum_cons, List.sum_cons, ih]
  | swap a b l => rw [List.sum_cons, List.sum_cons, List.sum_cons, List.sum_cons]; omega
  | trans _ _ h1 h2 => exact h1.trans h2
theorem price_sum {n : Nat} {ms : List Mv} (S : Sd n ms) (κ : Col) : ((lawCircles n ms).map fun c => ((c.length : Int) - (mostN κ c : Int))).sum = chI n κ ms := by
  rw [perm_sum ((law_perm n ms).map _), sum_len, circles_flat_len S]
  unfold chI
  simp

theorem ok_lPrice {f : Addr} {fd : FuncData} {k : Nat} (F : Fun K "_law_price" "_law_price" sLPrice f fd) (CC : CalK P w K mg base k "_law_circles" pLCircles RLCircles) (CH : CalK P w K mg base k "_law_had" pLHad RLHad) (m1 : mg "len" = none) (m2 : mg "max" = none) (m3 : mg "list" = none) : FnOk P w K mg base CX0 (k + 1) f fd pLPrice (SpD K RPrice) := by
  refine fn_ok F scLPrice (fun S d h => ?_) fun A hr S d h => ?_
  · obtain ⟨n, κ, ms, rfl, _⟩ := h
    rfl
  · obtain ⟨n, κ, ms, rfl, S, rfl⟩ := h
    have h3 := S.h3
    have nd := scLPrice.nd
    walk_at "nf"
    refine hs_cons (ht_set 2 nd ev_int ?_)
    walk_at "nf"
    refine hs_cons (ht_for (xs := lawCircles n ms) (g := clD) (fun i Δ M => ∃ s3, Δ = [.dat (cpD n κ), .dat (.list (ms.map mvD)), .dat (.int ((((lawCircles n ms).take i).map fun c => ((c.length : Int) - (mostN κ c : Int))).sum)), s3] ∧ M = []) (it_list (ev_call (k := k) CC hr (ea_cons (ev_lenC (ev_v slot0 rfl) m1) (ea_cons (ev_v slot1 rfl) ea_nil)) ⟨n, ms, rfl, S, rfl⟩)) ⟨.non, rfl, rfl⟩ ?_ ?_)
    · rintro i c Δ M hc ⟨s3, rfl, rfl⟩
      have hcm : c ∈ circlesL n ms := (law_perm n ms).mem_iff.mp (List.mem_of_getElem? hc)
      have hne := circle_ne S hcm
      refine ⟨_, _, tg_name 3 nd, ?_⟩
      walk_at "nf"
      have hpos : 0 < (hadI (hadF κ c)).length := by rw [hadI, List.length_map]; exact hadF_ne κ hne
      refine hs_cons (ht_set 2 nd (ev_bin (ev_bin (ev_v slot2 rfl) ((ev_lenL (ds := c.map plD) (ev_v slot3 rfl) m1).to (by rw [List.length_map])) br_add) (ev_maxListValues (kvs := hadI (hadF κ c)) (mx := mostN κ c) (ev_call (k := k) CH hr (ea_cons (ev_v slot0 rfl) (ea_cons (ev_v slot3 rfl) ea_nil)) ⟨n, κ, c, rfl, h3, circle_sub S hcm, circle_len S hcm, rfl⟩) hpos (fun m h1 h2 => ?_) m2 m3) br_sub) ?_)
      · rw [hadI, List.map_map] at h1 h2
        obtain ⟨kv, k1, rfl⟩ := List.mem_map.mp h1
        have : kv.2 = mostN κ c := maxN_unique (List.mem_map.mpr ⟨kv, k1, rfl⟩) fun y hy => by
          obtain ⟨kv2, k2, rfl⟩ := List.mem_map.mp hy
          have := h2 _ (List.mem_map.mpr ⟨kv2, k2, rfl⟩)
          exact Int.ofNat_le.mp this
        exact congrArg _ this
      · walk_at "nf"
        have e : (((lawCircles n ms).take i).map fun c => ((c.length : Int) - (mostN κ c : Int))).sum + (c.length : Int) - (mostN κ c : Int) = (((lawCircles n ms).take (i + 1)).map fun c => ((c.length : Int) - (mostN κ c : Int))).sum := by
          rw [take_succ' hc, List.map_append, List.sum_append]
          simp only [List.map_cons, List.map_nil, List.sum_cons, List.sum_nil]
          omega
        rw [e]
        exact hs_nil ⟨_, rfl, rfl⟩
    · rintro Δ M ⟨s3, rfl, rfl⟩
      rw [List.take_length, price_sum S]
      exact hs_cons (ht_ret (ev_v slot2 rfl) rfl)
end
end Ck
end Ck25Part

/-! ## Ck26 -/
section Ck26Part
set_option Elab.async false
set_option linter.all false
set_option maxRecDepth 100000
set_option maxHeartbeats 4000000
/-! The law's own defs: told_well. -/
namespace Ck
open PySem PySem.Spec PyProof.Rows L2 CkM
local macro_rules | `(tactic| walk_at "nf") => `(tactic| first | dsimp only [wipeS, List.map_cons, List.map_nil, List.set_cons_zero, List.set_cons_succ, List.length_cons, List.length_nil, List.replicate_succ, List.cons_append, List.nil_append, List.replicate_zero, List.append_nil, Nat.reduceSub, Nat.reduceAdd, List.eraseIdx_cons_zero, List.eraseIdx_cons_succ] | simp only [wipeS, List.map_cons, List.map_nil, List.set_cons_zero, List.set_cons_succ, List.length_cons, List.length_nil, List.replicate_succ, List.cons_append, List.nil_append, List.replicate_zero, List.append_nil, Nat.reduceSub, Nat.reduceAdd, List.eraseIdx_cons_zero, List.eraseIdx_cons_succ])
local macro_rules | `(tactic| walk_at "len") => `(tactic| exact small_len (Nat.le_of_ble_eq_true rfl))
local macro_rules | `(tactic| walk_at "ix") => `(tactic| first | exact IxD.tup rfl | exact IxD.lst rfl)
local macro_rules | `(tactic| walk_at "br") => `(tactic| first | exact br_add | exact br_sub | exact br_mul (by first | exact cmul_l (by omega) | exact cmul_r (by omega)) | exact br_mod (by omega) | exact br_fdiv ⟨by omega, by omega⟩)
local macro_rules | `(tactic| walk_at "cr") => `(tactic| first | exact cr_gt | exact cr_lt | exact cr_eqI | exact cr_le | exact cr_ge | exact cr_neI)

theorem allPl_eq {n : Nat} (h1 : 1 ≤ n) (h3 : n ≤ 3) : allPl n = (List.range (n * n)).map fun (k : Nat) => ((k : Int) / (n : Int), (k : Int) % (n : Int)) := by
  have : n = 1 ∨ n = 2 ∨ n = 3 := by omega
  rcases this with rfl | rfl | rfl <;> decide +kernel
noncomputable def fndD (n : Nat) (κ : Col) (b : Best) : PyData := .tuple [grpD b.2.2, .int b.1, mendD n κ b.2.2]
theorem betD_eq (n : Nat) (κ : Col) (most : Int) : betD n κ most = fndD n κ (bestL n κ most) := rfl
structure Told (n : Nat) (κ : Col) (most : Int) (b : Best) : Prop where
  len : b.2.2.length ≤ 4
  sd : Sd n b.2.2
  few : ((chg n κ (mend n κ b.2.2)).length : Int) ≤ most
  sz : b.1 = szI n b.2.2
  inv : ∀ m ∈ b.2.2, cpD n (colOf (prsM n (mend n κ b.2.2) m (n * n))) = cpD n (mend n κ b.2.2)
theorem ok_row {n : Nat} {κ : Col} (h : okC κ) (r : Int) : PyData.strOk (rowS n κ r) = true := by
  have hc : ∀ p, κ p < 0x110000 := fun p => by
    have := h p
    unfold PyData.strOk chS at this
    simpa using this
  unfold PyData.strOk rowS
  simp only [List.all_toArray, List.all_map, List.all_eq_true, Function.comp_apply, decide_eq_true_eq]
  intro x _
  exact hc _
theorem ok_cp {n : Nat} {κ : Col} (h : okC κ) : okD 7 (cpD n κ) = true := by
  show okL 6 _ = true
  rw [okL_iff]
  intro x hx
  obtain ⟨r, _, rfl⟩ := List.mem_map.mp hx
  rw [okD]
  exact ok_row h _
theorem ok_mendD {n : Nat} {κ : Col} {ms : List Mv} (S : Sd n ms) (h : okC κ) : okD 8 (mendD n κ ms) = true := by
  have hp := paper_ok S h
  show okL 7 _ = true
  rw [okL_iff]
  intro x hx
  simp only [List.mem_cons, List.not_mem_nil, or_false] at hx
  rcases hx with rfl | rfl | rfl
  · exact ok_cp hp.ok
  · exact okD_mono (k := 2) (by decide) (by show okL 1 _ = true; rw [okL_iff]; intro x hx; obtain ⟨p, _, rfl⟩ := List.mem_map.mp hx; rfl)
  · show okL 6 _ = true
    rw [okL_iff]
    intro x hx
    obtain ⟨t, ht, rfl⟩ := List.mem_map.mp hx
    show okL 5 _ = true
    rw [okL_iff]
    intro x hx
    simp only [List.mem_cons, List.not_mem_nil, or_false] at hx
    rcases hx with rfl | rfl | rfl
    · exact okD_mono (k := 2) (by decide) (by show okL 1 _ = true; rw [okL_iff]; intro x hx; obtain ⟨p, _, rfl⟩ := List.mem_map.mp hx; rfl)
    · show PyData.strOk (chS t.2.1) = true
      obtain ⟨c, hc, rfl⟩ := List.mem_map.mp ht
      obtain ⟨y, _, hy⟩ := maxKeys_from (topC_mem (κ := κ) (circle_ne S hc))
      show PyData.strOk (chS (topC κ c)) = true
      rw [← hy]
      exact h y
    · rfl
section
variable {P : Program} {w : World} {K : PySem.W.Frag} {mg : Str → Option Value} {base : Heap}
def RTold (S : List Sv) (d : PyData) : Prop := ∃ (n : Nat) (κ : Col) (most : Int) (b : Best), S = [.dat (fndD n κ b), .dat (cpD n κ), .dat (.int most), .dat (dictT tabL)] ∧ 1 ≤ n ∧ n ≤ 3 ∧ okC κ ∧ Told n κ most b ∧ d = .bool true

theorem ok_lToldWell {f : Addr} {fd : FuncData} {k : Nat} (F : Fun K "_law_told_well" "_law_told_well" sLToldWell f fd) (CW : CalK P w K mg base k "_law_whole" pLWhole RWhole) (CI : CalK P w K mg base k "_law_is_movement" pLIsMovement RIsMovement) (CS : CalK P w K mg base k "_law_size" pLSize RSize) (CM : CalK P w K mg base k "mended" pMended RMended) (CV : CalK P w K mg base k "_law_moved" pLMoved RMoved)
    (m1 : mg "len" = none) (m2 : mg "isinstance" = none) (m3 : mg "tuple" = none) (m4 : mg "list" = none) (m5 : mg "range" = none) (m6 : mg "divmod" = none) : FnOk P w K mg base CX0 (k + 1) f fd pLToldWell (SpD K RTold) := by
  refine fn_ok F scLToldWell (fun S d h => ?_) fun A hr S d h => ?_
  · obtain ⟨n, κ, most, b, rfl, _⟩ := h
    rfl
  · obtain ⟨n, κ, most, b, rfl, h1, h3, hok, T, rfl⟩ := h
    have nd := scLToldWell.nd
    have hu64 := hr.units
    have S := T.sd
    have npos : (0 : Int) < n := by omega
    have hnn : n * n ≤ 9 := Nat.mul_le_mul h3 h3
    have hnnI : (n : Int) * (n : Int) = ((n * n : Nat) : Int) := by simp
    have hokm := (paper_ok S hok).ok
    obtain ⟨bs, bc, few⟩ := b
    walk_at "nf"
    refine hs_cons (ht_set 4 nd (ev_lenC (ev_v slot1 rfl) m1) ?_)
    walk_at "nf"
    have hf0 : ∀ {U : Vw} {Δ : List Sv} {M : MS} {a : Expr} {pos p : Pos}, EvD U a Δ M (fndD n κ (bs, bc, few)) → EvD U (.Subscript a (.Constant (.int 0) 0 p) pos) Δ M (.list (few.map mvD)) := fun h => ev_ix h ev_int (IxD.tup rfl)
    have hf2 : ∀ {U : Vw} {Δ : List Sv} {M : MS} {a : Expr} {pos p : Pos}, EvD U a Δ M (fndD n κ (bs, bc, few)) → EvD U (.Subscript a (.Constant (.int 2) 0 p) pos) Δ M (mendD n κ few) := fun h => ev_ix h ev_int (IxD.tup rfl)
    refine hs_cons (ht_if (k := false) (et_w (ew_or (k := false) (l := false) (et_not (k := true) (et_val (ev_isi (T := "tuple") (T' := "tuple") (k := true) (ev_v slot0 rfl) (.tup _) (by decide +kernel) (by decide +kernel) m2 m3))) fun _ => ew_or (k := false) (l := false) (EvT.to (et_cmp (ev_lenT (ds := [grpD few, .int bs, mendD n κ few]) (ev_v slot0 rfl) m1) ev_int cr_neI) rfl) fun _ => ew_or (k := false) (l := false) (et_not (k := true) (et_val (ev_isi (T := "list") (T' := "list") (k := true) (hf0 (ev_v slot0 rfl)) (.lst _) (by decide +kernel) (by decide +kernel) m2 m4))) fun _ => ew_or1 (k := false) (et_not (k := true) (et_val (ev_call (k := k) CW hr (ea_cons (ev_ix (ev_v slot0 rfl) ev_int (by walk_at "ix")) ea_nil) ⟨bs, rfl, rfl⟩))))) (fun h => nomatch h) (fun _ => hs_nil ?_))
    have hnone : ∀ (p : Mv → Bool), (∀ m ∈ few, p m = false) → few.filter p = [] := fun p hp => by
      rw [List.filter_eq_nil_iff]
      intro m hm e
      rw [hp m hm] at e
      cases e
    have hfl : few.length < sizeLine := Nat.lt_of_le_of_lt T.len (by decide)
    refine hs_cons (ht_if (k := false) (et_w (ew_or (k := false) (l := false) (EvT.to (et_cmp (ev_lenL (ds := few.map mvD) (hf0 (ev_v slot0 rfl)) m1) ev_int cr_gt) ?_) fun _ => ew_or1 (k := false) (et_cmp (da := .list []) (db := .list []) (EvD.to (ev_lc [("_law_one", 5)] (xs := few) (g := mvD) mvD (fun _ => false) nd (by dsimp only [vwOf]; decide +kernel) (it_list (hf0 (ev_v slot0 rfl))) hfl fun i m hm => ?_) (by rw [hnone _ fun _ _ => rfl]; rfl)) (ev_lst (ds := []) eas_nil (by walk_at "len")) (cr_neP hu64 rfl rfl (by simp))))) (fun h => nomatch h) (fun _ => hs_nil ?_))
    · rw [List.length_map]
      have := T.len
      exact decide_eq_false (by have : few.length ≤ 4 := T.len; omega)
    · have hmm := S.hm m (List.mem_of_getElem? hm)
      refine ⟨_, _, tg_name 5 nd, fun i hi => hi, ?_⟩
      walk_at "nf"
      exact ⟨ets_one (et_not (k := true) (et_val (ev_call (k := k) CI hr (ea_cons (ev_v slot4 rfl) (ea_cons (ev_v slot5 rfl) ea_nil)) ⟨n, m, rfl, h1, h3, hmm, rfl⟩))), fun h => nomatch h⟩
    refine hs_cons (ht_if (k := false) (et_w (ew_or (k := false) (l := false) (et_not (k := true) (et_val (ev_isi (T := "tuple") (T' := "tuple") (k := true) (hf2 (ev_v slot0 rfl)) (.tup _) (by decide +kernel) (by decide +kernel) m2 m3))) fun _ => ew_or1 (k := false) (EvT.to (et_cmp (ev_lenT (ds := [cpD n (mend n κ few), clD (chg n κ (mend n κ few)), ppD (paperOf n κ few)]) (hf2 (ev_v slot0 rfl)) m1) ev_int cr_neI) rfl))) (fun h => nomatch h) (fun _ => hs_nil ?_))
    refine hs_cons (ht_set 6 nd (d := cpD n (mend n κ few)) (ev_ix (hf2 (ev_v slot0 rfl)) ev_int (IxD.tup rfl)) ?_)
    walk_at "nf"
    refine hs_cons (ht_setLc 7 [("_law_k", 8)] (xs := List.range (n * n)) (g := fun (k : Nat) => PyData.int (k : Int)) (fun (k : Nat) => plD ((k : Int) / (n : Int), (k : Int) % (n : Int))) (fun (k : Nat) => decide (mend n κ few ((k : Int) / (n : Int), (k : Int) % (n : Int)) ≠ κ ((k : Int) / (n : Int), (k : Int) % (n : Int)))) nd (by dsimp only [vwOf]; decide +kernel) (it_range1 (((ev_bin (ev_v slot4 rfl) (ev_v slot4 rfl) (by walk_at "br"))).to (by rw [hnnI])) (by omega) m5) (by rw [List.length_range]; exact Nat.lt_of_le_of_lt hnn (by decide)) (fun i c hc => ?_) ?_)
    · have hcn : c < n * n := List.mem_range.mp (List.mem_of_getElem? hc)
      have hp : ((c : Int) / (n : Int), (c : Int) % (n : Int)) ∈ allPl n := by
        rw [allPl_eq h1 h3]
        exact List.mem_map.mpr ⟨c, List.mem_range.mpr hcn, rfl⟩
      refine ⟨_, _, tg_name 8 nd, fun i hi => hi, ?_⟩
      walk_at "nf"
      refine ⟨ets_one (et_cmp (ev_cell (q := ((c : Int) / (n : Int), (c : Int) % (n : Int))) h3 (ev_v slot6 rfl) (ev_bin (ev_v slot8 rfl) (ev_v slot4 rfl) (by walk_at "br")) (ev_bin (ev_v slot8 rfl) (ev_v slot4 rfl) (by walk_at "br")) hp) (ev_cell (q := ((c : Int) / (n : Int), (c : Int) % (n : Int))) h3 (ev_v slot1 rfl) (ev_bin (ev_v slot8 rfl) (ev_v slot4 rfl) (by walk_at "br")) (ev_bin (ev_v slot8 rfl) (ev_v slot4 rfl) (by walk_at "br")) hp) (CmpR.to cr_neS ?_)), fun _ => ev_divmod (ea_cons (ev_v slot8 rfl) (ea_cons (ev_v slot4 rfl) ea_nil)) ⟨by omega, by omega⟩ m6⟩
      by_cases h : mend n κ few ((c : Int) / (n : Int), (c : Int) % (n : Int)) = κ ((c : Int) / (n : Int), (c : Int) % (n : Int))
      · simp [h]
      · have : ¬ chS (mend n κ few ((c : Int) / (n : Int), (c : Int) % (n : Int))) = chS (κ ((c : Int) / (n : Int), (c : Int) % (n : Int))) := fun z => h (chS_inj z)
        simp [h, this]
    have espots : PyData.list (((List.range (n * n)).filter fun (k : Nat) => decide (mend n κ few ((k : Int) / (n : Int), (k : Int) % (n : Int)) ≠ κ ((k : Int) / (n : Int), (k : Int) % (n : Int)))).map fun (k : Nat) => plD ((k : Int) / (n : Int), (k : Int) % (n : Int))) = clD (chg n κ (mend n κ few)) := by
      unfold clD chg
      rw [allPl_eq h1 h3, List.filter_map, List.map_map]
      rfl
    walk_at "nf"
    rw [espots]
    have hokc : okD 8 (clD (chg n κ (mend n κ few))) = true := by show okL 7 _ = true; exact ok_pls _
    refine hs_cons (ht_if (k := false) (et_w (ew_or (k := false) (l := false) (et_cmp (da := clD (chg n κ (mend n κ few))) (db := clD (chg n κ (mend n κ few))) (ev_ix (hf2 (ev_v slot0 rfl)) ev_int (IxD.tup rfl)) (ev_v slot7 rfl) (cr_neP hu64 hokc hokc (by simp))) fun _ => ew_or (k := false) (l := false) (EvT.to (et_cmp (ev_lenL (ds := (chg n κ (mend n κ few)).map plD) (ev_v slot7 rfl) m1) (ev_v slot2 rfl) cr_gt) ?_) fun _ => ew_or1 (k := false) (EvT.to (et_cmp (ev_ix (ev_v slot0 rfl) ev_int (by walk_at "ix")) (ev_call (k := k) CS hr (ea_cons (ev_v slot4 rfl) (ea_cons (hf0 (ev_v slot0 rfl)) (ea_cons (ev_v slot3 rfl) ea_nil))) ⟨n, few, rfl, h1, h3, rfl⟩) cr_neI) ?_))) (fun h => nomatch h) (fun _ => hs_nil ?_))
    · rw [List.length_map]
      have := T.few
      exact decide_eq_false (by have : ((chg n κ (mend n κ few)).length : Int) ≤ most := T.few; omega)
    · have : bs = szI n few := T.sz
      rw [this]
      simp
    refine hs_cons (ht_if (k := false) (et_cmp (da := mendD n κ few) (db := mendD n κ few) (hf2 (ev_v slot0 rfl)) (ev_call (k := k) CM hr (ea_cons (ev_v slot1 rfl) (ea_cons (ev_listL (hf0 (ev_v slot0 rfl)) m4) ea_nil)) ⟨n, κ, few, rfl, S, hok, rfl⟩) (cr_neP hu64 (ok_mendD S hok) (ok_mendD S hok) (by simp))) (fun h => nomatch h) (fun _ => hs_nil ?_))
    refine hs_cons (ht_ret (ev_cmp (k := true) (da := .list []) (db := .list []) (EvD.to (ev_lc [("_law_one", 5)] (xs := few) (g := mvD) mvD (fun _ => false) nd (by dsimp only [vwOf]; decide +kernel) (it_list (hf0 (ev_v slot0 rfl))) hfl fun i m hm => ?_) (by rw [hnone _ fun _ _ => rfl]; rfl)) (ev_lst (ds := []) eas_nil (by walk_at "len")) (cr_eqP hu64 rfl rfl (by simp))) rfl)
    have hm := List.mem_of_getElem? hm
    have hmm := S.hm m hm
    have hinv := T.inv m hm
    refine ⟨_, _, tg_name 5 nd, fun i hi => hi, ?_⟩
    walk_at "nf"
    exact ⟨ets_one (et_cmp (da := cpD n (mend n κ few)) (db := cpD n (mend n κ few)) ((ev_call (k := k) CV hr (ea_cons (ev_v slot6 rfl) (ea_cons (ev_v slot5 rfl) ea_nil)) ⟨n, mend n κ few, m, rfl, h1, h3, hmm, rfl⟩).to hinv) (ev_v slot6 rfl) (cr_neP hu64 (okD_mono (by decide) (ok_cp hokm)) (okD_mono (by decide) (ok_cp hokm)) (by simp))), fun h => nomatch h⟩
end
end Ck
end Ck26Part

/-! ## Ck27 -/
section Ck27Part
set_option Elab.async false
set_option linter.all false
set_option maxRecDepth 100000
set_option maxHeartbeats 4000000
/-! The law's own defs: again. -/
namespace Ck
open PySem PySem.Spec PyProof.Rows L2 CkM
local macro_rules | `(tactic| walk_at "nf") => `(tactic| first | dsimp only [wipeS, List.map_cons, List.map_nil, List.set_cons_zero, List.set_cons_succ, List.length_cons, List.length_nil, List.replicate_succ, List.cons_append, List.nil_append, List.replicate_zero, List.append_nil, Nat.reduceSub, Nat.reduceAdd, List.eraseIdx_cons_zero, List.eraseIdx_cons_succ] | simp only [wipeS, List.map_cons, List.map_nil, List.set_cons_zero, List.set_cons_succ, List.length_cons, List.length_nil, List.replicate_succ, List.cons_append, List.nil_append, List.replicate_zero, List.append_nil, Nat.reduceSub, Nat.reduceAdd, List.eraseIdx_cons_zero, List.eraseIdx_cons_succ])
local macro_rules | `(tactic| walk_at "len") => `(tactic| exact small_len (Nat.le_of_ble_eq_true rfl))
local macro_rules | `(tactic| walk_at "ix") => `(tactic| first | exact IxD.tup rfl | exact IxD.lst rfl)
local macro_rules | `(tactic| walk_at "br") => `(tactic| first | exact br_add | exact br_sub | exact br_mul (by first | exact cmul_l (by omega) | exact cmul_r (by omega)) | exact br_mod (by omega) | exact br_fdiv ⟨by omega, by omega⟩)
local macro_rules | `(tactic| walk_at "cr") => `(tactic| first | exact cr_gt | exact cr_lt | exact cr_eqI | exact cr_le | exact cr_ge | exact cr_neI)

section
variable {U : Vw} {Δ : List Sv} {M : MS} {E : DE} {e a b c tg it : Expr} {es : List Expr} {d da db : PyData} {ds : List PyData} {x nm : Str} {pos p p1 p2 : Pos} {i j : Nat} {o : Addr} {xs : List L2.V}
theorem ev_refX {l : Addr} (h : EvD U e Δ M (refD l)) : EvX U e Δ M (.ref l) := fun G0 H0 Gs G σ H st Q q => h G0 H0 Gs G σ H st _ fun v G' H' e1 h1 => q v G' H' e1 (by rw [h1.rf_eq]; rfl)
/-- a list whatever it holds -/
def anyL (xs : List L2.V) : MO := .ob (.lst xs) [] []
theorem any_ok {G H : Hp} {a : Addr} {xs : List L2.V} (h : H a = some (.lst xs)) : MOk G H a (anyL xs) := ⟨h, .nil, fun _ z => nomatch z⟩
theorem ev_lenO (ha : EvX U a Δ M (.ref o)) (hj : M[j]? = some (o, anyL xs)) (hm : U.mg "len" = none) (hg : U.sc.names.lookup ("len" : Str) = some .globalImplicit := by rfl) (he : ∀ r, starEach [a] (U.cx r).env = (false, eval a (U.cx r).env) :: starEach [] (U.cx r).env := by intro _; rfl) : EvD U (.Call (.Name "len" p) [a] [] pos) Δ M (.int xs.length) :=
  ev_bf (v := .none) (rr := rLenS U.K) (fun r => pe_callB (id := "len") (X := U.cx r) call_len_seq hg hm (by decide +kernel) pa_r (he := he r)) (ea_one ha he) fun G0 H0 Gs G σ H st vs hv Q k => by
    obtain ⟨v, rfl, e1⟩ := one_sv hv
    cases e1
    obtain ⟨_, _, q3, _, _⟩ := st.ref hj
    exact ⟨o, xs, rfl, .inl (.of q3), k _ G H (.refl st.ext.gh) (.int _)⟩
/-- x.append(e), x any list -/
theorem ht_appO (j : Nat) (ho : EvX U a Δ M (.ref o)) (hj : M[j]? = some (o, anyL xs)) (he : EvD U e Δ M d) (hl : xs.length < 100000) (k : ∀ v, E.nx Δ (M.set j (o, anyL (xs ++ [v])))) {p1 p2 : Pos}
    (hm1 : ∀ r, swapsWith (.Call (.Attribute a "append" p1) [e] [] p2) none pos.line (U.cx r).env = pure false := by intro _; rfl)
    (h1 : ∀ r : Cx, PE (U.cx r) (.Call (.Attribute a "append" p1) [e] [] p2) (tBM U.K "list" rAppend (rE U a) (tCons (rE U e) tNil)) := by exact fun r => pe_bm PySem.F.plainAttrs_list PySem.F.slot_list_append PySem.F.type_list_append mt_append pe_r (pa_cons pe_r pa_nil)) :
    HT U (.Expr (.Call (.Attribute a "append" p1) [e] [] p2) pos) Δ M E := fun G0 H0 Gs G σ H D st L =>
  ⟨_, fun r => ps_expr (h1 r) (hm1 r), ho G0 H0 Gs G σ H st _ fun v G1 H1 e1 hv => by
    cases hv
    obtain ⟨_, _, q3, _, _⟩ := (st.grow e1).ref hj
    refine ⟨.inl ⟨rfl, xs, .of q3⟩, he G0 H0 Gs G1 σ H1 (st.grow e1) _ fun w G2 H2 e2 hw => ?_⟩
    obtain ⟨_, _, q3, _, _⟩ := ((st.grow e1).grow e2).ref hj
    exact ⟨o, xs, w, rfl, rfl, q3, Evl.sz_lt hl, L.nx _ _ G2 _ _ (k w) (((st.grow e1).grow e2).change hj (any_ok upd_same))⟩⟩
/-- x.clear(), x any list -/
theorem ht_clearO (j : Nat) (ho : EvX U a Δ M (.ref o)) (hj : M[j]? = some (o, anyL xs)) (k : E.nx Δ (M.set j (o, anyL []))) {p1 p2 : Pos}
    (hm1 : ∀ r, swapsWith (.Call (.Attribute a "clear" p1) [] [] p2) none pos.line (U.cx r).env = pure false := by intro _; rfl)
    (h1 : ∀ r : Cx, PE (U.cx r) (.Call (.Attribute a "clear" p1) [] [] p2) (tBM0 U.K "list" rClear (rE U a)) := by exact fun r => pe_bm0 PySem.F.plainAttrs_list PySem.F.slot_list_clear PySem.F.type_list_clear mt_clear pe_r) :
    HT U (.Expr (.Call (.Attribute a "clear" p1) [] [] p2) pos) Δ M E := fun G0 H0 Gs G σ H D st L =>
  ⟨_, fun r => ps_expr (h1 r) (hm1 r), ho G0 H0 Gs G σ H st _ fun v G1 H1 e1 hv => by
    cases hv
    obtain ⟨_, _, q3, _, _⟩ := (st.grow e1).ref hj
    exact ⟨.inl ⟨rfl, xs, .of q3⟩, o, xs, rfl, rfl, q3, L.nx _ _ G1 _ _ k ((st.grow e1).change hj (any_ok upd_same))⟩⟩
/-- the lists l are among the things that are changed -/
def HasL (M : MS) (b : Nat) (ls : List Addr) : Prop := ∀ l ∈ ls, ∃ (j : Nat) (xs : List L2.V), M[j]? = some (l, anyL xs) ∧ xs.length ≤ b
theorem HasL.set {M : MS} {b : Nat} {ls : List Addr} (h : HasL M b ls) {j : Nat} {l : Addr} {m : MO} {ys : List L2.V} (hj : M[j]? = some (l, m)) (hl : ys.length ≤ b + 1) : HasL (M.set j (l, anyL ys)) (b + 1) ls := fun l' hl' => by
  obtain ⟨j', xs, h1, h2⟩ := h l' hl'
  by_cases e : j = j'
  · subst e
    rw [hj] at h1
    cases h1
    exact ⟨j, ys, List.getElem?_set_self (List.getElem?_eq_some_iff.mp hj).1, hl⟩
  · exact ⟨j', xs, by rw [List.getElem?_set_ne e]; exact h1, by omega⟩
end
/-- G without the lists ls -/
def cut (ls : List Addr) (G : Hp) : Hp := fun a => if a ∈ ls then none else G a
theorem cut_at {ls : List Addr} {G : Hp} {a : Addr} {o : HO} (h : ∀ l ∈ ls, ∃ xs, G l = some (.lst xs)) (ha : G a = some o) (ho : ∀ xs, o ≠ .lst xs) : cut ls G a = some o := by
  unfold cut
  rw [if_neg]
  · exact ha
  · intro hm
    obtain ⟨xs, e⟩ := h a hm
    rw [e] at ha
    cases ha
    exact ho xs rfl
theorem cut_cp {ls : List Addr} {G : Hp} (h : ∀ l ∈ ls, ∃ xs, G l = some (.lst xs)) {v : L2.V} {n : Nat} {κ : Col} (hv : Dt G v (cpD n κ)) : Dt (cut ls G) v (cpD n κ) := by
  obtain ⟨a, xs, rfl, g, t⟩ := hv.tup_eq
  have e : ((List.range n).map fun (r : Nat) => PyData.str (rowS n κ (r : Int))) = ((List.range n).map fun (r : Nat) => rowS n κ (r : Int)).map PyData.str := by rw [List.map_map]; rfl
  rw [e] at t
  have ex := t.strs
  have ec : cpD n κ = .tuple (((List.range n).map fun (r : Nat) => rowS n κ (r : Int)).map PyData.str) := congrArg PyData.tuple e
  rw [ec]
  exact .tup (cut_at h (by rw [g, ex]) fun _ z => nomatch z) (dtAll_strs _)
theorem cut_dT {ls : List Addr} {G : Hp} (h : ∀ l ∈ ls, ∃ xs, G l = some (.lst xs)) {v : L2.V} {kvs : List (List Key × Str)} (hv : Dt G v (dictT kvs)) : Dt (cut ls G) v (dictT kvs) := by
  obtain ⟨a, rfl, g⟩ := hv.dT_eq
  exact .dT (cut_at h g fun _ z => nomatch z)
theorem cut_ms {ls : List Addr} {G H : Hp} (hH : ∀ l ∈ ls, ∃ xs, H l = some (.lst xs)) : ∃ M : MS, Ms (cut ls H) (cut ls G) H M ∧ ∀ l ∈ ls, ∃ (j : Nat) (xs : List L2.V), M[j]? = some (l, anyL xs) ∧ H l = some (.lst xs) := by
  suffices h : ∀ ks : List Addr, (∀ l ∈ ks, l ∈ ls) → ∃ M : MS, (M.map (·.1)).Nodup ∧ (∀ p ∈ M, p.1 ∈ ls ∧ ∃ xs, p.2 = anyL xs ∧ H p.1 = some (.lst xs)) ∧ ∀ l ∈ ks, ∃ (j : Nat) (xs : List L2.V), M[j]? = some (l, anyL xs) ∧ H l = some (.lst xs) by
    obtain ⟨M, h1, h2, h3⟩ := h ls fun _ h => h
    refine ⟨M, ⟨h1, fun p hp => ?_⟩, h3⟩
    obtain ⟨hl, xs, e, hx⟩ := h2 p hp
    refine ⟨by unfold cut; rw [if_pos hl], by unfold cut; rw [if_pos hl], ?_⟩
    rw [e]
    exact any_ok hx
  intro ks
  induction ks with
  | nil => exact fun _ => ⟨[], List.nodup_nil, fun p hp => (nomatch hp), fun l hl => (nomatch hl)⟩
  | cons k ks ih =>
    intro hk
    obtain ⟨M, h1, h2, h3⟩ := ih fun l hl => hk l (List.mem_cons_of_mem _ hl)
    obtain ⟨xs, hx⟩ := hH k (hk k List.mem_cons_self)
    by_cases hm : k ∈ M.map (·.1)
    · refine ⟨M, h1, h2, fun l hl => ?_⟩
      rcases List.mem_cons.mp hl with rfl | hl
      · obtain ⟨p, hp, rfl⟩ := List.mem_map.mp hm
        obtain ⟨_, ys, e, hy⟩ := h2 p hp
        obtain ⟨j, hj⟩ := List.mem_iff_getElem?.mp hp
        exact ⟨j, ys, by rw [hj, ← e], hy⟩
      · exact h3 l hl
    · refine ⟨(k, anyL xs) :: M, List.nodup_cons.mpr ⟨hm, h1⟩, fun p hp => ?_, fun l hl => ?_⟩
      · rcases List.mem_cons.mp hp with rfl | hp
        · exact ⟨hk _ List.mem_cons_self, xs, rfl, hx⟩
        · exact h2 p hp
      · rcases List.mem_cons.mp hl with rfl | hl
        · exact ⟨0, xs, rfl, hx⟩
        · obtain ⟨j, ys, h4, h5⟩ := h3 l hl
          exact ⟨j + 1, ys, h4, h5⟩
/-- a def that may change what it is given; it tells True -/
def SpA (K : PySem.W.Frag) (R : List Sv → MS → Prop) : Sp := fun vs H Q _ => ∃ G H0 S M, Ext G H0 G H ∧ Paired (fun v s => SvOk K G (some (some v)) s) vs S ∧ Ms H0 G H M ∧ R S M ∧ ∀ H', Q (.bl true) H'
section
variable {P : Program} {w : World} {K : PySem.W.Frag} {mg : Str → Option Value} {base : Heap}
theorem fn_okA {x qual : Str} {st : Stmt} {f : Addr} {fd : FuncData} {N ps : List Str} {k : Nat} {R : List Sv → MS → Prop} (F : Fun K x qual st f fd) (S : FnScope N ps (defScope st)) (len : ∀ S M, R S M → S.length = ps.length)
    (body : ∀ A, Room k A → ∀ S M, R S M → HS (vwOf P w K mg base A N (defScope st)) (defBody st) (S ++ List.replicate (N.length - S.length) .non) M ⟨fun _ _ => False, fun d' => d' = .bool true, fun _ _ => False, fun _ _ => False, fun d' => d' = .bool true⟩) : FnOk P w K mg base CX0 (k + 1) f fd ps (SpA K R) := by
  refine F.ok S (fun vs H Q E h => ?_) (fun cdv A outer s H vs Q E hr h => ?_)
  · obtain ⟨G, H0, T, M, e, hv, hm, hR, q⟩ := h
    rw [Paired.length hv]
    exact len T M hR
  · obtain ⟨G, H0, T, M, e, hv, hm, hR, q⟩ := h
    have fin : ∀ d v H', d = PyData.bool true → Dt (fun _ => none) v d → Q v H' := fun d v H' hd h' => by
      subst hd
      rw [h'.bl_eq]
      exact q H'
    obtain ⟨t, pt, qt⟩ := body _ hr T M hR G H0 G G (L2.start N vs) H { nx := fun _ H' => Q .non H', rt := Q } ⟨e, sl_start hv, hm, .refl _⟩
      ⟨fun Δ M G' σ H' hd st' => hd.elim, fun d' v G' H' hd e' h' => by subst hd; rw [h'.bl_eq]; exact q H', fun _ _ _ _ _ h => h.elim, fun _ _ _ _ _ h => h.elim, fin⟩
    exact ⟨t, pt (cxOf CX0 P w K mg base N qual (defScope st) f cdv A outer s H E), qt⟩
noncomputable def againD (n : Nat) (κ : Col) (b : Best) (l0 l1 l2 : Addr) : PyData := .tuple [refD l0, .int b.1, .tuple [cpD n (mend n κ b.2.2), refD l1, refD l2]]
def RAgain (S : List Sv) (M : MS) : Prop := ∃ (n : Nat) (κ : Col) (most : Int) (l0 l1 l2 : Addr), S = [.dat (againD n κ (bestL n κ most) l0 l1 l2), .dat (cpD n κ), .dat (.int most), .dat (dictT tabL)] ∧ 1 ≤ n ∧ n ≤ 3 ∧ okC κ ∧ Told n κ most (bestL n κ most) ∧ HasL M 90000 [l0, l1, l2] ∧ ∃ (j : Nat) (xs : List L2.V), M[j]? = some (l1, anyL xs) ∧ xs.length = (chg n κ (mend n κ (bestL n κ most).2.2)).length

theorem ok_lAgain {f : Addr} {fd : FuncData} {k : Nat} (F : Fun K "_law_again" "_law_again" sLAgain f fd) (CB : CalK P w K mg base k "bettered" pBettered RBettered) (CT : CalK P w K mg base k "_law_told_well" pLToldWell RTold) (m1 : mg "len" = none) : FnOk P w K mg base CX0 (k + 1) f fd pLAgain (SpA K RAgain) := by
  refine fn_okA F scLAgain (fun S M h => ?_) fun A hr S M h => ?_
  · obtain ⟨n, κ, most, l0, l1, l2, rfl, _⟩ := h
    rfl
  · obtain ⟨n, κ, most, l0, l1, l2, rfl, h1, h3, hok, T, hL, j, xs, hj, hxl⟩ := h
    have nd := scLAgain.nd
    walk_at "nf"
    refine hs_cons (ht_set 4 nd (d := .int (bestL n κ most).1) (ev_ix (ev_v slot0 rfl) ev_int (IxD.tup rfl)) ?_)
    walk_at "nf"
    have r1 : ∀ {U : Vw} {Δ : List Sv} {M : MS} {a : Expr} {pos p q pos2 : Pos}, EvD U a Δ M (againD n κ (bestL n κ most) l0 l1 l2) → EvX U (.Subscript (.Subscript a (.Constant (.int 2) 0 p) pos) (.Constant (.int 1) 0 q) pos2) Δ M (.ref l1) := fun h => ev_refX (ev_ix (ev_ix h ev_int (IxD.tup rfl)) ev_int (IxD.tup rfl))
    have r2 : ∀ {U : Vw} {Δ : List Sv} {M : MS} {a : Expr} {pos p q pos2 : Pos}, EvD U a Δ M (againD n κ (bestL n κ most) l0 l1 l2) → EvX U (.Subscript (.Subscript a (.Constant (.int 2) 0 p) pos) (.Constant (.int 2) 0 q) pos2) Δ M (.ref l2) := fun h => ev_refX (ev_ix (ev_ix h ev_int (IxD.tup rfl)) ev_int (IxD.tup rfl))
    have r0 : ∀ {U : Vw} {Δ : List Sv} {M : MS} {a : Expr} {pos p : Pos}, EvD U a Δ M (againD n κ (bestL n κ most) l0 l1 l2) → EvX U (.Subscript a (.Constant (.int 0) 0 p) pos) Δ M (.ref l0) := fun h => ev_refX (ev_ix h ev_int (IxD.tup rfl))
    refine hs_cons (ht_set 5 nd (ev_lenO (r1 (ev_v slot0 rfl)) hj m1) ?_)
    walk_at "nf"
    obtain ⟨j0, x0, hj0, hx0⟩ := hL l0 (by simp)
    refine hs_cons (ht_appO j0 (r0 (ev_v slot0 rfl)) hj0 (ev_tup (eas_cons ev_str (eas_cons ev_int (eas_cons ev_int eas_nil (by intro _; rfl)) (by intro _; rfl)) (by intro _; rfl)) (by walk_at "len")) (by omega) fun v0 => ?_)
    have hL1 := hL.set (ys := x0 ++ [v0]) hj0 (by rw [List.length_append]; show x0.length + 1 ≤ _; omega)
    generalize M.set j0 (l0, anyL (x0 ++ [v0])) = M1 at *
    obtain ⟨j1, x1, hj1, hx1⟩ := hL1 l1 (by simp)
    refine hs_cons (ht_appO j1 (r1 (ev_v slot0 rfl)) hj1 ev_non (by omega) fun v1 => ?_)
    have hL2 := hL1.set (ys := x1 ++ [v1]) hj1 (by rw [List.length_append]; show x1.length + 1 ≤ _; omega)
    generalize M1.set j1 (l1, anyL (x1 ++ [v1])) = M2 at *
    obtain ⟨j2, x2, hj2, hx2⟩ := hL2 l2 (by simp)
    refine hs_cons (ht_clearO j2 (r2 (ev_v slot0 rfl)) hj2 ?_)
    generalize M2.set j2 (l2, anyL []) = M3 at *
    refine hs_cons (ht_set 6 nd (d := fndD n κ (bestL n κ most)) ((ev_call (k := k) CB hr (ea_cons (ev_v slot1 rfl) (ea_cons (ev_v slot2 rfl) ea_nil)) ⟨n, κ, most, rfl, h1, h3, hok, rfl⟩).to (betD_eq n κ most)) ?_)
    walk_at "nf"
    refine hs_cons (ht_ret (ev_and (k := true) (l := true) (ev_call (k := k) CT hr (ea_cons (ev_v slot6 rfl) (ea_cons (ev_v slot1 rfl) (ea_cons (ev_v slot2 rfl) (ea_cons (ev_v slot3 rfl) ea_nil)))) ⟨n, κ, most, bestL n κ most, rfl, h1, h3, hok, T, rfl⟩) fun _ => ev_and (k := true) (l := true) (EvD.to (ev_cmp (ev_ix (da := fndD n κ (bestL n κ most)) (d := .int (bestL n κ most).1) (ev_v slot6 rfl) ev_int (IxD.tup rfl)) (ev_v slot4 rfl) cr_eqI) (by simp)) fun _ => ev_one (EvD.to (ev_cmp (ev_lenL (ds := (chg n κ (mend n κ (bestL n κ most).2.2)).map plD) (ev_ix (da := mendD n κ (bestL n κ most).2.2) (ev_ix (da := fndD n κ (bestL n κ most)) (ev_v slot6 rfl) ev_int (IxD.tup rfl)) ev_int (IxD.tup rfl)) m1) (ev_v slot5 rfl) cr_eqI) (by rw [List.length_map, hxl]; simp))) rfl)
end
end Ck
end Ck27Part

/-! ## Ck28 -/
section Ck28Part
set_option Elab.async false
set_option linter.all false
set_option maxRecDepth 100000
set_option maxHeartbeats 4000000
/-! The law. -/
namespace Ck
open PySem PySem.Spec PyProof.Rows L2 CkM
local macro_rules | `(tactic| walk_at "nf") => `(tactic| first | dsimp only [wipeS, List.map_cons, List.map_nil, List.set_cons_zero, List.set_cons_succ, List.length_cons, List.length_nil, List.replicate_succ, List.cons_append, List.nil_append, List.replicate_zero, List.append_nil, Nat.reduceSub, Nat.reduceAdd, List.eraseIdx_cons_zero, List.eraseIdx_cons_succ] | simp only [wipeS, List.map_cons, List.map_nil, List.set_cons_zero, List.set_cons_succ, List.length_cons, List.length_nil, List.replicate_succ, List.cons_append, List.nil_append, List.replicate_zero, List.append_nil, Nat.reduceSub, Nat.reduceAdd, List.eraseIdx_cons_zero, List.eraseIdx_cons_succ])
local macro_rules | `(tactic| walk_at "len") => `(tactic| exact small_len (Nat.le_of_ble_eq_true rfl))
local macro_rules | `(tactic| walk_at "ix") => `(tactic| first | exact IxD.tup rfl | exact IxD.lst rfl)
local macro_rules | `(tactic| walk_at "br") => `(tactic| first | exact br_add | exact br_sub | exact br_mul (by first | exact cmul_l (by omega) | exact cmul_r (by omega)) | exact br_mod (by omega) | exact br_fdiv ⟨by omega, by omega⟩)
local macro_rules | `(tactic| walk_at "cr") => `(tactic| first | exact cr_gt | exact cr_lt | exact cr_eqI | exact cr_le | exact cr_ge | exact cr_neI)

/-- what the law asks of the answer: plain -/
structure BestOk (n : Nat) (κ : Col) (most : Int) (b : Best) : Prop where
  told : Told n κ most b
  best : ∀ ms, Sd n ms → chI n κ ms ≤ most → ¬ (b.1 < szI n ms ∨ (szI n ms = b.1 ∧ chI n κ ms < ((chg n κ (mend n κ b.2.2)).length : Int)))
section
variable {P : Program} {w : World} {K : PySem.W.Frag} {mg : Str → Option Value} {base : Heap}
def CalA (P : Program) (w : World) (K : PySem.W.Frag) (mg : Str → Option Value) (base : Heap) (k : Nat) (x : Str) (ps : List Str) (R : List Sv → MS → Prop) : Prop := ∃ f fd, FnOk P w K mg base CX0 k f fd ps (SpA K R) ∧ mg x = some (.ref f) ∧ PySem.W.keepIn K (.ref f) = true ∧ Binds K fd ps []
/-- return a or again(found, carpet, most, table) -/
theorem ht_retAgain {U : Vw} {Δ : List Sv} {M : MS} {E : DE} {a x0 : Expr} {es : List Expr} {k : Nat} {kb : Bool} {n : Nat} {κ : Col} {most : Int} {x : Str} {ps : List Str} {p pos pos2 pos3 : Pos} (C : CalA U.prog U.w U.K U.mg U.base k x ps RAgain) (hr : Room k U.A) (ha : EvD U a Δ M (.bool kb)) (hargs : EvA U (x0 :: es) Δ M [.dat (fndD n κ (bestL n κ most)), .dat (cpD n κ), .dat (.int most), .dat (dictT tabL)]) (h1 : 1 ≤ n) (h3 : n ≤ 3) (hok : okC κ) (T : Told n κ most (bestL n κ most)) (hrt : E.rt (.bool true)) (hfin : E.fin (.bool true)) (hg : U.sc.names.lookup x = some .globalImplicit := by rfl)
    (he : ∀ r, starEach (x0 :: es) (U.cx r).env = (false, eval x0 (U.cx r).env) :: starEach es (U.cx r).env := by intro _; rfl) (hpl : ∀ r, (backTo pos (starEach es (U.cx r).env)).any (·.1) = false := by intro _; rfl) (hd : (x == ("__debug__" : Str)) = false := by decide) : HT U (.Return (some (.BoolOp .Or [a, .Call (.Name x p) (x0 :: es) [] pos] pos2)) pos3) Δ M E := fun G0 H0 Gs G σ H D st L => by
  obtain ⟨f, fd, F, hm, hk, hb⟩ := C
  refine ⟨_, fun r => ps_ret (pe_or pe_r (pe_one (pe_call (X := U.cx r) F hr hg hm hk hb .nil pass0 pa_r hd (he r) (hpl r)))), ha G0 H0 Gs G σ H st _ fun v G1 H1 e1 hv => ⟨kb, hv.bl_eq, ?_⟩⟩
  cases kb with
  | true =>
    show D.rt (.bl true) H1
    exact L.rt (.bool true) (.bl true) G1 H1 hrt (st.ext.trans e1) (.bl true)
  | false =>
    show tCall (SpA U.K RAgain) [] E0 (rA U (x0 :: es)) σ H1 _
    refine hargs G0 H0 Gs G1 σ H1 (st.grow e1) _ fun vs G2 H2 e2 hvs => ?_
    rw [List.append_nil]
    have st2 := (st.grow e1).grow e2
    have gh := st2.ext.gh
    have hall := paired_dat (ds := [fndD n κ (bestL n κ most), cpD n κ, .int most, dictT tabL]) hvs
    cases hall with
    | cons a0 t =>
    cases t with
    | cons a1 t =>
    cases t with
    | cons a2 t =>
    cases t with
    | cons a3 t =>
    cases t
    obtain ⟨p0, xs0, rfl, g0, t0⟩ := a0.tup_eq
    cases t0 with
    | cons b0 t =>
    cases t with
    | cons b1 t =>
    cases t with
    | cons b2 t =>
    cases t
    obtain ⟨l0, ys0, rfl, gl0, tl0⟩ := b0.lst_eq
    obtain ⟨q0, zs0, rfl, gq0, tq0⟩ := b2.tup_eq
    cases tq0 with
    | cons c0 t =>
    cases t with
    | cons c1 t =>
    cases t with
    | cons c2 t =>
    cases t
    obtain ⟨l1, ys1, rfl, gl1, tl1⟩ := c1.lst_eq
    obtain ⟨l2, ys2, rfl, gl2, tl2⟩ := c2.lst_eq
    have hG : ∀ l ∈ [l0, l1, l2], ∃ xs, G2 l = some (.lst xs) := fun l hl => by
      simp only [List.mem_cons, List.not_mem_nil, or_false] at hl
      rcases hl with rfl | rfl | rfl
      · exact ⟨_, gl0⟩
      · exact ⟨_, gl1⟩
      · exact ⟨_, gl2⟩
    obtain ⟨M', hms, hM'⟩ := cut_ms (G := G2) (H := H2) (ls := [l0, l1, l2]) fun l hl => by
      obtain ⟨xs, e⟩ := hG l hl
      exact ⟨xs, gh _ _ e⟩
    have hlen : ∀ l ∈ [l0, l1, l2], ∀ xs, H2 l = some (.lst xs) → xs.length ≤ 90000 := fun l hl xs hx => by
      simp only [List.mem_cons, List.not_mem_nil, or_false] at hl
      rcases hl with rfl | rfl | rfl
      · rw [gh _ _ gl0] at hx
        cases hx
        have := tl0.length
        rw [List.length_map] at this
        have := T.len
        omega
      · rw [gh _ _ gl1] at hx
        cases hx
        have := tl1.length
        rw [List.length_map] at this
        have h5 := List.length_filter_le (fun p => decide (mend n κ (bestL n κ most).2.2 p ≠ κ p)) (allPl n)
        rw [len_pl] at h5
        have h6 := Nat.mul_le_mul h3 h3
        unfold chg at this
        have h7 : ((allPl n).filter fun p => decide (mend n κ (bestL n κ most).2.2 p ≠ κ p)).length ≤ 9 := by omega
        have h8 : ys1.length = ((allPl n).filter fun p => decide (mend n κ (bestL n κ most).2.2 p ≠ κ p)).length := this
        omega
      · rw [gh _ _ gl2] at hx
        cases hx
        have := tl2.length
        rw [List.length_map] at this
        have := (paper_ok T.sd hok).l2
        omega
    refine ⟨cut [l0, l1, l2] G2, cut [l0, l1, l2] H2, [.dat (againD n κ (bestL n κ most) l0 l1 l2), .dat (cpD n κ), .dat (.int most), .dat (dictT tabL)], M', ⟨.refl _, fun a o h => ?_, fun a o h => ?_, fun a o h h' => by rw [h] at h'; cases h'⟩, ?_, hms, ⟨n, κ, most, l0, l1, l2, rfl, h1, h3, hok, T, fun l hl => ?_, ?_⟩, fun H' => L.fin (.bool true) (.bl true) H' hfin (.bl true)⟩
    · unfold cut at h
      split at h
      · cases h
      · exact h
    · unfold cut at h
      split at h
      · cases h
      · exact gh _ _ h
    · refine .cons ⟨_, rfl, .tup (cut_at hG g0 fun _ z => nomatch z) (.cons (.rf l0) (.cons ?_ (.cons (.tup (cut_at hG gq0 fun _ z => nomatch z) (.cons (cut_cp hG c0) (.cons (.rf l1) (.cons (.rf l2) .nil)))) .nil)))⟩ (.cons ⟨_, rfl, cut_cp hG a1⟩ (.cons ⟨_, rfl, ?_⟩ (.cons ⟨_, rfl, cut_dT hG a3⟩ .nil)))
      · rw [b1.int_eq]; exact .int _
      · rw [a2.int_eq]; exact .int _
    · obtain ⟨j, xs, h4, h5⟩ := hM' l hl
      exact ⟨j, xs, h4, hlen l hl xs h5⟩
    · obtain ⟨j, xs, h4, h5⟩ := hM' l1 (by simp)
      refine ⟨j, xs, h4, ?_⟩
      rw [gh _ _ gl1] at h5
      cases h5
      have := tl1.length
      rw [List.length_map] at this
      exact this
end
end Ck
end Ck28Part

/-! ## Ck29 -/
section Ck29Part
set_option Elab.async false
set_option linter.all false
set_option maxRecDepth 100000
set_option maxHeartbeats 4000000
/-! The law walked. -/
namespace Ck
open PySem PySem.Spec PyProof.Rows L2 CkM
local macro_rules | `(tactic| walk_at "nf") => `(tactic| first | dsimp only [wipeS, List.map_cons, List.map_nil, List.set_cons_zero, List.set_cons_succ, List.length_cons, List.length_nil, List.replicate_succ, List.cons_append, List.nil_append, List.replicate_zero, List.append_nil, Nat.reduceSub, Nat.reduceAdd, List.eraseIdx_cons_zero, List.eraseIdx_cons_succ] | simp only [wipeS, List.map_cons, List.map_nil, List.set_cons_zero, List.set_cons_succ, List.length_cons, List.length_nil, List.replicate_succ, List.cons_append, List.nil_append, List.replicate_zero, List.append_nil, Nat.reduceSub, Nat.reduceAdd, List.eraseIdx_cons_zero, List.eraseIdx_cons_succ])
local macro_rules | `(tactic| walk_at "len") => `(tactic| exact small_len (Nat.le_of_ble_eq_true rfl))
local macro_rules | `(tactic| walk_at "ix") => `(tactic| first | exact IxD.tup rfl | exact IxD.lst rfl)
local macro_rules | `(tactic| walk_at "br") => `(tactic| first | exact br_add | exact br_sub | exact br_mul (by first | exact cmul_l (by omega) | exact cmul_r (by omega)) | exact br_mod (by omega) | exact br_fdiv ⟨by omega, by omega⟩)
local macro_rules | `(tactic| walk_at "cr") => `(tactic| first | exact cr_gt | exact cr_lt | exact cr_eqI | exact cr_le | exact cr_ge | exact cr_neI)

/-- a def that tells True, whatever the heap is behind it -/
def SpF (K : PySem.W.Frag) (R : List Sv → Prop) : Sp := fun vs H Q _ => ∃ G S, Ex G H ∧ Paired (fun v s => SvOk K G (some (some v)) s) vs S ∧ R S ∧ ∀ H', Q (.bl true) H'
section
variable {P : Program} {w : World} {K : PySem.W.Frag} {mg : Str → Option Value} {base : Heap}
theorem fn_okF {x qual : Str} {st : Stmt} {f : Addr} {fd : FuncData} {N ps : List Str} {k : Nat} {R : List Sv → Prop} (F : Fun K x qual st f fd) (S : FnScope N ps (defScope st)) (len : ∀ S, R S → S.length = ps.length)
    (body : ∀ A, Room k A → ∀ S, R S → HS (vwOf P w K mg base A N (defScope st)) (defBody st) (S ++ List.replicate (N.length - S.length) .non) [] ⟨fun _ _ => False, fun d' => d' = .bool true, fun _ _ => False, fun _ _ => False, fun d' => d' = .bool true⟩) : FnOk P w K mg base CX0 (k + 1) f fd ps (SpF K R) := by
  refine F.ok S (fun vs H Q E h => ?_) (fun cdv A outer s H vs Q E hr h => ?_)
  · obtain ⟨G, T, e, hv, hR, q⟩ := h
    rw [Paired.length hv]
    exact len T hR
  · obtain ⟨G, T, e, hv, hR, q⟩ := h
    have fin : ∀ d v H', d = PyData.bool true → Dt (fun _ => none) v d → Q v H' := fun d v H' hd h' => by
      subst hd
      rw [h'.bl_eq]
      exact q H'
    obtain ⟨t, pt, qt⟩ := body _ hr T hR G H G G (L2.start N vs) H { nx := fun _ H' => Q .non H', rt := Q } ⟨.refl e, sl_start hv, ⟨List.nodup_nil, fun _ h => nomatch h⟩, .refl _⟩
      ⟨fun Δ M G' σ H' hd st' => hd.elim, fun d' v G' H' hd e' h' => by subst hd; rw [h'.bl_eq]; exact q H', fun _ _ _ _ _ h => h.elim, fun _ _ _ _ _ h => h.elim, fin⟩
    exact ⟨t, pt (cxOf CX0 P w K mg base N qual (defScope st) f cdv A outer s H E), qt⟩
def nL : List Nat := [1, 2, 2, 2, 2, 2, 2, 2, 2, 3]
theorem nL_at {t : Nat} (h : t < 10) : 1 ≤ nL.getD t 0 ∧ nL.getD t 0 ≤ 3 := by
  have : ∀ t < 10, 1 ≤ nL.getD t 0 ∧ nL.getD t 0 ≤ 3 := by decide
  exact this t h
theorem let_ok {ls : List Nat} (h : ∀ k ∈ ls, k < 200) (cells : List Int) (n : Nat) (seed : Int) : okC (carC cells n ls seed) := fun p => by
  have : carC cells n ls seed p < 200 := by
    unfold carC letAt
    rw [List.getD_eq_getElem?_getD]
    generalize (mixI _ _ % _).toNat = t
    cases e : ls[t]? with
    | none => show 0 < 200; decide
    | some v => exact h v (List.mem_of_getElem? e)
  generalize carC cells n ls seed p = v at *
  unfold PyData.strOk chS
  simp
  omega
theorem letL_lt (s : Int) (many : Nat) : ∀ k ∈ letL s many, k < 200 := fun k hk => by
  obtain ⟨j, _, rfl⟩ := List.mem_map.mp hk
  have b1 := Int.emod_nonneg (s + 7 * (j : Int)) (show (26 : Int) ≠ 0 by decide)
  have b2 := Int.emod_lt_of_pos (s + 7 * (j : Int)) (show (0 : Int) < 26 by decide)
  omega
structure LawCals (P : Program) (w : World) (K : PySem.W.Frag) (mg : Str → Option Value) (base : Heap) (k : Nat) : Prop where
  cell : CalK P w K mg base k "_law_cell_at" pLCellAt RCellAt
  mix : CalK P w K mg base k "_law_mixed" pLMixed RMixed
  letters : CalK P w K mg base k "_law_letters" pLLetters RLetters
  carpet : CalK P w K mg base k "_law_carpet" pLCarpet RCarpet
  bet : CalK P w K mg base k "bettered" pBettered RBettered
  table : CalK P w K mg base k "_law_table" pLTable RTable
  told : CalK P w K mg base k "_law_told_well" pLToldWell RTold
  move : CalK P w K mg base k "_law_movement" pLMovement RMovement
  price : CalK P w K mg base k "_law_price" pLPrice RPrice
  size : CalK P w K mg base k "_law_size" pLSize RSize
  again : CalA P w K mg base k "_law_again" pLAgain RAgain
  len : mg "len" = none
  rng : mg "range" = none
abbrev BestAll : Prop := ∀ (n : Nat) (κ : Col) (most : Int), 1 ≤ n → n ≤ 3 → okC κ → 0 ≤ most → BestOk n κ most (bestL n κ most)
def EL : DE := ⟨fun _ _ => False, fun d' => d' = .bool true, fun _ _ => False, fun _ _ => False, fun d' => d' = .bool true⟩

theorem law_tail {k : Nat} {A : Around} (C : LawCals P w K mg base k) (BO : BestAll) (hr : Room k A) {ns : List Int} {s1 : Sv} {n : Nat} {s3 s4 : Sv} {cells : List Int} {κ : Col} {most : Int} (h1 : 1 ≤ n) (h3 : n ≤ 3) (hok : okC κ) (hm0 : 0 ≤ most) (hcl : cells.length ≤ 61) : HS (vwOf P w K mg base A nLaw (defScope sLaw)) ((defBody sLaw).drop 8) [.scr ns, s1, .dat (.int n), s3, s4, .dat (.list (cells.map .int)), .dat (cpD n κ), .dat (.int most), .non, .non, .non, .non, .non, .non, .non, .non] [] EL := by
  have nd := scLaw.nd
  have B := BO n κ most h1 h3 hok hm0
  have T := B.told
  refine hs_cons (ht_set 8 nd (d := fndD n κ (bestL n κ most)) ((ev_call (k := k) C.bet hr (ea_cons (ev_v slot6 rfl) (ea_cons (ev_v slot7 rfl) ea_nil)) ⟨n, κ, most, rfl, h1, h3, hok, rfl⟩).to (betD_eq n κ most)) ?_)
  walk_at "nf"
  refine hs_cons (ht_set 9 nd (d := dictT tabL) (ev_call0 (k := k) C.table hr ⟨rfl, rfl⟩) ?_)
  walk_at "nf"
  refine hs_cons (ht_if (k := false) (et_not (k := true) (et_val (ev_call (k := k) C.told hr (ea_cons (ev_v slot8 rfl) (ea_cons (ev_v slot6 rfl) (ea_cons (ev_v slot7 rfl) (ea_cons (ev_v slot9 rfl) ea_nil)))) ⟨n, κ, most, bestL n κ most, rfl, h1, h3, hok, T, rfl⟩))) (fun h => nomatch h) (fun _ => hs_nil ?_))
  refine hs_cons (ht_for (xs := List.range cells.length) (g := fun (r : Nat) => PyData.int (r : Int)) (fun i Δ M => ∃ s10 s11 s12 s14 s15, Δ = [.scr ns, s1, .dat (.int n), s3, s4, .dat (.list (cells.map .int)), .dat (cpD n κ), .dat (.int most), .dat (fndD n κ (bestL n κ most)), .dat (dictT tabL), s10, s11, s12, .non, s14, s15] ∧ M = []) (it_range1 ((ev_lenL (ds := cells.map .int) (ev_v slot5 rfl) C.len).to (by rw [List.length_map])) (by omega) C.rng) ⟨.non, .non, .non, .non, .non, rfl, rfl⟩ ?_ ?_)
  · rintro i y Δ M hy ⟨s10, s11, s12, s14, s15, rfl, rfl⟩
    have hi : i < cells.length := by have := (List.getElem?_eq_some_iff.mp hy).1; rwa [List.length_range] at this
    have ey : y = i := by rw [List.getElem?_range hi] at hy; exact (Option.some.inj hy).symm
    subst ey
    have hcell : L2.atI (cells.map PyData.int) (y : Int) = some (.int (cells.getD y 0)) := by
      rw [atI_nat (by rw [List.length_map]; exact hi), List.getElem?_map, List.getD_eq_getElem?_getD, List.getElem?_eq_getElem hi]
      rfl
    refine ⟨_, _, tg_name 10 nd, ?_⟩
    walk_at "nf"
    generalize cells.getD y 0 = cv at *
    refine hs_cons (ht_set 11 nd (ev_call (k := k) C.mix hr (ea_cons (ev_ix (ev_v slot5 rfl) (ev_v slot10 rfl) (IxD.lst hcell)) (ea_cons (ev_bin (ev_v slot10 rfl) ev_int (by walk_at "br")) ea_nil)) ⟨cv, (y : Int) + 70, rfl, by omega, by omega, rfl⟩) ?_)
    walk_at "nf"
    generalize hcm : mixI cv ((y : Int) + 70) = cm
    have c1 := Int.emod_nonneg cm (show (3 : Int) ≠ 0 by decide)
    have c2 := Int.emod_lt_of_pos cm (show (0 : Int) < 3 by decide)
    have ecnt : (1 : Int) + cm % 3 = ((1 + (cm % 3).toNat : Nat) : Int) := by omega
    have hcnt : 1 + (cm % 3).toNat ≤ 3 := by omega
    generalize hmany : 1 + (cm % 3).toNat = many at *
    refine hs_cons (ht_setLc 12 [("_law_j", 13)] (xs := List.range many) (g := fun (r : Nat) => PyData.int (r : Int)) (fun (j : Nat) => mvD (mvAt n (mixI cv (20 + 3 * (y : Int) + (j : Int))))) (fun _ => true) nd (by dsimp only [vwOf]; decide +kernel) (it_range1 (((ev_bin ev_int (ev_bin (ev_v slot11 rfl) ev_int (by walk_at "br")) (by walk_at "br"))).to (by rw [ecnt])) (by omega) C.rng) (by rw [List.length_range]; exact Nat.lt_of_le_of_lt hcnt (by decide)) (fun t j hj => ?_) ?_)
    · have hjn : j < many := List.mem_range.mp (List.mem_of_getElem? hj)
      refine ⟨_, _, tg_name 13 nd, fun i hi => hi, ets_nil, fun _ => ?_⟩
      walk_at "nf"
      exact ev_call (k := k) C.move hr (ea_cons (ev_v slot2 rfl) (ea_cons (ev_call (k := k) C.mix hr (ea_cons (ev_ix (ev_v slot5 rfl) (ev_v slot10 rfl) (IxD.lst hcell)) (ea_cons (ev_bin (ev_bin ev_int (ev_bin ev_int (ev_v slot10 rfl) (by walk_at "br")) (by walk_at "br")) (ev_v slot13 rfl) (by walk_at "br")) ea_nil)) ⟨cv, 20 + 3 * (y : Int) + (j : Int), rfl, by omega, by omega, rfl⟩) ea_nil)) ⟨n, mixI cv (20 + 3 * (y : Int) + (j : Int)), rfl, h1, h3, rfl⟩
    walk_at "nf"
    rw [List.filter_eq_self.mpr fun _ _ => rfl]
    have ew : ((List.range many).map fun (j : Nat) => mvD (mvAt n (mixI cv (20 + 3 * (y : Int) + (j : Int))))) = ((List.range many).map fun (j : Nat) => mvAt n (mixI cv (20 + 3 * (y : Int) + (j : Int)))).map mvD := by rw [List.map_map]; rfl
    rw [ew]
    have hS : Sd n ((List.range many).map fun (j : Nat) => mvAt n (mixI cv (20 + 3 * (y : Int) + (j : Int)))) := ⟨h1, h3, fun m hm => by
      obtain ⟨j, _, rfl⟩ := List.mem_map.mp hm
      exact mvAt_mem h1 _⟩
    generalize ((List.range many).map fun (j : Nat) => mvAt n (mixI cv (20 + 3 * (y : Int) + (j : Int)))) = wish at *
    refine hs_cons (ht_set 14 nd (ev_call (k := k) C.price hr (ea_cons (ev_v slot6 rfl) (ea_cons (ev_v slot12 rfl) ea_nil)) ⟨n, κ, wish, rfl, hS, rfl⟩) ?_)
    walk_at "nf"
    refine hs_cons (ht_if (et_w (ew_and (et_cmp (ev_v slot14 rfl) (ev_v slot7 rfl) (by walk_at "cr")) fun _ => (ew_and1 (et_cmp (ev_v slot10 rfl) ev_int (by walk_at "cr"))))) (fun hk => ?_) (fun hk => hs_nil (hs_nil ⟨_, _, _, _, _, rfl, rfl⟩)))
    rw [Bool.and_eq_true] at hk
    have hle : chI n κ wish ≤ most := of_decide_eq_true hk.1
    have hb := B.best wish hS hle
    refine hs_cons (ht_set 15 nd (ev_call (k := k) C.size hr (ea_cons (ev_v slot2 rfl) (ea_cons (ev_v slot12 rfl) (ea_cons (ev_v slot9 rfl) ea_nil))) ⟨n, wish, rfl, h1, h3, rfl⟩) ?_)
    walk_at "nf"
    have hf1 : ∀ {U : Vw} {Δ : List Sv} {M : MS} {a : Expr} {pos p : Pos}, EvD U a Δ M (fndD n κ (bestL n κ most)) → EvD U (.Subscript a (.Constant (.int 1) 0 p) pos) Δ M (.int (bestL n κ most).1) := fun h => ev_ix h ev_int (IxD.tup rfl)
    refine hs_cons (ht_if (k := false) (EvT.to (et_w (ew_or (et_cmp (ev_v slot15 rfl) (hf1 (ev_v slot8 rfl)) cr_gt) fun _ => ew_or1 (et_w (ew_and (et_cmp (ev_v slot15 rfl) (hf1 (ev_v slot8 rfl)) cr_eqI) fun _ => ew_and1 (et_cmp (ev_v slot14 rfl) (ev_lenL (ds := (chg n κ (mend n κ (bestL n κ most).2.2)).map plD) (ev_ix (da := mendD n κ (bestL n κ most).2.2) (ev_ix (da := fndD n κ (bestL n κ most)) (ev_v slot8 rfl) ev_int (IxD.tup rfl)) ev_int (IxD.tup rfl)) C.len) cr_lt))))) ?_) (fun h => nomatch h) (fun _ => hs_nil (hs_nil (hs_nil ⟨_, _, _, _, _, rfl, rfl⟩))))
    rw [List.length_map]
    refine Bool.eq_false_iff.mpr fun z => hb ?_
    rw [Bool.or_eq_true, Bool.and_eq_true] at z
    exact z.imp of_decide_eq_true fun z => ⟨of_decide_eq_true z.1, of_decide_eq_true z.2⟩
  · rintro Δ M ⟨s10, s11, s12, s14, s15, rfl, rfl⟩
    exact hs_cons (ht_retAgain (k := k) (n := n) (κ := κ) (most := most) C.again hr (ev_cmp (ev_v slot2 rfl) ev_int (by walk_at "cr")) (ea_cons (ev_v slot8 rfl) (ea_cons (ev_v slot6 rfl) (ea_cons (ev_v slot7 rfl) (ea_cons (ev_v slot9 rfl) ea_nil)))) h1 h3 hok T rfl rfl)
def RLaw (S : List Sv) : Prop := ∃ ns : List Int, S = [.scr ns]
theorem ok_law {f : Addr} {fd : FuncData} {k : Nat} (F : Fun K "law" "law" sLaw f fd) (C : LawCals P w K mg base k) (BO : BestAll) : FnOk P w K mg base CX0 (k + 1) f fd pLaw (SpF K RLaw) := by
  refine fn_okF F scLaw (fun S h => ?_) fun A hr S h => ?_
  · obtain ⟨ns, rfl⟩ := h
    rfl
  · obtain ⟨ns, rfl⟩ := h
    have nd := scLaw.nd
    walk_at "nf"
    refine hs_cons (ht_set 1 nd (ev_call (k := k) C.mix hr (ea_cons (ev_call (k := k) C.cell hr (ea_consX (ex_scr 0 rfl) (ea_cons ev_int ea_nil)) ⟨ns, 0, rfl, rfl⟩) (ea_cons ev_int ea_nil)) ⟨cellAt ns 0, 0, rfl, by decide, by decide, rfl⟩) ?_)
    walk_at "nf"
    have hs0 := mix_nonneg (cellAt ns 0) 0
    generalize mixI (cellAt ns 0) 0 = seed at *
    have b1 := Int.emod_nonneg seed (show (10 : Int) ≠ 0 by decide)
    have b2 := Int.emod_lt_of_pos seed (show (0 : Int) < 10 by decide)
    have ht10 : (seed % 10).toNat < 10 := by omega
    have hn := nL_at ht10
    have hnat : L2.atI (nL.map fun (x : Nat) => PyData.int (x : Int)) (seed % 10) = some (.int ((nL.getD (seed % 10).toNat 0 : Nat) : Int)) := by
      have e1 : seed % 10 = ((seed % 10).toNat : Int) := (Int.toNat_of_nonneg b1).symm
      generalize (seed % 10).toNat = t at *
      rw [e1, atI_nat (by rw [List.length_map]; exact ht10), List.getElem?_map, List.getD_eq_getElem?_getD, List.getElem?_eq_getElem (show t < nL.length from ht10)]
      rfl
    generalize nL.getD (seed % 10).toNat 0 = n at *
    refine hs_cons (ht_set 2 nd (ev_ix (da := .list (nL.map fun (x : Nat) => PyData.int (x : Int))) (ev_lst (ds := nL.map fun (x : Nat) => PyData.int (x : Int)) (eas_cons ev_int (eas_cons ev_int (eas_cons ev_int (eas_cons ev_int (eas_cons ev_int (eas_cons ev_int (eas_cons ev_int (eas_cons ev_int (eas_cons ev_int (eas_cons ev_int eas_nil (by intro _; rfl)) (by intro _; rfl)) (by intro _; rfl)) (by intro _; rfl)) (by intro _; rfl)) (by intro _; rfl)) (by intro _; rfl)) (by intro _; rfl)) (by intro _; rfl)) (by intro _; rfl)) (by walk_at "len")) (ev_bin (ev_v slot1 rfl) ev_int (by walk_at "br")) (IxD.lst hnat)) ?_)
    walk_at "nf"
    refine hs_cons (ht_set 3 nd (ev_call (k := k) C.mix hr (ea_cons (ev_call (k := k) C.cell hr (ea_consX (ex_scr 0 rfl) (ea_cons ev_int ea_nil)) ⟨ns, 1, rfl, rfl⟩) (ea_cons ev_int ea_nil)) ⟨cellAt ns 1, 1, rfl, by decide, by decide, rfl⟩) ?_)
    walk_at "nf"
    have ho0 := mix_nonneg (cellAt ns 1) 1
    generalize mixI (cellAt ns 1) 1 = other at *
    have d1 := Int.emod_nonneg (other / 26) (show (4 : Int) ≠ 0 by decide)
    have d2 := Int.emod_lt_of_pos (other / 26) (show (0 : Int) < 4 by decide)
    have emany : (1 : Int) + other / 26 % 4 = ((1 + (other / 26 % 4).toNat : Nat) : Int) := by omega
    have hmany : 1 ≤ 1 + (other / 26 % 4).toNat ∧ 1 + (other / 26 % 4).toNat ≤ 4 := by omega
    generalize 1 + (other / 26 % 4).toNat = many at *
    refine hs_cons (ht_set 4 nd (ev_call (k := k) C.letters hr (ea_cons (ev_v slot3 rfl) (ea_cons (((ev_bin ev_int (ev_bin (ev_bin (ev_v slot3 rfl) ev_int (by walk_at "br")) ev_int (by walk_at "br")) (by walk_at "br"))).to (by rw [emany])) ea_nil)) ⟨other, many, rfl, by omega, rfl⟩) ?_)
    walk_at "nf"
    have hlne : letL other many ≠ [] := by
      intro z
      have := congrArg List.length z
      unfold letL at this
      rw [List.length_map, List.length_range] at this
      simp at this
      omega
    have hll : (letL other many).length ≤ 100 := by unfold letL; rw [List.length_map, List.length_range]; omega
    have hlt := letL_lt other many
    generalize letL other many = ls at *
    have hcut : ((ns.drop 2).take 60).length ≤ 60 := by rw [List.length_take]; exact Nat.min_le_left _ _
    refine hs_cons (ht_set 5 nd (d := .list (((ns.drop 2).take 60 ++ [(ns.length : Int)]).map .int)) (EvD.to (ev_bin (da := .list (((ns.drop 2).take 60).map .int)) (db := .list [.int (ns.length : Int)]) (ev_cutS (m := 2) (k := 62) (ex_scr 0 rfl) ev_int ev_int) (ev_lst (ds := [.int (ns.length : Int)]) (eas_cons (ev_lenS (ex_scr 0 rfl) C.len) eas_nil (by intro _; rfl)) (by walk_at "len")) (br_cat (small_len (by rw [List.length_map]; show _ + 1 ≤ 1000; omega)))) (by rw [List.map_append]; rfl)) ?_)
    walk_at "nf"
    have hcne : (ns.drop 2).take 60 ++ [(ns.length : Int)] ≠ [] := by simp
    have hcl : ((ns.drop 2).take 60 ++ [(ns.length : Int)]).length ≤ 61 := by rw [List.length_append]; show _ + 1 ≤ 61; omega
    generalize (ns.drop 2).take 60 ++ [(ns.length : Int)] = cells at *
    refine hs_cons (ht_set 6 nd (d := cpD n (carC cells n ls (other / 104))) (ev_call (k := k) C.carpet hr (ea_cons (ev_v slot5 rfl) (ea_cons (ev_v slot2 rfl) (ea_cons (ev_v slot4 rfl) (ea_cons (ev_bin (ev_v slot3 rfl) ev_int (by walk_at "br")) ea_nil)))) ⟨cells, n, ls, other / 104, rfl, hn.1, hn.2, hcne, by omega, hlne, hll, rfl⟩) ?_)
    walk_at "nf"
    have hok := let_ok hlt cells n (other / 104)
    generalize carC cells n ls (other / 104) = κ at *
    refine hs_cons (ht_set 7 nd (ev_bin (ev_bin (ev_v slot1 rfl) ev_int (by walk_at "br")) ev_int (by walk_at "br")) ?_)
    walk_at "nf"
    refine hs_cons (ht_if (et_cmp (ev_bin (ev_bin (ev_v slot1 rfl) ev_int (by walk_at "br")) ev_int (by walk_at "br")) ev_int (by walk_at "cr")) (fun hk => hs_cons (ht_set 7 nd (ev_bin (ev_bin (ev_v slot1 rfl) ev_int (by walk_at "br")) ev_int (by walk_at "br")) (hs_nil ?_))) (fun hk => hs_nil ?_))
    · walk_at "nf"
      exact law_tail C BO hr hn.1 hn.2 hok (Int.emod_nonneg _ (by decide)) hcl
    · exact law_tail C BO hr hn.1 hn.2 hok (Int.emod_nonneg _ (by decide)) hcl
end
end Ck
end Ck29Part

/-! ## CkG -/
section CkGPart
set_option linter.all false
set_option maxRecDepth 100000
set_option maxHeartbeats 4000000
/-! Movements as a group. Plain Lean. -/
namespace CkM
theorem mul_assoc' (a b c : Way) : (a.mul b).mul c = a.mul (b.mul c) := by
  revert a b c
  have : ∀ a ∈ Way.all, ∀ b ∈ Way.all, ∀ c ∈ Way.all, (a.mul b).mul c = a.mul (b.mul c) := by decide +kernel
  exact fun a b c => this a (Way.mem_all a) b (Way.mem_all b) c (Way.mem_all c)
theorem led_thn {n : Nat} (h1 : 1 ≤ n) (h3 : n ≤ 3) (x y : Mv) (p : Pl) : led n (thn n x y) p = led n y (led n x p) := by
  obtain ⟨wx, dx, rx⟩ := x
  obtain ⟨wy, dy, ry⟩ := y
  obtain ⟨p1, p2⟩ := p
  have : n = 1 ∨ n = 2 ∨ n = 3 := by omega
  rcases this with rfl | rfl | rfl
  all_goals
    cases wx <;> cases wy <;>
    · simp only [led, thn, turned, Way.mul, Way.sa, Way.sb, Way.sc, Way.sd, Prod.mk.injEq]
      constructor <;> omega
theorem thn_assoc {n : Nat} (h1 : 1 ≤ n) (h3 : n ≤ 3) (x y z : Mv) : thn n (thn n x y) z = thn n x (thn n y z) := by
  have := led_thn h1 h3 y z (x.d, x.r)
  unfold thn at this ⊢
  simp only [Mv.mk.injEq]
  exact ⟨mul_assoc' _ _ _, by rw [this], by rw [this]⟩
theorem emod_of {n : Nat} {a : Int} (h0 : 0 ≤ a) (h : a < n) : a % (n : Int) = a := Int.emod_eq_of_lt h0 h
theorem led_idm {n : Nat} {p : Pl} (hp : p ∈ allPl n) : led n idm p = p := by
  obtain ⟨⟨a, b⟩, c, d⟩ := mem_allPl.mp hp
  unfold led turned idm
  simp only [Way.sa, Way.sb, Way.sc, Way.sd, Int.one_mul, Int.zero_mul, Int.add_zero, Int.zero_add]
  exact Prod.ext (emod_of a b) (emod_of c d)
theorem mul_stay (w : Way) : w.mul .stay = w := by cases w <;> rfl
theorem stay_mul (w : Way) : Way.stay.mul w = w := by cases w <;> rfl
theorem thn_idm {n : Nat} {x : Mv} (hx : x ∈ allMv n) : thn n x idm = x := by
  have := led_idm (mem_allMv.mp hx)
  unfold thn
  rw [this]
  show Mv.mk (x.w.mul .stay) x.d x.r = x
  rw [mul_stay]
theorem idm_thn {n : Nat} {x : Mv} (hx : x ∈ allMv n) : thn n idm x = x := by
  obtain ⟨⟨a, b⟩, c, d⟩ := mem_allPl.mp (mem_allMv.mp hx)
  unfold thn led turned idm
  simp only [Int.mul_zero, Int.add_zero, Int.zero_add, stay_mul]
  rw [emod_of a b, emod_of c d]
/-- what movements make -/
def Gs (n : Nat) (ms : List Mv) (x : Mv) : Prop := Rch (stepM n) ms idm x
section
variable {n : Nat} {ms ks : List Mv} {x y z : Mv} {p q : Pl}
theorem Gs.one (h1 : 1 ≤ n) : Gs n ms idm := .base
theorem Gs.mem (h1 : 1 ≤ n) (h : Gs n ms x) : x ∈ allMv n := h.inv (· ∈ allMv n) (idm_mem (by omega)) fun x g _ _ => thn_mem (by omega) x g
theorem Gs.gen (S : Sd n ms) (h : x ∈ ms) : Gs n ms x := by
  have : Gs n ms (thn n idm x) := Rch.one (step := stepM n) h
  rwa [idm_thn (S.hm x h)] at this
theorem Gs.mul (S : Sd n ms) (hx : Gs n ms x) (hy : Gs n ms y) : Gs n ms (thn n x y) := by
  have hxm := hx.mem S.h1
  induction hy with
  | base => rw [thn_idm hxm]; exact hx
  | @step y g _ hg ih =>
    have : thn n x (stepM n y g) = thn n (thn n x y) g := (thn_assoc S.h1 S.h3 x y g).symm
    rw [this]
    exact Rch.step ih hg
theorem Gs.sub (S : Sd n ms) (hks : ∀ k ∈ ks, Gs n ms k) (h : Gs n ks x) : Gs n ms x := by
  induction h with
  | base => exact .base
  | @step y g _ hg ih => exact Gs.mul S ih (hks g hg)
theorem Gs.more (h : Gs n ms x) (hk : ∀ m ∈ ms, m ∈ ks) : Gs n ks x := by
  induction h with
  | base => exact .base
  | @step y g _ hg ih => exact Rch.step ih (hk g hg)
def pow (n : Nat) (x : Mv) : Nat → Mv
  | 0 => idm
  | k + 1 => thn n (pow n x k) x
theorem pow24 : ∀ n : Nat, 1 ≤ n → n ≤ 3 → ∀ x ∈ allMv n, pow n x 24 = idm := by
  intro n h1 h3
  have : n = 1 ∨ n = 2 ∨ n = 3 := by omega
  rcases this with rfl | rfl | rfl <;> decide +kernel
theorem Gs.pow (S : Sd n ms) (hx : Gs n ms x) : ∀ k, Gs n ms (pow n x k)
  | 0 => .base
  | k + 1 => Gs.mul S (Gs.pow S hx k) hx
def inv (n : Nat) (x : Mv) : Mv := pow n x 23
theorem Gs.inv (S : Sd n ms) (hx : Gs n ms x) : Gs n ms (CkM.inv n x) := hx.pow S 23
theorem inv_thn {n : Nat} (h1 : 1 ≤ n) (h3 : n ≤ 3) {x : Mv} (hx : x ∈ allMv n) : thn n (inv n x) x = idm := pow24 n h1 h3 x hx
theorem pow_comm {n : Nat} (h1 : 1 ≤ n) (h3 : n ≤ 3) {x : Mv} (hx : x ∈ allMv n) : ∀ k, thn n x (pow n x k) = thn n (pow n x k) x
  | 0 => by show thn n x idm = thn n idm x; rw [thn_idm hx, idm_thn hx]
  | k + 1 => by
    show thn n x (thn n (pow n x k) x) = thn n (thn n (pow n x k) x) x
    rw [← thn_assoc h1 h3, pow_comm h1 h3 hx k]
theorem thn_inv {n : Nat} (h1 : 1 ≤ n) (h3 : n ≤ 3) {x : Mv} (hx : x ∈ allMv n) : thn n x (inv n x) = idm := by
  unfold inv
  rw [pow_comm h1 h3 hx]
  exact pow24 n h1 h3 x hx
theorem inv_mem {n : Nat} (h1 : 1 ≤ n) (x : Mv) : inv n x ∈ allMv n := thn_mem (by omega) _ x
/-- orbits by the group -/
theorem orb_iff (S : Sd n ms) (hp : p ∈ allPl n) : Rch (stepP n) ms p q ↔ ∃ x, Gs n ms x ∧ led n x p = q := by
  constructor
  · intro h
    induction h with
    | base => exact ⟨idm, .base, led_idm hp⟩
    | @step y g _ hg ih =>
      obtain ⟨x, h1, rfl⟩ := ih
      exact ⟨thn n x g, Rch.step h1 hg, led_thn S.h1 S.h3 x g p⟩
  · rintro ⟨x, h, rfl⟩
    induction h with
    | base =>
      rw [led_idm hp]
      exact .base
    | @step y g _ hg ih =>
      have : led n (stepM n y g) p = led n g (led n y p) := led_thn S.h1 S.h3 y g p
      rw [this]
      exact ih.step hg
/-- the same group: the same size, the same circles -/
theorem same_sz (h : ∀ x, Gs n ms x ↔ Gs n ks x) : szI n ms = szI n ks := by
  unfold szI madeL
  rw [reached_congr (univ := allMv n) fun y _ => h y]
theorem same_orbit (S : Sd n ms) (S' : Sd n ks) (h : ∀ x, Gs n ms x ↔ Gs n ks x) (hp : p ∈ allPl n) : orbit n ms p = orbit n ks p := by
  unfold orbit
  refine reached_congr fun q _ => ?_
  rw [orb_iff S hp, orb_iff S' hp]
  exact exists_congr fun x => and_congr (h x) Iff.rfl
theorem same_circles (S : Sd n ms) (S' : Sd n ks) (h : ∀ x, Gs n ms x ↔ Gs n ks x) : circlesL n ms = circlesL n ks := by
  have e : firsts n ms = firsts n ks := by
    unfold firsts
    refine List.filter_congr fun p hp => ?_
    refine Bool.eq_iff_iff.mpr ?_
    rw [isFirst_iff, isFirst_iff, same_orbit S S' h hp]
  unfold circlesL
  rw [e]
  refine List.map_congr_left fun p hp => ?_
  exact same_orbit S S' h (List.mem_filter.mp hp).1
theorem same_ch (S : Sd n ms) (S' : Sd n ks) (h : ∀ x, Gs n ms x ↔ Gs n ks x) (κ : Col) : chI n κ ms = chI n κ ks := by
  unfold chI
  rw [same_circles S S' h]
end
/-! ### the fold -/
theorem beats_up {s t c : Int} {b : Best} (h : beats s c b = true) (hst : s ≤ t) : beats t c b = true := by
  unfold beats at h ⊢
  rw [Bool.or_eq_true, Bool.and_eq_true] at h ⊢
  rcases h with h | ⟨h1, h2⟩
  · exact .inl (decide_eq_true (by have := of_decide_eq_true h; omega))
  · have h1 := of_decide_eq_true h1
    by_cases e : t = b.1
    · exact .inr ⟨decide_eq_true e, h2⟩
    · exact .inl (decide_eq_true (by omega))
theorem beats_trans {s c : Int} {b b' : Best} (h : beats s c b' = true) (h2 : beats b'.1 b'.2.1 b = true) : beats s c b = true := by
  unfold beats at *
  rw [Bool.or_eq_true, Bool.and_eq_true] at *
  rcases h with h | ⟨h, h'⟩ <;> rcases h2 with g | ⟨g, g'⟩
  · exact .inl (decide_eq_true (by have := of_decide_eq_true h; have := of_decide_eq_true g; omega))
  · exact .inl (decide_eq_true (by have := of_decide_eq_true h; have := of_decide_eq_true g; omega))
  · exact .inl (decide_eq_true (by have := of_decide_eq_true h; have := of_decide_eq_true g; omega))
  · exact .inr ⟨decide_eq_true (by have := of_decide_eq_true h; have := of_decide_eq_true g; omega), decide_eq_true (by have := of_decide_eq_true h'; have := of_decide_eq_true g'; omega)⟩
theorem bt_opt {n : Nat} {κ : Col} {most : Int} (hb : ∀ e ∈ groupsL n, szI n e.1 ≤ bdI n e) : ∀ l, (∀ e ∈ l, e ∈ groupsL n) → ∀ e ∈ l, chI n κ e.1 ≤ most → beats (szI n e.1) (chI n κ e.1) (btA n κ most l) = false :=
  btA_rec (P := fun l b => (∀ e ∈ l, e ∈ groupsL n) → ∀ e ∈ l, chI n κ e.1 ≤ most → beats (szI n e.1) (chI n κ e.1) b = false) (fun _ e he => nomatch he) fun l b e ih hl e' he' hm => by
    have old : ∀ e' ∈ l, chI n κ e'.1 ≤ most → beats (szI n e'.1) (chI n κ e'.1) b = false := ih fun e he => hl e (List.mem_append_left _ he)
    have heg := hl e (List.mem_append_right _ (by simp))
    have new : chI n κ e.1 ≤ most → beats (szI n e.1) (chI n κ e.1) (btStep n κ most b e) = false := fun hm => by
      unfold btStep
      split
      · split
        · unfold beats; simp
        · rename_i h; simpa using h
      · rename_i h
        refine Bool.eq_false_iff.mpr fun z => h ?_
        rw [Bool.and_eq_true]
        exact ⟨decide_eq_true hm, beats_up z (hb e heg)⟩
    have keep : ∀ s c, beats s c b = false → beats s c (btStep n κ most b e) = false := fun s c h => by
      unfold btStep
      split
      · split
        · rename_i h2
          refine Bool.eq_false_iff.mpr fun z => ?_
          rw [beats_trans z h2] at h
          cases h
        · exact h
      · exact h
    rcases List.mem_append.mp he' with he' | he'
    · exact keep _ _ (old e' he' hm)
    · rw [List.mem_singleton] at he'
      subst he'
      exact new hm
theorem bt_is {n : Nat} {κ : Col} {most : Int} (h0 : szI n [] = 1) (h0' : chI n κ [] = 0) (hm : 0 ≤ most) : ∀ l, (btA n κ most l).1 = szI n (btA n κ most l).2.2 ∧ (btA n κ most l).2.1 = chI n κ (btA n κ most l).2.2 ∧ chI n κ (btA n κ most l).2.2 ≤ most :=
  btA_rec (P := fun l b => b.1 = szI n b.2.2 ∧ b.2.1 = chI n κ b.2.2 ∧ chI n κ b.2.2 ≤ most) ⟨h0.symm, h0'.symm, by show chI n κ [] ≤ most; omega⟩ fun l b e ih => by
    unfold btStep
    split
    · rename_i h
      rw [Bool.and_eq_true] at h
      split
      · exact ⟨rfl, rfl, of_decide_eq_true h.1⟩
      · exact ih
    · exact ih
end CkM
end CkGPart

/-! ## CkH -/
section CkHPart
set_option linter.all false
set_option maxRecDepth 100000
set_option maxHeartbeats 4000000
/-! Every group is that of an entry. Plain Lean. -/
namespace CkM
def genW (head : List Way) : Nat → List Way
  | 0 => [.stay]
  | k + 1 => genW head k ++ (genW head k).flatMap fun a => head.map fun h => a.mul h
theorem genW_rch (head : List Way) : ∀ k, ∀ w ∈ genW head k, Rch Way.mul head .stay w
  | 0, w, h => by
    rw [genW, List.mem_singleton] at h
    subst h
    exact .base
  | k + 1, w, h => by
    rw [genW, List.mem_append] at h
    rcases h with h | h
    · exact genW_rch head k w h
    · obtain ⟨a, ha, h⟩ := List.mem_flatMap.mp h
      obtain ⟨g, hg, rfl⟩ := List.mem_map.mp h
      exact (genW_rch head k a ha).step hg
def wB (b0 b1 b2 b3 b4 b5 b6 b7 : Bool) : Way → Bool
  | .stay => b0 | .turn => b1 | .half => b2 | .back => b3 | .side => b4 | .flip => b5 | .cross => b6 | .other => b7
def okW (f : Way → Bool) : Bool := !(f .stay && Way.all.all fun a => Way.all.all fun b => !(f a) || !(f b) || f (a.mul b)) || (List.range 10).any fun i => ((HEADS.getD i []).all f) && (Way.all.all fun w => !(f w) || (genW (HEADS.getD i []) 4).contains w)
theorem okW_all : ∀ b0 b1 b2 b3 b4 b5 b6 b7 : Bool, okW (wB b0 b1 b2 b3 b4 b5 b6 b7) = true := by decide +kernel
theorem ways_head (P : Way → Prop) (h0 : P .stay) (hm : ∀ a b, P a → P b → P (a.mul b)) : ∃ i, i < 10 ∧ (∀ w ∈ HEADS.getD i [], P w) ∧ ∀ w, P w → Rch Way.mul (HEADS.getD i []) .stay w := by
  have hP : ∀ w, ∃ b : Bool, b = true ↔ P w := fun w => by
    by_cases h : P w
    · exact ⟨true, by simp [h]⟩
    · exact ⟨false, by simp [h]⟩
  obtain ⟨b0, e0⟩ := hP .stay
  obtain ⟨b1, e1⟩ := hP .turn
  obtain ⟨b2, e2⟩ := hP .half
  obtain ⟨b3, e3⟩ := hP .back
  obtain ⟨b4, e4⟩ := hP .side
  obtain ⟨b5, e5⟩ := hP .flip
  obtain ⟨b6, e6⟩ := hP .cross
  obtain ⟨b7, e7⟩ := hP .other
  have hf : ∀ w, wB b0 b1 b2 b3 b4 b5 b6 b7 w = true ↔ P w := fun w => by cases w <;> assumption
  have := okW_all b0 b1 b2 b3 b4 b5 b6 b7
  generalize wB b0 b1 b2 b3 b4 b5 b6 b7 = f at *
  unfold okW at this
  rw [Bool.or_eq_true] at this
  rcases this with h | h
  · exfalso
    have h : (f .stay && Way.all.all fun a => Way.all.all fun b => !(f a) || !(f b) || f (a.mul b)) = false := by
      generalize (f .stay && Way.all.all fun a => Way.all.all fun b => !(f a) || !(f b) || f (a.mul b)) = z at h
      cases z
      · rfl
      · cases h
    have h2 : (f .stay && Way.all.all fun a => Way.all.all fun b => !(f a) || !(f b) || f (a.mul b)) = true := by
      rw [Bool.and_eq_true]
      refine ⟨(hf _).mpr h0, List.all_eq_true.mpr fun a _ => List.all_eq_true.mpr fun b _ => ?_⟩
      cases ha : f a with
      | false => rfl
      | true =>
        cases hb : f b with
        | false => rfl
        | true => simpa using (hf _).mpr (hm a b ((hf a).mp ha) ((hf b).mp hb))
    rw [h] at h2
    cases h2
  · obtain ⟨i, hi, h⟩ := List.any_eq_true.mp h
    rw [Bool.and_eq_true] at h
    refine ⟨i, List.mem_range.mp hi, fun w hw => (hf w).mp (List.all_eq_true.mp h.1 w hw), fun w hw => ?_⟩
    have h2 := List.all_eq_true.mp h.2 w (Way.mem_all w)
    rw [(hf w).mpr hw] at h2
    exact genW_rch _ 4 w (by simpa using h2)
def sv (p : Pl) : Mv := ⟨.stay, p.1, p.2⟩
theorem sv_inj {p q : Pl} (h : sv p = sv q) : p = q := by
  unfold sv at h
  injection h with _ h1 h2
  exact Prod.ext h1 h2
theorem span2 : ∀ n : Nat, 1 ≤ n → n ≤ 3 → ∀ a ∈ allPl n, sv a ≠ idm → ∀ b ∈ allPl n, (∀ i ∈ List.range 3, pow n (sv a) i ≠ sv b) → ∀ t ∈ allPl n, ∃ i ∈ List.range 3, ∃ j ∈ List.range 3, thn n (pow n (sv a) i) (pow n (sv b) j) = sv t := by
  intro n h1 h3
  have : n = 1 ∨ n = 2 ∨ n = 3 := by omega
  rcases this with rfl | rfl | rfl <;> decide +kernel
theorem shove_all : ∀ n : Nat, 1 ≤ n → n ≤ 3 → ∀ p ∈ allPl n, sv p ∈ shoveL n := by
  intro n h1 h3
  have : n = 1 ∨ n = 2 ∨ n = 3 := by omega
  rcases this with rfl | rfl | rfl <;> decide +kernel
section
variable {n : Nat} {ms ks : List Mv} {x y z : Mv} {p q : Pl}
theorem few_gs (S : Sd n [x, y]) : ∀ z, Gs n (fewOf x y) z ↔ Gs n [x, y] z := fun z => by
  have S' : Sd n (fewOf x y) := ⟨S.h1, S.h3, fun m hm => S.hm m (List.mem_filter.mp hm).1⟩
  constructor
  · exact fun h => h.more fun m hm => (List.mem_filter.mp hm).1
  · refine fun h => Gs.sub S' (fun k hk => ?_) h
    by_cases e : k = idm
    · subst e; exact .base
    · exact Gs.gen S' (List.mem_filter.mpr ⟨hk, decide_eq_true e⟩)
/-- two shoves make all of a group's shoves -/
theorem shoves_two (S : Sd n ms) : ∃ a b : Pl, a ∈ allPl n ∧ b ∈ allPl n ∧ Gs n ms (sv a) ∧ Gs n ms (sv b) ∧ ∀ t, t ∈ allPl n → Gs n ms (sv t) → Gs n [sv a, sv b] (sv t) := by
  have h1 := S.h1
  have h3 := S.h3
  have h0 : ((0, 0) : Pl) ∈ allPl n := mem_allMv.mp (idm_mem (by omega))
  have e0 : sv (0, 0) = idm := rfl
  by_cases hA : ∃ a, a ∈ allPl n ∧ Gs n ms (sv a) ∧ sv a ≠ idm
  · obtain ⟨a, ha, hga, hne⟩ := hA
    by_cases hB : ∃ b, b ∈ allPl n ∧ Gs n ms (sv b) ∧ ∀ i ∈ List.range 3, pow n (sv a) i ≠ sv b
    · obtain ⟨b, hb, hgb, hnb⟩ := hB
      refine ⟨a, b, ha, hb, hga, hgb, fun t ht _ => ?_⟩
      have S2 : Sd n [sv a, sv b] := ⟨h1, h3, fun m hm => by
        simp only [List.mem_cons, List.not_mem_nil, or_false] at hm
        rcases hm with rfl | rfl
        · exact mem_allMv.mpr ha
        · exact mem_allMv.mpr hb⟩
      obtain ⟨i, _, j, _, e⟩ := span2 n h1 h3 a ha hne b hb hnb t ht
      rw [← e]
      exact Gs.mul S2 ((Gs.gen S2 (by simp)).pow S2 i) ((Gs.gen S2 (by simp)).pow S2 j)
    · refine ⟨a, (0, 0), ha, h0, hga, by rw [e0]; exact .base, fun t ht hgt => ?_⟩
      have S2 : Sd n [sv a, sv (0, 0)] := ⟨h1, h3, fun m hm => by
        simp only [List.mem_cons, List.not_mem_nil, or_false] at hm
        rcases hm with rfl | rfl
        · exact mem_allMv.mpr ha
        · exact mem_allMv.mpr h0⟩
      have : ∃ i, pow n (sv a) i = sv t := by
        refine Classical.byContradiction fun z => hB ⟨t, ht, hgt, fun i _ e => z ⟨i, e⟩⟩
      obtain ⟨i, e⟩ := this
      rw [← e]
      exact (Gs.gen S2 (by simp)).pow S2 i
  · refine ⟨(0, 0), (0, 0), h0, h0, by rw [e0]; exact .base, by rw [e0]; exact .base, fun t ht hgt => ?_⟩
    have : sv t = idm := Classical.byContradiction fun z => hA ⟨t, ht, hgt, z⟩
    rw [this]
    exact .base
theorem made_gs (h : madeL n ms = madeL n ks) (h1 : 1 ≤ n) : ∀ x, Gs n ms x ↔ Gs n ks x := fun x => by
  have e : ∀ ms : List Mv, Gs n ms x ↔ x ∈ madeL n ms := fun ms => by
    unfold madeL
    rw [mem_reached]
    exact ⟨fun h => ⟨h.mem h1, h⟩, fun h => h.2⟩
  rw [e ms, e ks, h]
theorem stay_gs (h : ∀ m ∈ ms, m.w = .stay) (hx : Gs n ms x) : x.w = .stay := by
  induction hx with
  | base => rfl
  | @step y g _ hg ih =>
    show y.w.mul g.w = .stay
    rw [ih, h g hg]
    rfl
theorem lat_stay (h1 : 1 ≤ n) {few : List Mv} (h : few ∈ latL n) : ∀ m ∈ few, m.w = .stay := fun m hm => by
  obtain ⟨a, ha, b, hb, rfl⟩ := few_mem h1 h
  have sh : ∀ m ∈ shoveL n, m.w = .stay := fun m hm => by
    obtain ⟨k, _, rfl⟩ := List.mem_map.mp hm
    rfl
  have := (List.mem_filter.mp hm).1
  simp only [List.mem_cons, List.not_mem_nil, or_false] at this
  rcases this with rfl | rfl
  · exact sh _ ha
  · exact sh _ hb
theorem lat_sd (h1 : 1 ≤ n) (h3 : n ≤ 3) {few : List Mv} (h : few ∈ latL n) : Sd n few := ⟨h1, h3, fun m hm => by
  obtain ⟨a, ha, b, hb, rfl⟩ := few_mem h1 h
  have := (List.mem_filter.mp hm).1
  simp only [List.mem_cons, List.not_mem_nil, or_false] at this
  rcases this with rfl | rfl
  · exact shove_mem h1 ha
  · exact shove_mem h1 hb⟩
theorem shoves_lat (S : Sd n ms) : ∃ few ∈ latL n, (∀ x, Gs n few x → Gs n ms x) ∧ ∀ t, t ∈ allPl n → Gs n ms (sv t) → Gs n few (sv t) := by
  obtain ⟨a, b, ha, hb, hga, hgb, hall⟩ := shoves_two S
  have h1 := S.h1
  have h3 := S.h3
  have S2 : Sd n [sv a, sv b] := ⟨h1, h3, fun m hm => by
    simp only [List.mem_cons, List.not_mem_nil, or_false] at hm
    rcases hm with rfl | rfl
    · exact mem_allMv.mpr ha
    · exact mem_allMv.mpr hb⟩
  obtain ⟨few, hf, he⟩ := lat_all n (pairsL n) (fewOf (sv a) (sv b)) (List.mem_flatMap.mpr ⟨sv a, shove_all n h1 h3 a ha, List.mem_map.mpr ⟨sv b, shove_all n h1 h3 b hb, rfl⟩⟩)
  have e := made_gs he h1
  refine ⟨few, hf, fun x hx => ?_, fun t ht hg => (e _).mpr ((few_gs S2 _).mpr (hall t ht hg))⟩
  refine Gs.sub S (fun k hk => ?_) ((few_gs S2 x).mp ((e x).mp hx))
  simp only [List.mem_cons, List.not_mem_nil, or_false] at hk
  rcases hk with rfl | rfl
  · exact hga
  · exact hgb
/-- a way of the group has a lift that starts at a start -/
theorem lift_start (S : Sd n ms) {few : List Mv} (hf : few ∈ latL n) (hsub : ∀ x, Gs n few x → Gs n ms x) {w : Way} (hw : ∃ x, Gs n ms x ∧ x.w = w) : ∃ s ∈ startL n (madeL n few), Gs n ms ⟨w, s.1, s.2⟩ := by
  obtain ⟨x, hx, rfl⟩ := hw
  have h1 := S.h1
  have h3 := S.h3
  have hxm := hx.mem h1
  rcases start_all n (madeL n few) (allPl n) (x.d, x.r) (mem_allMv.mp hxm) with h | h
  · exact ⟨_, h, hx⟩
  · obtain ⟨s, hs, h⟩ := List.mem_flatMap.mp h
    obtain ⟨m, hm, e⟩ := List.mem_map.mp h
    refine ⟨s, hs, ?_⟩
    have hsp : s ∈ allPl n := start_from n _ _ s hs
    have hgm : Gs n few m := (mem_reached.mp hm).2
    have hmw := stay_gs (lat_stay h1 hf) hgm
    have hmm := hgm.mem h1
    have ey : thn n ⟨x.w, s.1, s.2⟩ m = x := by
      unfold shift at e
      unfold thn led turned
      rw [hmw]
      show Mv.mk (x.w.mul .stay) ((1 * s.1 + 0 * s.2 + m.d) % n) ((0 * s.1 + 1 * s.2 + m.r) % n) = x
      rw [mul_stay, Int.one_mul, Int.zero_mul, Int.add_zero, Int.zero_mul, Int.one_mul, Int.zero_add]
      have e1 := congrArg Prod.fst e
      have e2 := congrArg Prod.snd e
      simp only at e1 e2
      rw [e1, e2]
    have : thn n x (inv n m) = ⟨x.w, s.1, s.2⟩ := by
      have h5 := thn_assoc h1 h3 ⟨x.w, s.1, s.2⟩ m (inv n m)
      rw [ey, thn_inv h1 h3 hmm, thn_idm (mem_allMv.mpr hsp)] at h5
      exact h5
    rw [← this]
    exact Gs.mul S hx ((hsub m hgm).inv S)
theorem lift_starts (S : Sd n ms) {few : List Mv} (hf : few ∈ latL n) (hsub : ∀ x, Gs n few x → Gs n ms x) : ∀ head : List Way, (∀ w ∈ head, ∃ x, Gs n ms x ∧ x.w = w) → ∃ ps : List Pl, ps.length = head.length ∧ (∀ p ∈ ps, p ∈ startL n (madeL n few)) ∧ (∀ m ∈ (head.zip ps).map (fun x => (⟨x.1, x.2.1, x.2.2⟩ : Mv)), Gs n ms m) ∧ ∀ w ∈ head, ∃ m ∈ (head.zip ps).map (fun x => (⟨x.1, x.2.1, x.2.2⟩ : Mv)), m.w = w
  | [], _ => ⟨[], rfl, (fun p hp => by cases hp), (fun m hm => by simp at hm), fun w hw => by cases hw⟩
  | w :: head, h => by
    obtain ⟨ps, h1, h2, h3, h4⟩ := lift_starts S hf hsub head fun w hw => h w (List.mem_cons_of_mem _ hw)
    obtain ⟨s, hs, hg⟩ := lift_start S hf hsub (h w List.mem_cons_self)
    refine ⟨s :: ps, by simp [h1], fun p hp => ?_, fun m hm => ?_, fun v hv => ?_⟩
    · rcases List.mem_cons.mp hp with rfl | hp
      · exact hs
      · exact h2 p hp
    · rw [List.zip_cons_cons, List.map_cons] at hm
      rcases List.mem_cons.mp hm with rfl | hm
      · exact hg
      · exact h3 m hm
    · rw [List.zip_cons_cons, List.map_cons]
      rcases List.mem_cons.mp hv with rfl | hv
      · exact ⟨_, List.mem_cons_self, rfl⟩
      · obtain ⟨m, hm, e⟩ := h4 v hv
        exact ⟨m, List.mem_cons_of_mem _ hm, e⟩
/-- every group is that of an entry -/
theorem group_all (S : Sd n ms) : ∃ e ∈ groupsL n, ∀ x, Gs n e.1 x ↔ Gs n ms x := by
  have h1 := S.h1
  have h3 := S.h3
  obtain ⟨i, hi, hw1, hw2⟩ := ways_head (fun w => ∃ x, Gs n ms x ∧ x.w = w) ⟨idm, .base, rfl⟩ fun a b ⟨x, hx, ex⟩ ⟨y, hy, ey⟩ => ⟨thn n x y, Gs.mul S hx hy, by show x.w.mul y.w = _; rw [ex, ey]⟩
  obtain ⟨few, hf, hsub, hsh⟩ := shoves_lat S
  obtain ⟨ps, p1, p2, p3, p4⟩ := lift_starts S hf hsub (HEADS.getD i []) hw1
  have hlm := lift_mem (startL n (madeL n few)) (HEADS.getD i []) [[]] [] ps (by simp) p1 p2
  rw [List.nil_append] at hlm
  generalize ((HEADS.getD i []).zip ps).map (fun x => (⟨x.1, x.2.1, x.2.2⟩ : Mv)) = ahead at *
  have he : (few ++ ahead, SIZES.getD i 0) ∈ groupsL n := List.mem_flatMap.mpr ⟨few, hf, List.mem_flatMap.mpr ⟨i, List.mem_range.mpr hi, List.mem_map.mpr ⟨ahead, hlm, rfl⟩⟩⟩
  have S' : Sd n (few ++ ahead) := ⟨h1, h3, group_mem h1 he⟩
  have Sf := lat_sd h1 h3 hf
  refine ⟨_, he, fun x => ⟨fun h => Gs.sub S (fun k hk => ?_) h, fun hx => ?_⟩⟩
  · rcases List.mem_append.mp hk with hk | hk
    · exact hsub k (Gs.gen Sf hk)
    · exact p3 k hk
  · have hword : ∀ w, Rch Way.mul (HEADS.getD i []) .stay w → ∃ z, Gs n ahead z ∧ z.w = w := fun w hw => by
      induction hw with
      | base => exact ⟨idm, .base, rfl⟩
      | @step a g _ hg ih =>
        obtain ⟨z, hz, ez⟩ := ih
        obtain ⟨m, hm, em⟩ := p4 g hg
        exact ⟨thn n z m, Rch.step hz hm, by show z.w.mul m.w = _; rw [ez, em]⟩
    obtain ⟨z, hz, ez⟩ := hword x.w (hw2 x.w ⟨x, hx, rfl⟩)
    have hzE : Gs n (few ++ ahead) z := hz.more fun m hm => List.mem_append_right _ hm
    have hzG : Gs n ms z := Gs.sub S p3 hz
    have hzm := hz.mem h1
    have ht : Gs n ms (thn n (inv n z) x) := Gs.mul S (hzG.inv S) hx
    have htw : (thn n (inv n z) x).w = .stay := by
      show (inv n z).w.mul x.w = .stay
      rw [← ez]
      exact congrArg Mv.w (inv_thn h1 h3 hzm)
    have htm : thn n (inv n z) x = sv ((thn n (inv n z) x).d, (thn n (inv n z) x).r) := by
      generalize thn n (inv n z) x = t at *
      obtain ⟨w, d, r⟩ := t
      have htw : w = .stay := htw
      subst htw
      rfl
    have htp := mem_allMv.mp (ht.mem h1)
    rw [htm] at ht
    have hfE : Gs n (few ++ ahead) (thn n (inv n z) x) := by
      rw [htm]
      exact (hsh _ htp ht).more fun m hm => List.mem_append_left _ hm
    have : thn n z (thn n (inv n z) x) = x := by
      rw [← thn_assoc h1 h3, thn_inv h1 h3 hzm, idm_thn (hx.mem h1)]
    rw [← this]
    exact Gs.mul S' hzE hfE
end
end CkM
end CkHPart

/-! ## CkI -/
section CkIPart
set_option linter.all false
set_option maxRecDepth 100000
set_option maxHeartbeats 4000000
/-! The bound: an entry's group is no larger than told. Plain Lean. -/
namespace CkM
open Ck
/-- the ways of a head -/
def clW (i : Nat) : List Way := (genW (HEADS.getD i []) 4).eraseDups
theorem clW_ok : ∀ i ∈ List.range 10, Way.stay ∈ clW i ∧ (∀ a ∈ clW i, ∀ h ∈ HEADS.getD i [], a.mul h ∈ clW i) ∧ (clW i).length = SIZES.getD i 0 := by decide +kernel
theorem fibres {α : Type} (f : α → Way) (k : Nat) : ∀ (C : List Way) (L : List α), (∀ x ∈ L, f x ∈ C) → (∀ w, (L.filter fun x => decide (f x = w)).length ≤ k) → L.length ≤ C.length * k
  | [], L, h, _ => by
    cases L with
    | nil => simp
    | cons a L => exact absurd (h a List.mem_cons_self) (by simp)
  | c :: C, L, h, hk => by
    have e : L.length = (L.filter fun x => decide (f x = c)).length + (L.filter fun x => !decide (f x = c)).length := by
      clear h hk
      induction L with
      | nil => rfl
      | cons a L ih =>
        rw [List.filter_cons, List.filter_cons]
        by_cases z : f a = c <;> simp [z, ih] <;> omega
    have ih := fibres f k C (L.filter fun x => !decide (f x = c)) (fun x hx => by
      obtain ⟨h1, h2⟩ := List.mem_filter.mp hx
      rcases List.mem_cons.mp (h x h1) with z | z
      · rw [z] at h2; simp at h2
      · exact z) (fun w => Nat.le_trans (List.Sublist.length_le ((List.filter_sublist (l := L) (p := fun x => !decide (f x = c))).filter _)) (hk w))
    have := hk c
    rw [e, List.length_cons, Nat.succ_mul]
    omega
section
variable {n : Nat} {ms : List Mv} {x y z : Mv} {p q : Pl}
noncomputable def tL (n : Nat) (ms : List Mv) : List Pl := (allPl n).filter fun p => @decide (Gs n ms (sv p)) (Classical.propDecidable _)
theorem mem_tL : p ∈ tL n ms ↔ p ∈ allPl n ∧ Gs n ms (sv p) := by
  unfold tL
  rw [List.mem_filter]
  simp
theorem sv_of (h : x.w = .stay) : x = sv (x.d, x.r) := by
  obtain ⟨w, d, r⟩ := x
  have h : w = .stay := h
  subst h
  rfl
theorem size_le (S : Sd n ms) {C : List Way} (hC : ∀ x, Gs n ms x → x.w ∈ C) : (madeL n ms).length ≤ C.length * (tL n ms).length := by
  have h1 := S.h1
  have h3 := S.h3
  refine fibres Mv.w _ C _ (fun x hx => hC x (mem_reached.mp hx).2) fun w => ?_
  cases e : (madeL n ms).filter fun x => decide (x.w = w) with
  | nil => exact Nat.zero_le _
  | cons x0 L0 =>
    rw [← e]
    have hx0 : x0 ∈ (madeL n ms).filter fun x => decide (x.w = w) := by rw [e]; exact List.mem_cons_self
    obtain ⟨hx0, hw0⟩ := List.mem_filter.mp hx0
    have hg0 : Gs n ms x0 := (mem_reached.mp hx0).2
    have hm0 := hg0.mem h1
    have hw0 : x0.w = w := of_decide_eq_true hw0
    have hnd : ((madeL n ms).filter fun x => decide (x.w = w)).Nodup := ((mv_nodup h1 h3).sublist List.filter_sublist).sublist List.filter_sublist
    have hback : ∀ x, Gs n ms x → thn n x0 (thn n (inv n x0) x) = x := fun x hx => by rw [← thn_assoc h1 h3, thn_inv h1 h3 hm0, idm_thn (hx.mem h1)]
    have hst : ∀ x ∈ (madeL n ms).filter (fun x => decide (x.w = w)), Gs n ms x ∧ (thn n (inv n x0) x).w = .stay := fun x hx => by
      obtain ⟨h5, h6⟩ := List.mem_filter.mp hx
      have hg : Gs n ms x := (mem_reached.mp h5).2
      have hw : x.w = w := of_decide_eq_true h6
      refine ⟨hg, ?_⟩
      show (inv n x0).w.mul x.w = .stay
      rw [hw, ← hw0]
      exact congrArg Mv.w (inv_thn h1 h3 hm0)
    have hmap : (((madeL n ms).filter fun x => decide (x.w = w)).map fun x => ((thn n (inv n x0) x).d, (thn n (inv n x0) x).r)).Nodup := by
      rw [List.nodup_iff_pairwise_ne] at hnd ⊢
      rw [List.pairwise_map]
      refine hnd.imp_of_mem fun {x y} hx hy hne z => hne ?_
      obtain ⟨gx, sx⟩ := hst x hx
      obtain ⟨gy, sy⟩ := hst y hy
      have : thn n (inv n x0) x = thn n (inv n x0) y := by rw [sv_of sx, sv_of sy, z]
      rw [← hback x gx, ← hback y gy, this]
    have := hmap.length_le_of_subset (l₂ := tL n ms) fun q hq => by
      obtain ⟨x, hx, rfl⟩ := List.mem_map.mp hq
      obtain ⟨gx, sx⟩ := hst x hx
      have ht : Gs n ms (thn n (inv n x0) x) := Gs.mul S (hg0.inv S) gx
      refine mem_tL.mpr ⟨mem_allMv.mp (ht.mem h1), ?_⟩
      rw [← sv_of sx]
      exact ht
    rwa [List.length_map] at this
theorem shift_inj (h1 : 1 ≤ n) (h3 : n ≤ 3) {t u : Pl} (ht : t ∈ allPl n) (hu : u ∈ allPl n) (h : led n (sv t) p = led n (sv u) p) : t = u := by
  obtain ⟨⟨a1, a2⟩, a3, a4⟩ := mem_allPl.mp ht
  obtain ⟨⟨b1, b2⟩, b3, b4⟩ := mem_allPl.mp hu
  obtain ⟨t1, t2⟩ := t
  obtain ⟨u1, u2⟩ := u
  obtain ⟨p1, p2⟩ := p
  have e1 := congrArg Prod.fst h
  have e2 := congrArg Prod.snd h
  simp only [led, turned, sv, Way.sa, Way.sb, Way.sc, Way.sd] at e1 e2 a1 a2 a3 a4 b1 b2 b3 b4
  have : n = 1 ∨ n = 2 ∨ n = 3 := by omega
  rcases this with rfl | rfl | rfl <;> exact Prod.ext (by show t1 = u1; omega) (by show t2 = u2; omega)
theorem tL_nodup (S : Sd n ms) : (tL n ms).Nodup := (pl_nodup S.h1 S.h3).sublist List.filter_sublist
/-- places that are closed under the shoves: as many as a multiple of the shoves -/
theorem cosets (S : Sd n ms) : ∀ (N : Nat) (O : List Pl), O.length ≤ N → O.Nodup → (∀ q ∈ O, q ∈ allPl n) → (∀ q ∈ O, ∀ t ∈ tL n ms, led n (sv t) q ∈ O) → (tL n ms).length ∣ O.length
  | 0, O, hN, _, _, _ => by
    have : O = [] := List.length_eq_zero_iff.mp (Nat.le_zero.mp hN)
    subst this
    exact Nat.dvd_zero _
  | N + 1, [], _, _, _, _ => Nat.dvd_zero _
  | N + 1, p :: O, hN, hnd, hsub, hcl => by
    have h1 := S.h1
    have h3 := S.h3
    have hp := hsub p List.mem_cons_self
    have hCnd : ((tL n ms).map fun t => led n (sv t) p).Nodup := by
      have := tL_nodup S
      rw [List.nodup_iff_pairwise_ne] at this ⊢
      rw [List.pairwise_map]
      exact this.imp_of_mem fun {t u} ht hu hne z => hne (shift_inj h1 h3 (mem_tL.mp ht).1 (mem_tL.mp hu).1 z)
    have h00 : ((0, 0) : Pl) ∈ tL n ms := mem_tL.mpr ⟨mem_allMv.mp (idm_mem (by omega)), .base⟩
    have hpC : p ∈ (tL n ms).map fun t => led n (sv t) p := List.mem_map.mpr ⟨(0, 0), h00, led_idm hp⟩
    have hCsub : ∀ q ∈ (tL n ms).map (fun t => led n (sv t) p), q ∈ p :: O := fun q hq => by
      obtain ⟨t, ht, rfl⟩ := List.mem_map.mp hq
      exact hcl p List.mem_cons_self t ht
    have hlenC : ((tL n ms).map fun t => led n (sv t) p).length = (tL n ms).length := List.length_map _
    generalize hC : (tL n ms).map (fun t => led n (sv t) p) = C at *
    have e1 : ((p :: O).filter fun q => decide (q ∈ C)).Perm C := by
      refine (List.perm_ext_iff_of_nodup (hnd.sublist List.filter_sublist) hCnd).mpr fun q => ?_
      rw [List.mem_filter, decide_eq_true_iff]
      exact ⟨fun h => h.2, fun h => ⟨hCsub q h, h⟩⟩
    have e2 : (p :: O).length = ((p :: O).filter fun q => decide (q ∈ C)).length + ((p :: O).filter fun q => !decide (q ∈ C)).length := by
      generalize p :: O = L
      induction L with
      | nil => rfl
      | cons a L ih =>
        rw [List.filter_cons, List.filter_cons]
        by_cases z : a ∈ C <;> simp [z, ih] <;> omega
    have hpos : 0 < C.length := List.length_pos_of_mem hpC
    rw [e2, e1.length_eq]
    refine Nat.dvd_add (by rw [hlenC]; exact Nat.dvd_refl _) (cosets S N _ ?_ (hnd.sublist List.filter_sublist) (fun q hq => hsub q (List.mem_filter.mp hq).1) fun q hq t ht => ?_)
    · have := e1.length_eq
      omega
    · obtain ⟨hq1, hq2⟩ := List.mem_filter.mp hq
      have hq2 : q ∉ C := by simpa using hq2
      refine List.mem_filter.mpr ⟨hcl q hq1 t ht, ?_⟩
      have : led n (sv t) q ∉ C := fun z => hq2 ?_
      · simpa using this
      · rw [← hC] at z ⊢
        obtain ⟨u, hu, e⟩ := List.mem_map.mp z
        have gt := (mem_tL.mp ht).2
        have gu := (mem_tL.mp hu).2
        have hv : Gs n ms (thn n (sv u) (inv n (sv t))) := Gs.mul S gu (gt.inv S)
        have hiw : (inv n (sv t)).w = .stay := by
          have := congrArg Mv.w (inv_thn h1 h3 (gt.mem h1))
          have this : (inv n (sv t)).w.mul .stay = .stay := this
          rwa [mul_stay] at this
        have hvw : (thn n (sv u) (inv n (sv t))).w = .stay := by
          show Way.stay.mul (inv n (sv t)).w = .stay
          rw [hiw]
          rfl
        refine List.mem_map.mpr ⟨((thn n (sv u) (inv n (sv t))).d, (thn n (sv u) (inv n (sv t))).r), mem_tL.mpr ⟨mem_allMv.mp (hv.mem h1), by rw [← sv_of hvw]; exact hv⟩, ?_⟩
        show led n (sv ((thn n (sv u) (inv n (sv t))).d, (thn n (sv u) (inv n (sv t))).r)) p = q
        rw [← sv_of hvw, led_thn h1 h3, e, ← led_thn h1 h3, thn_inv h1 h3 (gt.mem h1), led_idm (hsub q hq1)]
theorem orbit_dvd (S : Sd n ms) (hp : p ∈ allPl n) : (tL n ms).length ∣ (orbit n ms p).length := by
  refine cosets S _ (orbit n ms p) (Nat.le_refl _) (orbit_nodup S) (fun q hq => orbit_sub hq) fun q hq t ht => ?_
  rw [mem_orbit S hp, orb_iff S hp] at hq ⊢
  obtain ⟨x, hx, rfl⟩ := hq
  exact ⟨thn n x (sv t), Gs.mul S hx (mem_tL.mp ht).2, led_thn S.h1 S.h3 x (sv t) p⟩
theorem gcd_dvd {k : Nat} : ∀ (l : List Nat) (g : Nat), k ∣ g → (∀ a ∈ l, k ∣ a) → k ∣ l.foldl Nat.gcd g
  | [], g, h, _ => h
  | a :: l, g, h, hl => gcd_dvd l _ (Nat.dvd_gcd h (hl a List.mem_cons_self)) fun b hb => hl b (List.mem_cons_of_mem _ hb)
theorem gcd_pos : ∀ (l : List Nat) (g : Nat), (0 < g ∨ ∃ a ∈ l, 0 < a) → 0 < l.foldl Nat.gcd g
  | [], g, h => by
    rcases h with h | ⟨a, ha, _⟩
    · exact h
    · cases ha
  | b :: l, g, h => by
    refine gcd_pos l _ ?_
    rcases h with h | ⟨a, ha, h⟩
    · exact .inl (Nat.gcd_pos_of_pos_left _ h)
    · rcases List.mem_cons.mp ha with rfl | ha
      · exact .inl (Nat.gcd_pos_of_pos_right _ h)
      · exact .inr ⟨a, ha, h⟩
theorem bound_ok (h1 : 1 ≤ n) (h3 : n ≤ 3) : ∀ e ∈ groupsL n, szI n e.1 ≤ bdI n e := fun e he => by
  have S : Sd n e.1 := ⟨h1, h3, group_mem h1 he⟩
  obtain ⟨few, hf, h⟩ := List.mem_flatMap.mp he
  obtain ⟨i, hi, h⟩ := List.mem_flatMap.mp h
  obtain ⟨a, ha, rfl⟩ := List.mem_map.mp h
  obtain ⟨c1, c2, c3⟩ := clW_ok i hi
  obtain ⟨a0, ha0, ps, p1, p2, p3⟩ := lift_inv _ _ _ _ ha
  rw [List.mem_singleton] at ha0
  subst ha0
  rw [List.nil_append] at p3
  have hC : ∀ x, Gs n (few ++ a) x → x.w ∈ clW i := fun x hx => by
    induction hx with
    | base => exact c1
    | @step y g _ hg ih =>
      show y.w.mul g.w ∈ clW i
      rcases List.mem_append.mp hg with hg | hg
      · rw [lat_stay h1 hf g hg, mul_stay]
        exact ih
      · rw [p3] at hg
        obtain ⟨z, hz, rfl⟩ := List.mem_map.mp hg
        exact c2 _ ih _ (List.of_mem_zip hz).1
  have hle := size_le S hC
  rw [c3] at hle
  have hdv : (tL n (few ++ a)).length ∣ gcdL ((circlesL n (few ++ a)).map List.length) := by
    refine gcd_dvd _ 0 (Nat.dvd_zero _) fun b hb => ?_
    obtain ⟨c, hc, rfl⟩ := List.mem_map.mp hb
    obtain ⟨p, hp, rfl⟩ := List.mem_map.mp hc
    exact orbit_dvd S (List.mem_filter.mp hp).1
  have hpos : 0 < gcdL ((circlesL n (few ++ a)).map List.length) := by
    refine gcd_pos _ 0 (.inr ?_)
    have h0 : ((0, 0) : Pl) ∈ allPl n := mem_allMv.mp (idm_mem (by omega))
    obtain ⟨q, _, h2, h5, _⟩ := head_first S h0
    exact ⟨(orbit n (few ++ a) q).length, List.mem_map.mpr ⟨_, List.mem_map.mpr ⟨q, List.mem_filter.mpr ⟨orbit_sub h2, h5⟩, rfl⟩, rfl⟩, List.length_pos_of_mem (orbit_self S (orbit_sub h2))⟩
  have hkg := Nat.le_of_dvd hpos hdv
  have := Nat.le_trans hle (Nat.mul_le_mul (Nat.le_refl (SIZES.getD i 0)) hkg)
  unfold szI bdI
  show ((madeL n (few ++ a)).length : Int) ≤ ((SIZES.getD i 0 : Nat) : Int) * ((gcdL ((circlesL n (few ++ a)).map List.length) : Nat) : Int)
  exact_mod_cast this
end
end CkM
end CkIPart

/-! ## CkZ -/
section CkZPart
set_option Elab.async false
set_option linter.all false
set_option maxRecDepth 100000
set_option maxHeartbeats 4000000
/-! The answer is the best. Plain Lean. -/
namespace Ck
open PySem CkM
section
variable {n : Nat} {ms : List Mv} {κ α β : Col} {p q : Pl}
theorem flat_perm (S : Sd n ms) : (circlesL n ms).flatten.Perm (allPl n) := by
  refine (List.perm_ext_iff_of_nodup (circles_nodup S) (pl_nodup S.h1 S.h3)).mpr fun p => ?_
  rw [List.mem_flatten]
  exact ⟨fun ⟨c, hc, hp⟩ => circle_sub S hc p hp, fun hp => circles_all S hp⟩
theorem filter_flat (f : Pl → Bool) (g : List Pl → Int) : ∀ L : List (List Pl), (∀ c ∈ L, ((c.filter f).length : Int) = g c) → ((L.flatten.filter f).length : Int) = (L.map g).sum
  | [], _ => rfl
  | c :: L, h => by
    rw [List.flatten_cons, List.filter_append, List.length_append, List.map_cons, List.sum_cons, Int.natCast_add, h c List.mem_cons_self, filter_flat f g L fun c hc => h c (List.mem_cons_of_mem _ hc)]
theorem chg_len (S : Sd n ms) : ((chg n κ (mend n κ ms)).length : Int) = chI n κ ms := by
  unfold chg
  rw [← ((flat_perm S).filter _).length_eq]
  rw [filter_flat _ (fun c => (c.length : Int) - (mostN κ c : Int)) _ fun c hc => ?_]
  · rw [sum_len, circles_flat_len S]
    unfold chI
    simp
  · have e : (c.filter fun p => decide (mend n κ ms p ≠ κ p)) = c.filter fun p => !decide (κ p = topC κ c) := by
      refine List.filter_congr fun p hp => ?_
      rw [mend_eq S hc hp]
      by_cases z : κ p = topC κ c
      · simp [z]
      · simp [z, Ne.symm z]
    rw [e]
    have h1 : c.length = (c.filter fun p => decide (κ p = topC κ c)).length + (c.filter fun p => !decide (κ p = topC κ c)).length := by
      generalize topC κ c = k
      clear e hc
      induction c with
      | nil => rfl
      | cons a c ih =>
        rw [List.filter_cons, List.filter_cons]
        by_cases z : κ a = k <;> simp [z, ih] <;> omega
    have h2 : (c.filter fun p => decide (κ p = topC κ c)).length = mostN κ c := maxKeys_cnt (topC_mem (circle_ne S hc))
    omega
theorem cp_congr (h : ∀ p ∈ allPl n, α p = β p) : cpD n α = cpD n β := by
  unfold cpD
  congr 1
  refine List.map_congr_left fun r hr => ?_
  have hr := List.mem_range.mp hr
  unfold rowS
  congr 2
  congr 1
  refine List.map_congr_left fun c hc => ?_
  have hc := List.mem_range.mp hc
  exact h _ (mem_allPl.mpr ⟨⟨by omega, by omega⟩, by omega, by omega⟩)
theorem mend_inv (S : Sd n ms) : ∀ m ∈ ms, cpD n (colOf (prsM n (mend n κ ms) m (n * n))) = cpD n (mend n κ ms) := fun m hm => by
  have h1 := S.h1
  have h3 := S.h3
  refine cp_congr fun q hq => ?_
  obtain ⟨p0, hp0, e0⟩ := led_onto n h1 h3 m (S.hm m hm) q hq
  have hsome : (look (prsM n (mend n κ ms) m (n * n)) q).isSome = true := by
    unfold look
    rw [Option.isSome_map, List.find?_isSome]
    refine ⟨(CkM.led n m p0, mend n κ ms p0), List.mem_reverse.mpr (List.mem_map.mpr ⟨p0, ?_, rfl⟩), decide_eq_true e0⟩
    rw [List.take_of_length_le (by rw [len_pl]; exact Nat.le_refl _)]
    exact hp0
  unfold colOf
  cases e : look (prsM n (mend n κ ms) m (n * n)) q with
  | none => rw [e] at hsome; cases hsome
  | some v =>
    show v = mend n κ ms q
    unfold look at e
    obtain ⟨z, z1, z2⟩ := Option.map_eq_some_iff.mp e
    have z3 : decide (z.1 = q) = true := List.find?_some (p := fun w : Pl × Nat => decide (w.1 = q)) z1
    have z3 := of_decide_eq_true z3
    have z4 := List.mem_reverse.mp (List.mem_of_find?_eq_some z1)
    obtain ⟨p, hp, rfl⟩ := List.mem_map.mp z4
    have hp : p ∈ allPl n := List.mem_of_mem_take hp
    have z3 : CkM.led n m p = q := z3
    have z2 : mend n κ ms p = v := z2
    rw [← z2, ← z3]
    obtain ⟨c, hc, hpc⟩ := circles_all S hp
    have hqc : CkM.led n m p ∈ c := by
      obtain ⟨f, hf, _, rfl⟩ := circles_mem S hc
      rw [mem_orbit S hf] at hpc ⊢
      exact hpc.step hm
    rw [mend_eq S hc hpc, mend_eq S hc hqc]
end
theorem nil_made {n : Nat} (h1 : 1 ≤ n) (h3 : n ≤ 3) : szI n [] = 1 := by
  have S : Sd n [] := ⟨h1, h3, fun m hm => by cases hm⟩
  have hg : ∀ x, Gs n [] x ↔ x = idm := fun x => by
    constructor
    · intro h
      cases h with
      | base => rfl
      | step _ hg => cases hg
    · rintro rfl; exact .base
  have : (madeL n []).Perm [idm] := by
    refine (List.perm_ext_iff_of_nodup ((mv_nodup h1 h3).sublist List.filter_sublist) (by simp)).mpr fun x => ?_
    show x ∈ reached (allMv n) (stepM n) [] idm ↔ _
    rw [mem_reached, List.mem_singleton]
    exact ⟨fun h => (hg x).mp h.2, fun h => ⟨h ▸ idm_mem (by omega), (hg x).mpr h⟩⟩
  unfold szI
  rw [this.length_eq]
  rfl
theorem nil_ch {n : Nat} {κ : Col} (h1 : 1 ≤ n) (h3 : n ≤ 3) : chI n κ [] = 0 := by
  have S : Sd n [] := ⟨h1, h3, fun m hm => by cases hm⟩
  rw [← chg_len S]
  have : chg n κ (mend n κ []) = [] := by
    unfold chg
    rw [List.filter_eq_nil_iff]
    intro p hp z
    obtain ⟨c, hc, hpc⟩ := circles_all S hp
    have z := of_decide_eq_true z
    rw [mend_eq S hc hpc] at z
    obtain ⟨y, hy, e⟩ := maxKeys_from (topC_mem (κ := κ) (circle_ne S hc))
    obtain ⟨f, hf, _, rfl⟩ := circles_mem S hc
    have one : ∀ q, q ∈ orbit n [] f → q = f := fun q hq => by
      rw [mem_orbit S hf] at hq
      cases hq with
      | base => rfl
      | step _ hg => cases hg
    rw [one y hy] at e
    rw [one p hpc] at z
    exact z e.symm
  rw [this]
  rfl
theorem entry_len {n : Nat} (h1 : 1 ≤ n) {e : List Mv × Nat} (he : e ∈ groupsL n) : e.1.length ≤ 4 := by
  obtain ⟨few, hf, h⟩ := List.mem_flatMap.mp he
  obtain ⟨i, hi, h⟩ := List.mem_flatMap.mp h
  obtain ⟨a, ha, rfl⟩ := List.mem_map.mp h
  obtain ⟨a0, ha0, ps, p1, p2, p3⟩ := lift_inv _ _ _ _ ha
  rw [List.mem_singleton] at ha0
  subst ha0
  have hhl : (HEADS.getD i []).length ≤ 2 := by
    have : ∀ i < 10, (HEADS.getD i []).length ≤ 2 := by decide
    exact this i (List.mem_range.mp hi)
  obtain ⟨x, _, y, _, rfl⟩ := few_mem h1 hf
  have h2 : (fewOf x y).length ≤ 2 := few_le
  show (fewOf x y ++ a).length ≤ 4
  rw [List.length_append, p3, List.nil_append, List.length_map, List.length_zip, p1]
  omega
theorem best_all : BestAll := fun n κ most h1 h3 hok hm => by
  have hb := bt_is (n := n) (κ := κ) (most := most) (nil_made h1 h3) (nil_ch h1 h3) hm (groupsL n)
  have hf := bt_from n κ most (groupsL n)
  have hS : Sd n (bestL n κ most).2.2 := ⟨h1, h3, fun m hm => by
    rcases hf with z | ⟨e, he, z⟩
    · have z : (bestL n κ most).2.2 = [] := z
      rw [z] at hm; cases hm
    · have z : e.1 = (bestL n κ most).2.2 := z
      rw [← z] at hm
      exact group_mem h1 he m hm⟩
  have hlen : (bestL n κ most).2.2.length ≤ 4 := by
    rcases hf with z | ⟨e, he, z⟩
    · have z : (bestL n κ most).2.2 = [] := z
      rw [z]; exact Nat.zero_le _
    · have z : e.1 = (bestL n κ most).2.2 := z
      rw [← z]
      exact entry_len h1 he
  have hc := chg_len (κ := κ) hS
  refine ⟨⟨hlen, hS, ?_, hb.1, mend_inv hS⟩, fun ms Sm hle z => ?_⟩
  · rw [hc]; exact hb.2.2
  · obtain ⟨e, he, hg⟩ := group_all Sm
    have Se : Sd n e.1 := ⟨h1, h3, group_mem h1 he⟩
    have hsz := same_sz hg
    have hch := same_ch Se Sm hg κ
    have ho := bt_opt (κ := κ) (most := most) (bound_ok h1 h3) (groupsL n) (fun _ h => h) e he (by rw [hch]; exact hle)
    rw [hsz, hch] at ho
    have : beats (szI n ms) (chI n κ ms) (bestL n κ most) = true := by
      unfold beats
      rw [Bool.or_eq_true, Bool.and_eq_true]
      rcases z with z | ⟨z1, z2⟩
      · exact .inl (decide_eq_true z)
      · refine .inr ⟨decide_eq_true z1, decide_eq_true ?_⟩
        rw [hc] at z2
        have h5 : (bestL n κ most).2.1 = chI n κ (bestL n κ most).2.2 := hb.2.1
        rw [h5]
        exact z2
    have ho : beats (szI n ms) (chI n κ ms) (bestL n κ most) = false := ho
    rw [ho] at this
    cases this
end Ck
end CkZPart

/-! ## CkH1 -/
section CkH1Part
set_option Elab.async false
set_option linter.all false
set_option maxRecDepth 100000
set_option maxHeartbeats 4000000
/-! The head. -/
namespace Ck
open PySem PySem.Spec PyProof.Rows L2 CkM
/-! ### what the top has written; the law's own head -/
theorem all_mk {l : PySem.W.OpenLaw} {w : World} {K : PySem.W.Frag} {h : Heap} {mg : Str → Option Value} {fa f1 f2 f3 f4 f5 f6 f7 f8 f9 f10 f11 f12 f13 f14 f15 f16 f17 f18 f19 f20 f21 f22 f23 f24 f25 f26 f27 f28 f29 f30 f31 f32 f33 f34 f35 : Addr} (X : K.In h) (G : h.Ns mainGlobals mg) (hfa : mg "law" = some (.ref fa))
    {od1 an1 od2 an2 od3 an3 od4 an4 od5 an5 od6 an6 od7 an7 od8 an8 od9 an9 od10 an10 od11 an11 od12 an12 od13 an13 od14 an14 od15 an15 od16 an16 od17 an17 od18 an18 od19 an19 od20 an20 od21 an21 od22 an22 od23 an23 od24 an24 od25 an25 od26 an26 od27 an27 od28 an28 od29 an29 od30 an30 od31 an31 od32 an32 od33 an33 od34 an34 od35 an35 : Option Addr} {sl1 sl2 sl3 sl4 sl5 sl6 sl7 sl8 sl9 sl10 sl11 sl12 sl13 sl14 sl15 sl16 sl17 sl18 sl19 sl20 sl21 sl22 sl23 sl24 sl25 sl26 sl27 sl28 sl29 sl30 sl31 sl32 sl33 sl34 sl35 : Array (Option Value)} {oc1 kV1 dc1 pm1 cd1 ct1 oc2 kV2 dc2 pm2 cd2 ct2 oc3 kV3 dc3 pm3 cd3 ct3 oc4 kV4 dc4 pm4 cd4 ct4 oc5 kV5 dc5 pm5 cd5 ct5 oc6 kV6 dc6 pm6 cd6 ct6 oc7 kV7 dc7 pm7 cd7 ct7 oc8 kV8 dc8 pm8 cd8 ct8 oc9 kV9 dc9 pm9 cd9 ct9 oc10 kV10 dc10 pm10 cd10 ct10 oc11 kV11 dc11 pm11 cd11 ct11 oc12 kV12 dc12 pm12 cd12 ct12 oc13 kV13 dc13 pm13 cd13 ct13 oc14 kV14 dc14 pm14 cd14 ct14 oc15 kV15 dc15 pm15 cd15 ct15 oc16 kV16 dc16 pm16 cd16 ct16 oc17 kV17 dc17 pm17 cd17 ct17 oc18 kV18 dc18 pm18 cd18 ct18 oc19 kV19 dc19 pm19 cd19 ct19 oc20 kV20 dc20 pm20 cd20 ct20 oc21 kV21 dc21 pm21 cd21 ct21 oc22 kV22 dc22 pm22 cd22 ct22 oc23 kV23 dc23 pm23 cd23 ct23 oc24 kV24 dc24 pm24 cd24 ct24 oc25 kV25 dc25 pm25 cd25 ct25 oc26 kV26 dc26 pm26 cd26 ct26 oc27 kV27 dc27 pm27 cd27 ct27 oc28 kV28 dc28 pm28 cd28 ct28 oc29 kV29 dc29 pm29 cd29 ct29 oc30 kV30 dc30 pm30 cd30 ct30 oc31 kV31 dc31 pm31 cd31 ct31 oc32 kV32 dc32 pm32 cd32 ct32 oc33 kV33 dc33 pm33 cd33 ct33 oc34 kV34 dc34 pm34 cd34 ct34 oc35 kV35 dc35 pm35 cd35 ct35 : Value}
    {aW aS aH aZ aS0 aS1 aS2 aS3 aS4 aS5 aS6 aS7 aH0 aH1 aH2 aH3 aH4 aH5 aH6 aH7 aH8 aH9 : Addr} {tL : Tok}
    {tk1_0 tk1_1 tk1_2 tk1_3 tk1_4 tk1_5 tk1_6 tk1_7 : Tok}
    {td1 : Option Addr} {tn1 : Nat} {ts1 : Array (Option Value)}
    {esD : Array DictEntry} {nD : Nat}
    {tk2_0 tk2_1 tk2_2 tk2_3 : Tok}
    {td2 : Option Addr} {tn2 : Nat} {ts2 : Array (Option Value)}
    {tk3_0 tk3_1 tk3_2 tk3_3 : Tok}
    {td3 : Option Addr} {tn3 : Nat} {ts3 : Array (Option Value)}
    {tk4_0 tk4_1 tk4_2 tk4_3 : Tok}
    {td4 : Option Addr} {tn4 : Nat} {ts4 : Array (Option Value)}
    {tk5_0 tk5_1 tk5_2 tk5_3 : Tok}
    {td5 : Option Addr} {tn5 : Nat} {ts5 : Array (Option Value)}
    {tk6_0 tk6_1 tk6_2 tk6_3 : Tok}
    {td6 : Option Addr} {tn6 : Nat} {ts6 : Array (Option Value)}
    {tk7_0 tk7_1 tk7_2 tk7_3 : Tok}
    {td7 : Option Addr} {tn7 : Nat} {ts7 : Array (Option Value)}
    {tk8_0 tk8_1 tk8_2 tk8_3 : Tok}
    {td8 : Option Addr} {tn8 : Nat} {ts8 : Array (Option Value)}
    {tk9_0 tk9_1 tk9_2 tk9_3 : Tok}
    {td9 : Option Addr} {tn9 : Nat} {ts9 : Array (Option Value)}
    {td10 : Option Addr} {tn10 : Nat} {ts10 : Array (Option Value)}
    {td11 : Option Addr} {tn11 : Nat} {ts11 : Array (Option Value)}
    {tk12_0 : Tok}
    {td12 : Option Addr} {tn12 : Nat} {ts12 : Array (Option Value)}
    {tk13_0 : Tok}
    {td13 : Option Addr} {tn13 : Nat} {ts13 : Array (Option Value)}
    {tk14_0 : Tok}
    {td14 : Option Addr} {tn14 : Nat} {ts14 : Array (Option Value)}
    {tk15_0 : Tok}
    {td15 : Option Addr} {tn15 : Nat} {ts15 : Array (Option Value)}
    {tk16_0 : Tok}
    {td16 : Option Addr} {tn16 : Nat} {ts16 : Array (Option Value)}
    {tk17_0 : Tok}
    {td17 : Option Addr} {tn17 : Nat} {ts17 : Array (Option Value)}
    {tk18_0 tk18_1 : Tok}
    {td18 : Option Addr} {tn18 : Nat} {ts18 : Array (Option Value)}
    {tk19_0 tk19_1 : Tok}
    {td19 : Option Addr} {tn19 : Nat} {ts19 : Array (Option Value)}
    {tk20_0 tk20_1 : Tok}
    {td20 : Option Addr} {tn20 : Nat} {ts20 : Array (Option Value)}
    {tk21_0 tk21_1 tk21_2 tk21_3 tk21_4 tk21_5 tk21_6 tk21_7 tk21_8 tk21_9 : Tok}
    {td21 : Option Addr} {tn21 : Nat} {ts21 : Array (Option Value)}
    (a1 : PySem.W.nsIn K mainGlobals "turned_place" = some (some (.ref f1)))
    (l1 : K.lookup f1 = some ⟨oc1, od1, .func (PySem.W.fnOf "turned_place" "turned_place" (defArgs sTurnedPlace) (defBody sTurnedPlace) (defScope sTurnedPlace) .none kV1 dc1 pm1 an1 cd1 ct1), sl1⟩)
    (c1 : PySem.W.codeIn K cd1 "turned_place" = true)
    (k1 : PySem.W.keepIn K (.ref f1) = true)
    (a2 : PySem.W.nsIn K mainGlobals "led" = some (some (.ref f2)))
    (l2 : K.lookup f2 = some ⟨oc2, od2, .func (PySem.W.fnOf "led" "led" (defArgs sLed) (defBody sLed) (defScope sLed) .none kV2 dc2 pm2 an2 cd2 ct2), sl2⟩)
    (c2 : PySem.W.codeIn K cd2 "led" = true)
    (k2 : PySem.W.keepIn K (.ref f2) = true)
    (a3 : PySem.W.nsIn K mainGlobals "way_of" = some (some (.ref f3)))
    (l3 : K.lookup f3 = some ⟨oc3, od3, .func (PySem.W.fnOf "way_of" "way_of" (defArgs sWayOf) (defBody sWayOf) (defScope sWayOf) .none kV3 dc3 pm3 an3 cd3 ct3), sl3⟩)
    (c3 : PySem.W.codeIn K cd3 "way_of" = true)
    (k3 : PySem.W.keepIn K (.ref f3) = true)
    (a4 : PySem.W.nsIn K mainGlobals "then" = some (some (.ref f4)))
    (l4 : K.lookup f4 = some ⟨oc4, od4, .func (PySem.W.fnOf "then" "then" (defArgs sThen) (defBody sThen) (defScope sThen) .none kV4 dc4 pm4 an4 cd4 ct4), sl4⟩)
    (c4 : PySem.W.codeIn K cd4 "then" = true)
    (k4 : PySem.W.keepIn K (.ref f4) = true)
    (a5 : PySem.W.nsIn K mainGlobals "circle_from" = some (some (.ref f5)))
    (l5 : K.lookup f5 = some ⟨oc5, od5, .func (PySem.W.fnOf "circle_from" "circle_from" (defArgs sCircleFrom) (defBody sCircleFrom) (defScope sCircleFrom) .none kV5 dc5 pm5 an5 cd5 ct5), sl5⟩)
    (c5 : PySem.W.codeIn K cd5 "circle_from" = true)
    (k5 : PySem.W.keepIn K (.ref f5) = true)
    (a6 : PySem.W.nsIn K mainGlobals "circles" = some (some (.ref f6)))
    (l6 : K.lookup f6 = some ⟨oc6, od6, .func (PySem.W.fnOf "circles" "circles" (defArgs sCircles) (defBody sCircles) (defScope sCircles) .none kV6 dc6 pm6 an6 cd6 ct6), sl6⟩)
    (c6 : PySem.W.codeIn K cd6 "circles" = true)
    (k6 : PySem.W.keepIn K (.ref f6) = true)
    (a7 : PySem.W.nsIn K mainGlobals "made" = some (some (.ref f7)))
    (l7 : K.lookup f7 = some ⟨oc7, od7, .func (PySem.W.fnOf "made" "made" (defArgs sMade) (defBody sMade) (defScope sMade) .none kV7 dc7 pm7 an7 cd7 ct7), sl7⟩)
    (c7 : PySem.W.codeIn K cd7 "made" = true)
    (k7 : PySem.W.keepIn K (.ref f7) = true)
    (a8 : PySem.W.nsIn K mainGlobals "most_had" = some (some (.ref f8)))
    (l8 : K.lookup f8 = some ⟨oc8, od8, .func (PySem.W.fnOf "most_had" "most_had" (defArgs sMostHad) (defBody sMostHad) (defScope sMostHad) .none kV8 dc8 pm8 an8 cd8 ct8), sl8⟩)
    (c8 : PySem.W.codeIn K cd8 "most_had" = true)
    (k8 : PySem.W.keepIn K (.ref f8) = true)
    (a9 : PySem.W.nsIn K mainGlobals "with_colours" = some (some (.ref f9)))
    (l9 : K.lookup f9 = some ⟨oc9, od9, .func (PySem.W.fnOf "with_colours" "with_colours" (defArgs sWithColours) (defBody sWithColours) (defScope sWithColours) .none kV9 dc9 pm9 an9 cd9 ct9), sl9⟩)
    (c9 : PySem.W.codeIn K cd9 "with_colours" = true)
    (k9 : PySem.W.keepIn K (.ref f9) = true)
    (a10 : PySem.W.nsIn K mainGlobals "by_paper" = some (some (.ref f10)))
    (l10 : K.lookup f10 = some ⟨oc10, od10, .func (PySem.W.fnOf "by_paper" "by_paper" (defArgs sByPaper) (defBody sByPaper) (defScope sByPaper) .none kV10 dc10 pm10 an10 cd10 ct10), sl10⟩)
    (c10 : PySem.W.codeIn K cd10 "by_paper" = true)
    (k10 : PySem.W.keepIn K (.ref f10) = true)
    (a11 : PySem.W.nsIn K mainGlobals "mended" = some (some (.ref f11)))
    (l11 : K.lookup f11 = some ⟨oc11, od11, .func (PySem.W.fnOf "mended" "mended" (defArgs sMended) (defBody sMended) (defScope sMended) .none kV11 dc11 pm11 an11 cd11 ct11), sl11⟩)
    (c11 : PySem.W.codeIn K cd11 "mended" = true)
    (k11 : PySem.W.keepIn K (.ref f11) = true)
    (a12 : PySem.W.nsIn K mainGlobals "lattices" = some (some (.ref f12)))
    (l12 : K.lookup f12 = some ⟨oc12, od12, .func (PySem.W.fnOf "lattices" "lattices" (defArgs sLattices) (defBody sLattices) (defScope sLattices) .none kV12 dc12 pm12 an12 cd12 ct12), sl12⟩)
    (c12 : PySem.W.codeIn K cd12 "lattices" = true)
    (k12 : PySem.W.keepIn K (.ref f12) = true)
    (a13 : PySem.W.nsIn K mainGlobals "lifts" = some (some (.ref f13)))
    (l13 : K.lookup f13 = some ⟨oc13, od13, .func (PySem.W.fnOf "lifts" "lifts" (defArgs sLifts) (defBody sLifts) (defScope sLifts) .none kV13 dc13 pm13 an13 cd13 ct13), sl13⟩)
    (c13 : PySem.W.codeIn K cd13 "lifts" = true)
    (k13 : PySem.W.keepIn K (.ref f13) = true)
    (a14 : PySem.W.nsIn K mainGlobals "divisor" = some (some (.ref f14)))
    (l14 : K.lookup f14 = some ⟨oc14, od14, .func (PySem.W.fnOf "divisor" "divisor" (defArgs sDivisor) (defBody sDivisor) (defScope sDivisor) .none kV14 dc14 pm14 an14 cd14 ct14), sl14⟩)
    (c14 : PySem.W.codeIn K cd14 "divisor" = true)
    (k14 : PySem.W.keepIn K (.ref f14) = true)
    (a15 : PySem.W.nsIn K mainGlobals "all_groups" = some (some (.ref f15)))
    (l15 : K.lookup f15 = some ⟨oc15, od15, .func (PySem.W.fnOf "all_groups" "all_groups" (defArgs sAllGroups) (defBody sAllGroups) (defScope sAllGroups) .none kV15 dc15 pm15 an15 cd15 ct15), sl15⟩)
    (c15 : PySem.W.codeIn K cd15 "all_groups" = true)
    (k15 : PySem.W.keepIn K (.ref f15) = true)
    (a16 : PySem.W.nsIn K mainGlobals "bettered" = some (some (.ref f16)))
    (l16 : K.lookup f16 = some ⟨oc16, od16, .func (PySem.W.fnOf "bettered" "bettered" (defArgs sBettered) (defBody sBettered) (defScope sBettered) .none kV16 dc16 pm16 an16 cd16 ct16), sl16⟩)
    (c16 : PySem.W.codeIn K cd16 "bettered" = true)
    (k16 : PySem.W.keepIn K (.ref f16) = true)
    (a17 : PySem.W.nsIn K mainGlobals "_law_cell_at" = some (some (.ref f17)))
    (l17 : K.lookup f17 = some ⟨oc17, od17, .func (PySem.W.fnOf "_law_cell_at" "_law_cell_at" (defArgs sLCellAt) (defBody sLCellAt) (defScope sLCellAt) .none kV17 dc17 pm17 an17 cd17 ct17), sl17⟩)
    (c17 : PySem.W.codeIn K cd17 "_law_cell_at" = true)
    (k17 : PySem.W.keepIn K (.ref f17) = true)
    (a18 : PySem.W.nsIn K mainGlobals "_law_whole" = some (some (.ref f18)))
    (l18 : K.lookup f18 = some ⟨oc18, od18, .func (PySem.W.fnOf "_law_whole" "_law_whole" (defArgs sLWhole) (defBody sLWhole) (defScope sLWhole) .none kV18 dc18 pm18 an18 cd18 ct18), sl18⟩)
    (c18 : PySem.W.codeIn K cd18 "_law_whole" = true)
    (k18 : PySem.W.keepIn K (.ref f18) = true)
    (a19 : PySem.W.nsIn K mainGlobals "_law_mixed" = some (some (.ref f19)))
    (l19 : K.lookup f19 = some ⟨oc19, od19, .func (PySem.W.fnOf "_law_mixed" "_law_mixed" (defArgs sLMixed) (defBody sLMixed) (defScope sLMixed) .none kV19 dc19 pm19 an19 cd19 ct19), sl19⟩)
    (c19 : PySem.W.codeIn K cd19 "_law_mixed" = true)
    (k19 : PySem.W.keepIn K (.ref f19) = true)
    (a20 : PySem.W.nsIn K mainGlobals "_law_led" = some (some (.ref f20)))
    (l20 : K.lookup f20 = some ⟨oc20, od20, .func (PySem.W.fnOf "_law_led" "_law_led" (defArgs sLLed) (defBody sLLed) (defScope sLLed) .none kV20 dc20 pm20 an20 cd20 ct20), sl20⟩)
    (c20 : PySem.W.codeIn K cd20 "_law_led" = true)
    (k20 : PySem.W.keepIn K (.ref f20) = true)
    (a21 : PySem.W.nsIn K mainGlobals "_law_moved" = some (some (.ref f21)))
    (l21 : K.lookup f21 = some ⟨oc21, od21, .func (PySem.W.fnOf "_law_moved" "_law_moved" (defArgs sLMoved) (defBody sLMoved) (defScope sLMoved) .none kV21 dc21 pm21 an21 cd21 ct21), sl21⟩)
    (c21 : PySem.W.codeIn K cd21 "_law_moved" = true)
    (k21 : PySem.W.keepIn K (.ref f21) = true)
    (a22 : PySem.W.nsIn K mainGlobals "_law_all" = some (some (.ref f22)))
    (l22 : K.lookup f22 = some ⟨oc22, od22, .func (PySem.W.fnOf "_law_all" "_law_all" (defArgs sLAll) (defBody sLAll) (defScope sLAll) .none kV22 dc22 pm22 an22 cd22 ct22), sl22⟩)
    (c22 : PySem.W.codeIn K cd22 "_law_all" = true)
    (k22 : PySem.W.keepIn K (.ref f22) = true)
    (a23 : PySem.W.nsIn K mainGlobals "_law_movement" = some (some (.ref f23)))
    (l23 : K.lookup f23 = some ⟨oc23, od23, .func (PySem.W.fnOf "_law_movement" "_law_movement" (defArgs sLMovement) (defBody sLMovement) (defScope sLMovement) .none kV23 dc23 pm23 an23 cd23 ct23), sl23⟩)
    (c23 : PySem.W.codeIn K cd23 "_law_movement" = true)
    (k23 : PySem.W.keepIn K (.ref f23) = true)
    (a24 : PySem.W.nsIn K mainGlobals "_law_is_movement" = some (some (.ref f24)))
    (l24 : K.lookup f24 = some ⟨oc24, od24, .func (PySem.W.fnOf "_law_is_movement" "_law_is_movement" (defArgs sLIsMovement) (defBody sLIsMovement) (defScope sLIsMovement) .none kV24 dc24 pm24 an24 cd24 ct24), sl24⟩)
    (c24 : PySem.W.codeIn K cd24 "_law_is_movement" = true)
    (k24 : PySem.W.keepIn K (.ref f24) = true)
    (a25 : PySem.W.nsIn K mainGlobals "_law_letters" = some (some (.ref f25)))
    (l25 : K.lookup f25 = some ⟨oc25, od25, .func (PySem.W.fnOf "_law_letters" "_law_letters" (defArgs sLLetters) (defBody sLLetters) (defScope sLLetters) .none kV25 dc25 pm25 an25 cd25 ct25), sl25⟩)
    (c25 : PySem.W.codeIn K cd25 "_law_letters" = true)
    (k25 : PySem.W.keepIn K (.ref f25) = true)
    (a26 : PySem.W.nsIn K mainGlobals "_law_carpet" = some (some (.ref f26)))
    (l26 : K.lookup f26 = some ⟨oc26, od26, .func (PySem.W.fnOf "_law_carpet" "_law_carpet" (defArgs sLCarpet) (defBody sLCarpet) (defScope sLCarpet) .none kV26 dc26 pm26 an26 cd26 ct26), sl26⟩)
    (c26 : PySem.W.codeIn K cd26 "_law_carpet" = true)
    (k26 : PySem.W.keepIn K (.ref f26) = true)
    (a27 : PySem.W.nsIn K mainGlobals "_law_circles" = some (some (.ref f27)))
    (l27 : K.lookup f27 = some ⟨oc27, od27, .func (PySem.W.fnOf "_law_circles" "_law_circles" (defArgs sLCircles) (defBody sLCircles) (defScope sLCircles) .none kV27 dc27 pm27 an27 cd27 ct27), sl27⟩)
    (c27 : PySem.W.codeIn K cd27 "_law_circles" = true)
    (k27 : PySem.W.keepIn K (.ref f27) = true)
    (a28 : PySem.W.nsIn K mainGlobals "_law_had" = some (some (.ref f28)))
    (l28 : K.lookup f28 = some ⟨oc28, od28, .func (PySem.W.fnOf "_law_had" "_law_had" (defArgs sLHad) (defBody sLHad) (defScope sLHad) .none kV28 dc28 pm28 an28 cd28 ct28), sl28⟩)
    (c28 : PySem.W.codeIn K cd28 "_law_had" = true)
    (k28 : PySem.W.keepIn K (.ref f28) = true)
    (a29 : PySem.W.nsIn K mainGlobals "_law_image" = some (some (.ref f29)))
    (l29 : K.lookup f29 = some ⟨oc29, od29, .func (PySem.W.fnOf "_law_image" "_law_image" (defArgs sLImage) (defBody sLImage) (defScope sLImage) .none kV29 dc29 pm29 an29 cd29 ct29), sl29⟩)
    (c29 : PySem.W.codeIn K cd29 "_law_image" = true)
    (k29 : PySem.W.keepIn K (.ref f29) = true)
    (a30 : PySem.W.nsIn K mainGlobals "_law_table" = some (some (.ref f30)))
    (l30 : K.lookup f30 = some ⟨oc30, od30, .func (PySem.W.fnOf "_law_table" "_law_table" (defArgs sLTable) (defBody sLTable) (defScope sLTable) .none kV30 dc30 pm30 an30 cd30 ct30), sl30⟩)
    (c30 : PySem.W.codeIn K cd30 "_law_table" = true)
    (k30 : PySem.W.keepIn K (.ref f30) = true)
    (a31 : PySem.W.nsIn K mainGlobals "_law_size" = some (some (.ref f31)))
    (l31 : K.lookup f31 = some ⟨oc31, od31, .func (PySem.W.fnOf "_law_size" "_law_size" (defArgs sLSize) (defBody sLSize) (defScope sLSize) .none kV31 dc31 pm31 an31 cd31 ct31), sl31⟩)
    (c31 : PySem.W.codeIn K cd31 "_law_size" = true)
    (k31 : PySem.W.keepIn K (.ref f31) = true)
    (a32 : PySem.W.nsIn K mainGlobals "_law_price" = some (some (.ref f32)))
    (l32 : K.lookup f32 = some ⟨oc32, od32, .func (PySem.W.fnOf "_law_price" "_law_price" (defArgs sLPrice) (defBody sLPrice) (defScope sLPrice) .none kV32 dc32 pm32 an32 cd32 ct32), sl32⟩)
    (c32 : PySem.W.codeIn K cd32 "_law_price" = true)
    (k32 : PySem.W.keepIn K (.ref f32) = true)
    (a33 : PySem.W.nsIn K mainGlobals "_law_told_well" = some (some (.ref f33)))
    (l33 : K.lookup f33 = some ⟨oc33, od33, .func (PySem.W.fnOf "_law_told_well" "_law_told_well" (defArgs sLToldWell) (defBody sLToldWell) (defScope sLToldWell) .none kV33 dc33 pm33 an33 cd33 ct33), sl33⟩)
    (c33 : PySem.W.codeIn K cd33 "_law_told_well" = true)
    (k33 : PySem.W.keepIn K (.ref f33) = true)
    (a34 : PySem.W.nsIn K mainGlobals "_law_again" = some (some (.ref f34)))
    (l34 : K.lookup f34 = some ⟨oc34, od34, .func (PySem.W.fnOf "_law_again" "_law_again" (defArgs sLAgain) (defBody sLAgain) (defScope sLAgain) .none kV34 dc34 pm34 an34 cd34 ct34), sl34⟩)
    (c34 : PySem.W.codeIn K cd34 "_law_again" = true)
    (k34 : PySem.W.keepIn K (.ref f34) = true)
    (a35 : PySem.W.nsIn K mainGlobals "law" = some (some (.ref f35)))
    (l35 : K.lookup f35 = some ⟨oc35, od35, .func (PySem.W.fnOf "law" "law" (defArgs sLaw) (defBody sLaw) (defScope sLaw) .none kV35 dc35 pm35 an35 cd35 ct35), sl35⟩)
    (c35 : PySem.W.codeIn K cd35 "law" = true)
    (k35 : PySem.W.keepIn K (.ref f35) = true)
    (z1 : PySem.W.nsIn K mainGlobals "sorted" = some none)
    (z2 : PySem.W.nsIn K mainGlobals "range" = some none)
    (z3 : PySem.W.nsIn K mainGlobals "max" = some none)
    (z4 : PySem.W.nsIn K mainGlobals "tuple" = some none)
    (z5 : PySem.W.nsIn K mainGlobals "len" = some none)
    (z6 : PySem.W.nsIn K mainGlobals "divmod" = some none)
    (z7 : PySem.W.nsIn K mainGlobals "list" = some none)
    (z8 : PySem.W.nsIn K mainGlobals "enumerate" = some none)
    (z9 : PySem.W.nsIn K mainGlobals "sum" = some none)
    (z10 : PySem.W.nsIn K mainGlobals "isinstance" = some none)
    (z11 : PySem.W.nsIn K mainGlobals "int" = some none)
    (z12 : PySem.W.nsIn K mainGlobals "bool" = some none)
    (z13 : PySem.W.nsIn K mainGlobals "min" = some none)
    (gW : PySem.W.nsIn K mainGlobals "WAYS" = some (some (.ref aW)))
    (lW : K.lookup aW = some ⟨.type "tuple", td1, .seq #[.str "stay" tk1_0, .str "turn" tk1_1, .str "half" tk1_2, .str "back" tk1_3, .str "side" tk1_4, .str "flip" tk1_5, .str "cross" tk1_6, .str "other" tk1_7] tn1, ts1⟩)
    (gS : PySem.W.nsIn K mainGlobals "SIGNS" = some (some (.ref aS)))
    (lD : K.lookup aS = some ⟨.type "dict", none, .dict esD nD, #[]⟩)
    (dS : PySem.W.KeysLit w.params esD.toList)
    (gS0 : PySem.W.nsIn K aS "stay" = some (some (.ref aS0)))
    (lS0 : K.lookup aS0 = some ⟨.type "tuple", td2, .seq #[.int 1 tk2_0, .int 0 tk2_1, .int 0 tk2_2, .int 1 tk2_3] tn2, ts2⟩)
    (gS1 : PySem.W.nsIn K aS "turn" = some (some (.ref aS1)))
    (lS1 : K.lookup aS1 = some ⟨.type "tuple", td3, .seq #[.int 0 tk3_0, .int 1 tk3_1, .int (-1) tk3_2, .int 0 tk3_3] tn3, ts3⟩)
    (gS2 : PySem.W.nsIn K aS "half" = some (some (.ref aS2)))
    (lS2 : K.lookup aS2 = some ⟨.type "tuple", td4, .seq #[.int (-1) tk4_0, .int 0 tk4_1, .int 0 tk4_2, .int (-1) tk4_3] tn4, ts4⟩)
    (gS3 : PySem.W.nsIn K aS "back" = some (some (.ref aS3)))
    (lS3 : K.lookup aS3 = some ⟨.type "tuple", td5, .seq #[.int 0 tk5_0, .int (-1) tk5_1, .int 1 tk5_2, .int 0 tk5_3] tn5, ts5⟩)
    (gS4 : PySem.W.nsIn K aS "side" = some (some (.ref aS4)))
    (lS4 : K.lookup aS4 = some ⟨.type "tuple", td6, .seq #[.int 1 tk6_0, .int 0 tk6_1, .int 0 tk6_2, .int (-1) tk6_3] tn6, ts6⟩)
    (gS5 : PySem.W.nsIn K aS "flip" = some (some (.ref aS5)))
    (lS5 : K.lookup aS5 = some ⟨.type "tuple", td7, .seq #[.int (-1) tk7_0, .int 0 tk7_1, .int 0 tk7_2, .int 1 tk7_3] tn7, ts7⟩)
    (gS6 : PySem.W.nsIn K aS "cross" = some (some (.ref aS6)))
    (lS6 : K.lookup aS6 = some ⟨.type "tuple", td8, .seq #[.int 0 tk8_0, .int 1 tk8_1, .int 1 tk8_2, .int 0 tk8_3] tn8, ts8⟩)
    (gS7 : PySem.W.nsIn K aS "other" = some (some (.ref aS7)))
    (lS7 : K.lookup aS7 = some ⟨.type "tuple", td9, .seq #[.int 0 tk9_0, .int (-1) tk9_1, .int (-1) tk9_2, .int 0 tk9_3] tn9, ts9⟩)
    (gH : PySem.W.nsIn K mainGlobals "HEADS" = some (some (.ref aH)))
    (lH : K.lookup aH = some ⟨.type "tuple", td10, .seq #[.ref aH0, .ref aH1, .ref aH2, .ref aH3, .ref aH4, .ref aH5, .ref aH6, .ref aH7, .ref aH8, .ref aH9] tn10, ts10⟩)
    (lH0 : K.lookup aH0 = some ⟨.type "tuple", td11, .seq #[] tn11, ts11⟩)
    (lH1 : K.lookup aH1 = some ⟨.type "tuple", td12, .seq #[.str "half" tk12_0] tn12, ts12⟩)
    (lH2 : K.lookup aH2 = some ⟨.type "tuple", td13, .seq #[.str "side" tk13_0] tn13, ts13⟩)
    (lH3 : K.lookup aH3 = some ⟨.type "tuple", td14, .seq #[.str "flip" tk14_0] tn14, ts14⟩)
    (lH4 : K.lookup aH4 = some ⟨.type "tuple", td15, .seq #[.str "cross" tk15_0] tn15, ts15⟩)
    (lH5 : K.lookup aH5 = some ⟨.type "tuple", td16, .seq #[.str "other" tk16_0] tn16, ts16⟩)
    (lH6 : K.lookup aH6 = some ⟨.type "tuple", td17, .seq #[.str "turn" tk17_0] tn17, ts17⟩)
    (lH7 : K.lookup aH7 = some ⟨.type "tuple", td18, .seq #[.str "half" tk18_0, .str "side" tk18_1] tn18, ts18⟩)
    (lH8 : K.lookup aH8 = some ⟨.type "tuple", td19, .seq #[.str "half" tk19_0, .str "cross" tk19_1] tn19, ts19⟩)
    (lH9 : K.lookup aH9 = some ⟨.type "tuple", td20, .seq #[.str "turn" tk20_0, .str "side" tk20_1] tn20, ts20⟩)
    (gZ : PySem.W.nsIn K mainGlobals "HEAD_SIZES" = some (some (.ref aZ)))
    (lZ : K.lookup aZ = some ⟨.type "tuple", td21, .seq #[.int 1 tk21_0, .int 2 tk21_1, .int 2 tk21_2, .int 2 tk21_3, .int 2 tk21_4, .int 2 tk21_5, .int 4 tk21_6, .int 4 tk21_7, .int 4 tk21_8, .int 8 tk21_9] tn21, ts21⟩)
    (gL : PySem.W.nsIn K mainGlobals "LARGEST" = some (some (.int 3 tL)))
    : ∃ fd : FuncData, (∀ (s : Shared) (v : Value), BindsTo s fd ⟨[v], []⟩ [("_law_script", v)]) ∧ ∀ base : Heap, K.In base → base.Ns mainGlobals mg → FnOk l.prog w K mg base CX0 9 fa fd ["_law_script"] (SpF K RLaw) := by
  have e := hfa.symm.trans (PySem.W.mg_of X G a35)
  cases e
  have F1 := fun_mk (st := sTurnedPlace) l1 c1 k1
  have F2 := fun_mk (st := sLed) l2 c2 k2
  have F3 := fun_mk (st := sWayOf) l3 c3 k3
  have F4 := fun_mk (st := sThen) l4 c4 k4
  have F5 := fun_mk (st := sCircleFrom) l5 c5 k5
  have F6 := fun_mk (st := sCircles) l6 c6 k6
  have F7 := fun_mk (st := sMade) l7 c7 k7
  have F8 := fun_mk (st := sMostHad) l8 c8 k8
  have F9 := fun_mk (st := sWithColours) l9 c9 k9
  have F10 := fun_mk (st := sByPaper) l10 c10 k10
  have F11 := fun_mk (st := sMended) l11 c11 k11
  have F12 := fun_mk (st := sLattices) l12 c12 k12
  have F13 := fun_mk (st := sLifts) l13 c13 k13
  have F14 := fun_mk (st := sDivisor) l14 c14 k14
  have F15 := fun_mk (st := sAllGroups) l15 c15 k15
  have F16 := fun_mk (st := sBettered) l16 c16 k16
  have F17 := fun_mk (st := sLCellAt) l17 c17 k17
  have F18 := fun_mk (st := sLWhole) l18 c18 k18
  have F19 := fun_mk (st := sLMixed) l19 c19 k19
  have F20 := fun_mk (st := sLLed) l20 c20 k20
  have F21 := fun_mk (st := sLMoved) l21 c21 k21
  have F22 := fun_mk (st := sLAll) l22 c22 k22
  have F23 := fun_mk (st := sLMovement) l23 c23 k23
  have F24 := fun_mk (st := sLIsMovement) l24 c24 k24
  have F25 := fun_mk (st := sLLetters) l25 c25 k25
  have F26 := fun_mk (st := sLCarpet) l26 c26 k26
  have F27 := fun_mk (st := sLCircles) l27 c27 k27
  have F28 := fun_mk (st := sLHad) l28 c28 k28
  have F29 := fun_mk (st := sLImage) l29 c29 k29
  have F30 := fun_mk (st := sLTable) l30 c30 k30
  have F31 := fun_mk (st := sLSize) l31 c31 k31
  have F32 := fun_mk (st := sLPrice) l32 c32 k32
  have F33 := fun_mk (st := sLToldWell) l33 c33 k33
  have F34 := fun_mk (st := sLAgain) l34 c34 k34
  have F35 := fun_mk (st := sLaw) l35 c35 k35
  have b1 := F1.binds (ps := pTurnedPlace) fun _ _ _ _ _ _ us hl => match us, hl with | [_, _], _ => rfl
  have b2 := F2.binds (ps := pLed) fun _ _ _ _ _ _ us hl => match us, hl with | [_, _, _], _ => rfl
  have b3 := F3.binds (ps := pWayOf) fun _ _ _ _ _ _ us hl => match us, hl with | [_], _ => rfl
  have b4 := F4.binds (ps := pThen) fun _ _ _ _ _ _ us hl => match us, hl with | [_, _, _], _ => rfl
  have b5 := F5.binds (ps := pCircleFrom) fun _ _ _ _ _ _ us hl => match us, hl with | [_, _, _], _ => rfl
  have b6 := F6.binds (ps := pCircles) fun _ _ _ _ _ _ us hl => match us, hl with | [_, _], _ => rfl
  have b7 := F7.binds (ps := pMade) fun _ _ _ _ _ _ us hl => match us, hl with | [_, _], _ => rfl
  have b8 := F8.binds (ps := pMostHad) fun _ _ _ _ _ _ us hl => match us, hl with | [_, _], _ => rfl
  have b9 := F9.binds (ps := pWithColours) fun _ _ _ _ _ _ us hl => match us, hl with | [_, _], _ => rfl
  have b10 := F10.binds (ps := pByPaper) fun _ _ _ _ _ _ us hl => match us, hl with | [_, _], _ => rfl
  have b11 := F11.binds (ps := pMended) fun _ _ _ _ _ _ us hl => match us, hl with | [_, _], _ => rfl
  have b12 := F12.binds (ps := pLattices) fun _ _ _ _ _ _ us hl => match us, hl with | [_], _ => rfl
  have b13 := F13.binds (ps := pLifts) fun _ _ _ _ _ _ us hl => match us, hl with | [_, _, _], _ => rfl
  have b14 := F14.binds (ps := pDivisor) fun _ _ _ _ _ _ us hl => match us, hl with | [_], _ => rfl
  have b15 := F15.binds (ps := pAllGroups) fun _ _ _ _ _ _ us hl => match us, hl with | [_], _ => rfl
  have b16 := F16.binds (ps := pBettered) fun _ _ _ _ _ _ us hl => match us, hl with | [_, _], _ => rfl
  have b17 := F17.binds (ps := pLCellAt) fun _ _ _ _ _ _ us hl => match us, hl with | [_, _], _ => rfl
  have b18 := F18.binds (ps := pLWhole) fun _ _ _ _ _ _ us hl => match us, hl with | [_], _ => rfl
  have b19 := F19.binds (ps := pLMixed) fun _ _ _ _ _ _ us hl => match us, hl with | [_, _], _ => rfl
  have b20 := F20.binds (ps := pLLed) fun _ _ _ _ _ _ us hl => match us, hl with | [_, _, _], _ => rfl
  have b21 := F21.binds (ps := pLMoved) fun _ _ _ _ _ _ us hl => match us, hl with | [_, _], _ => rfl
  have b22 := F22.binds (ps := pLAll) fun _ _ _ _ _ _ us hl => match us, hl with | [_], _ => rfl
  have b23 := F23.binds (ps := pLMovement) fun _ _ _ _ _ _ us hl => match us, hl with | [_, _], _ => rfl
  have b24 := F24.binds (ps := pLIsMovement) fun _ _ _ _ _ _ us hl => match us, hl with | [_, _], _ => rfl
  have b25 := F25.binds (ps := pLLetters) fun _ _ _ _ _ _ us hl => match us, hl with | [_, _], _ => rfl
  have b26 := F26.binds (ps := pLCarpet) fun _ _ _ _ _ _ us hl => match us, hl with | [_, _, _, _], _ => rfl
  have b27 := F27.binds (ps := pLCircles) fun _ _ _ _ _ _ us hl => match us, hl with | [_, _], _ => rfl
  have b28 := F28.binds (ps := pLHad) fun _ _ _ _ _ _ us hl => match us, hl with | [_, _], _ => rfl
  have b29 := F29.binds (ps := pLImage) fun _ _ _ _ _ _ us hl => match us, hl with | [_], _ => rfl
  have b30 := F30.binds (ps := pLTable) fun _ _ _ _ _ _ us hl => match us, hl with | [], _ => rfl
  have b31 := F31.binds (ps := pLSize) fun _ _ _ _ _ _ us hl => match us, hl with | [_, _, _], _ => rfl
  have b32 := F32.binds (ps := pLPrice) fun _ _ _ _ _ _ us hl => match us, hl with | [_, _], _ => rfl
  have b33 := F33.binds (ps := pLToldWell) fun _ _ _ _ _ _ us hl => match us, hl with | [_, _, _, _], _ => rfl
  have b34 := F34.binds (ps := pLAgain) fun _ _ _ _ _ _ us hl => match us, hl with | [_, _, _, _], _ => rfl
  have m_sorted := PySem.W.mg_none_of X G z1
  have m_range := PySem.W.mg_none_of X G z2
  have m_max := PySem.W.mg_none_of X G z3
  have m_tuple := PySem.W.mg_none_of X G z4
  have m_len := PySem.W.mg_none_of X G z5
  have m_divmod := PySem.W.mg_none_of X G z6
  have m_list := PySem.W.mg_none_of X G z7
  have m_enumerate := PySem.W.mg_none_of X G z8
  have m_sum := PySem.W.mg_none_of X G z9
  have m_isinstance := PySem.W.mg_none_of X G z10
  have m_int := PySem.W.mg_none_of X G z11
  have m_bool := PySem.W.mg_none_of X G z12
  have m_min := PySem.W.mg_none_of X G z13
  have T : Glob K w mg := ⟨⟨aS, PySem.W.mg_of X G gS, fun x => ?tw⟩, aW, PySem.W.mg_of X G gW, _, _, _, lW, rfl, rfl, small_len (Nat.le_of_ble_eq_true rfl), (.cons ⟨_, rfl⟩ (.cons ⟨_, rfl⟩ (.cons ⟨_, rfl⟩ (.cons ⟨_, rfl⟩ (.cons ⟨_, rfl⟩ (.cons ⟨_, rfl⟩ (.cons ⟨_, rfl⟩ (.cons ⟨_, rfl⟩ .nil))))))))⟩
  case tw =>
    cases x
    · exact ⟨aS0, ⟨esD, nD, _, lD, dS, gS0, rfl⟩, _, _, _, lS0, rfl, rfl, small_len (Nat.le_of_ble_eq_true rfl), (.cons ⟨_, rfl⟩ (.cons ⟨_, rfl⟩ (.cons ⟨_, rfl⟩ (.cons ⟨_, rfl⟩ .nil))))⟩
    · exact ⟨aS1, ⟨esD, nD, _, lD, dS, gS1, rfl⟩, _, _, _, lS1, rfl, rfl, small_len (Nat.le_of_ble_eq_true rfl), (.cons ⟨_, rfl⟩ (.cons ⟨_, rfl⟩ (.cons ⟨_, rfl⟩ (.cons ⟨_, rfl⟩ .nil))))⟩
    · exact ⟨aS2, ⟨esD, nD, _, lD, dS, gS2, rfl⟩, _, _, _, lS2, rfl, rfl, small_len (Nat.le_of_ble_eq_true rfl), (.cons ⟨_, rfl⟩ (.cons ⟨_, rfl⟩ (.cons ⟨_, rfl⟩ (.cons ⟨_, rfl⟩ .nil))))⟩
    · exact ⟨aS3, ⟨esD, nD, _, lD, dS, gS3, rfl⟩, _, _, _, lS3, rfl, rfl, small_len (Nat.le_of_ble_eq_true rfl), (.cons ⟨_, rfl⟩ (.cons ⟨_, rfl⟩ (.cons ⟨_, rfl⟩ (.cons ⟨_, rfl⟩ .nil))))⟩
    · exact ⟨aS4, ⟨esD, nD, _, lD, dS, gS4, rfl⟩, _, _, _, lS4, rfl, rfl, small_len (Nat.le_of_ble_eq_true rfl), (.cons ⟨_, rfl⟩ (.cons ⟨_, rfl⟩ (.cons ⟨_, rfl⟩ (.cons ⟨_, rfl⟩ .nil))))⟩
    · exact ⟨aS5, ⟨esD, nD, _, lD, dS, gS5, rfl⟩, _, _, _, lS5, rfl, rfl, small_len (Nat.le_of_ble_eq_true rfl), (.cons ⟨_, rfl⟩ (.cons ⟨_, rfl⟩ (.cons ⟨_, rfl⟩ (.cons ⟨_, rfl⟩ .nil))))⟩
    · exact ⟨aS6, ⟨esD, nD, _, lD, dS, gS6, rfl⟩, _, _, _, lS6, rfl, rfl, small_len (Nat.le_of_ble_eq_true rfl), (.cons ⟨_, rfl⟩ (.cons ⟨_, rfl⟩ (.cons ⟨_, rfl⟩ (.cons ⟨_, rfl⟩ .nil))))⟩
    · exact ⟨aS7, ⟨esD, nD, _, lD, dS, gS7, rfl⟩, _, _, _, lS7, rfl, rfl, small_len (Nat.le_of_ble_eq_true rfl), (.cons ⟨_, rfl⟩ (.cons ⟨_, rfl⟩ (.cons ⟨_, rfl⟩ (.cons ⟨_, rfl⟩ .nil))))⟩
  have T2 : Glob2 K mg := ⟨⟨aH, PySem.W.mg_of X G gH, [aH0, aH1, aH2, aH3, aH4, aH5, aH6, aH7, aH8, aH9], fun G => .inr ⟨_, _, _, lH, rfl, rfl, small_len (Nat.le_of_ble_eq_true rfl), (.cons rfl (.cons rfl (.cons rfl (.cons rfl (.cons rfl (.cons rfl (.cons rfl (.cons rfl (.cons rfl (.cons rfl .nil))))))))))⟩, (.cons ⟨[], fun G => .inr ⟨_, _, _, lH0, rfl, rfl, small_len (Nat.le_of_ble_eq_true rfl), .nil⟩, .nil⟩ (.cons ⟨[.str "half"], fun G => .inr ⟨_, _, _, lH1, rfl, rfl, small_len (Nat.le_of_ble_eq_true rfl), (.cons ⟨_, rfl⟩ .nil)⟩, (.cons (.str _) .nil)⟩ (.cons ⟨[.str "side"], fun G => .inr ⟨_, _, _, lH2, rfl, rfl, small_len (Nat.le_of_ble_eq_true rfl), (.cons ⟨_, rfl⟩ .nil)⟩, (.cons (.str _) .nil)⟩ (.cons ⟨[.str "flip"], fun G => .inr ⟨_, _, _, lH3, rfl, rfl, small_len (Nat.le_of_ble_eq_true rfl), (.cons ⟨_, rfl⟩ .nil)⟩, (.cons (.str _) .nil)⟩ (.cons ⟨[.str "cross"], fun G => .inr ⟨_, _, _, lH4, rfl, rfl, small_len (Nat.le_of_ble_eq_true rfl), (.cons ⟨_, rfl⟩ .nil)⟩, (.cons (.str _) .nil)⟩ (.cons ⟨[.str "other"], fun G => .inr ⟨_, _, _, lH5, rfl, rfl, small_len (Nat.le_of_ble_eq_true rfl), (.cons ⟨_, rfl⟩ .nil)⟩, (.cons (.str _) .nil)⟩ (.cons ⟨[.str "turn"], fun G => .inr ⟨_, _, _, lH6, rfl, rfl, small_len (Nat.le_of_ble_eq_true rfl), (.cons ⟨_, rfl⟩ .nil)⟩, (.cons (.str _) .nil)⟩ (.cons ⟨[.str "half", .str "side"], fun G => .inr ⟨_, _, _, lH7, rfl, rfl, small_len (Nat.le_of_ble_eq_true rfl), (.cons ⟨_, rfl⟩ (.cons ⟨_, rfl⟩ .nil))⟩, (.cons (.str _) (.cons (.str _) .nil))⟩ (.cons ⟨[.str "half", .str "cross"], fun G => .inr ⟨_, _, _, lH8, rfl, rfl, small_len (Nat.le_of_ble_eq_true rfl), (.cons ⟨_, rfl⟩ (.cons ⟨_, rfl⟩ .nil))⟩, (.cons (.str _) (.cons (.str _) .nil))⟩ (.cons ⟨[.str "turn", .str "side"], fun G => .inr ⟨_, _, _, lH9, rfl, rfl, small_len (Nat.le_of_ble_eq_true rfl), (.cons ⟨_, rfl⟩ (.cons ⟨_, rfl⟩ .nil))⟩, (.cons (.str _) (.cons (.str _) .nil))⟩ .nil))))))))))⟩, ⟨aZ, PySem.W.mg_of X G gZ, _, _, _, lZ, rfl, rfl, small_len (Nat.le_of_ble_eq_true rfl), (.cons ⟨_, rfl⟩ (.cons ⟨_, rfl⟩ (.cons ⟨_, rfl⟩ (.cons ⟨_, rfl⟩ (.cons ⟨_, rfl⟩ (.cons ⟨_, rfl⟩ (.cons ⟨_, rfl⟩ (.cons ⟨_, rfl⟩ (.cons ⟨_, rfl⟩ (.cons ⟨_, rfl⟩ .nil))))))))))⟩, _, PySem.W.mg_of X G gL, _, rfl⟩
  refine ⟨PySem.W.fnOf "law" "law" (defArgs sLaw) (defBody sLaw) (defScope sLaw) .none kV35 dc35 pm35 an35 cd35 ct35, fun s v => .of_eq rfl, fun base _ _ => ?_⟩
  have C1 : CalK l.prog w K mg base 1 "turned_place" pTurnedPlace RTurned := ⟨f1, _, ok_turned (k := 0) F1 T, PySem.W.mg_of X G a1, k1, b1⟩
  have C2 : CalK l.prog w K mg base 2 "led" pLed RLed := ⟨f2, _, ok_led (k := 1) F2 (C1.mono (by decide)), PySem.W.mg_of X G a2, k2, b2⟩
  have C3 : CalK l.prog w K mg base 1 "way_of" pWayOf RWayOf := ⟨f3, _, ok_wayOf (k := 0) F3 T, PySem.W.mg_of X G a3, k3, b3⟩
  have C4 : CalK l.prog w K mg base 3 "then" pThen RThen := ⟨f4, _, ok_then (k := 2) F4 T (C2.mono (by decide)) (C3.mono (by decide)), PySem.W.mg_of X G a4, k4, b4⟩
  have C5 : CalK l.prog w K mg base 3 "circle_from" pCircleFrom RCircleFrom := ⟨f5, _, ok_circleFrom (k := 2) F5 (C2.mono (by decide)) m_sorted, PySem.W.mg_of X G a5, k5, b5⟩
  have C6 : CalK l.prog w K mg base 4 "circles" pCircles RCircles := ⟨f6, _, ok_circles (k := 3) F6 (C5.mono (by decide)) m_range, PySem.W.mg_of X G a6, k6, b6⟩
  have C7 : CalK l.prog w K mg base 4 "made" pMade RMade := ⟨f7, _, ok_made (k := 3) F7 (C4.mono (by decide)) m_sorted, PySem.W.mg_of X G a7, k7, b7⟩
  have C8 : CalK l.prog w K mg base 1 "most_had" pMostHad RMostHad := ⟨f8, _, ok_mostHad (k := 0) F8 m_max m_sorted, PySem.W.mg_of X G a8, k8, b8⟩
  have C9 : CalK l.prog w K mg base 1 "with_colours" pWithColours RWith := ⟨f9, _, ok_withColours (k := 0) F9 m_range m_tuple, PySem.W.mg_of X G a9, k9, b9⟩
  have C10 : CalK l.prog w K mg base 2 "by_paper" pByPaper RByPaper := ⟨f10, _, ok_byPaper (k := 1) F10 (C9.mono (by decide)) m_range m_len, PySem.W.mg_of X G a10, k10, b10⟩
  have C11 : CalK l.prog w K mg base 5 "mended" pMended RMended := ⟨f11, _, ok_mended (k := 4) F11 (C6.mono (by decide)) (C8.mono (by decide)) (C10.mono (by decide)) m_len, PySem.W.mg_of X G a11, k11, b11⟩
  have C12 : CalK l.prog w K mg base 5 "lattices" pLattices RLattices := ⟨f12, _, ok_lattices (k := 4) F12 (C7.mono (by decide)) m_range m_divmod m_tuple m_list, PySem.W.mg_of X G a12, k12, b12⟩
  have C13 : CalK l.prog w K mg base 1 "lifts" pLifts RLifts := ⟨f13, _, ok_lifts (k := 0) F13 m_range, PySem.W.mg_of X G a13, k13, b13⟩
  have C14 : CalK l.prog w K mg base 1 "divisor" pDivisor RDivisor := ⟨f14, _, ok_divisor (k := 0) F14 , PySem.W.mg_of X G a14, k14, b14⟩
  have C15 : CalK l.prog w K mg base 6 "all_groups" pAllGroups RAllGroups := ⟨f15, _, ok_allGroups (k := 5) F15 T2 (C12.mono (by decide)) (C13.mono (by decide)) m_enumerate, PySem.W.mg_of X G a15, k15, b15⟩
  have C16 : CalK l.prog w K mg base 7 "bettered" pBettered RBettered := ⟨f16, _, ok_bettered (k := 6) F16 T2 (C15.mono (by decide)) (C6.mono (by decide)) (C8.mono (by decide)) (C14.mono (by decide)) (C7.mono (by decide)) (C11.mono (by decide)) m_len m_sum, PySem.W.mg_of X G a16, k16, b16⟩
  have C17 : CalK l.prog w K mg base 1 "_law_cell_at" pLCellAt RCellAt := ⟨f17, _, ok_lCellAt (k := 0) F17 m_len, PySem.W.mg_of X G a17, k17, b17⟩
  have C18 : CalK l.prog w K mg base 1 "_law_whole" pLWhole RWhole := ⟨f18, _, ok_lWhole (k := 0) F18 m_isinstance m_int m_bool, PySem.W.mg_of X G a18, k18, b18⟩
  have C19 : CalK l.prog w K mg base 1 "_law_mixed" pLMixed RMixed := ⟨f19, _, ok_lMixed (k := 0) F19 , PySem.W.mg_of X G a19, k19, b19⟩
  have C20 : CalK l.prog w K mg base 1 "_law_led" pLLed RLed := ⟨f20, _, ok_lLed (k := 0) F20 , PySem.W.mg_of X G a20, k20, b20⟩
  have C21 : CalK l.prog w K mg base 2 "_law_moved" pLMoved RMoved := ⟨f21, _, ok_lMoved (k := 1) F21 (C20.mono (by decide)) m_range m_tuple m_len, PySem.W.mg_of X G a21, k21, b21⟩
  have C22 : CalK l.prog w K mg base 1 "_law_all" pLAll RAll := ⟨f22, _, ok_lAll (k := 0) F22 m_range, PySem.W.mg_of X G a22, k22, b22⟩
  have C23 : CalK l.prog w K mg base 2 "_law_movement" pLMovement RMovement := ⟨f23, _, ok_lMovement (k := 1) F23 (C22.mono (by decide)), PySem.W.mg_of X G a23, k23, b23⟩
  have C24 : CalK l.prog w K mg base 2 "_law_is_movement" pLIsMovement RIsMovement := ⟨f24, _, ok_lIsMovement (k := 1) F24 (C22.mono (by decide)) (C18.mono (by decide)) m_isinstance m_tuple m_len, PySem.W.mg_of X G a24, k24, b24⟩
  have C25 : CalK l.prog w K mg base 1 "_law_letters" pLLetters RLetters := ⟨f25, _, ok_lLetters (k := 0) F25 m_range, PySem.W.mg_of X G a25, k25, b25⟩
  have C26 : CalK l.prog w K mg base 2 "_law_carpet" pLCarpet RCarpet := ⟨f26, _, ok_lCarpet (k := 1) F26 (C19.mono (by decide)) m_range m_tuple m_len m_min, PySem.W.mg_of X G a26, k26, b26⟩
  have C27 : CalK l.prog w K mg base 2 "_law_circles" pLCircles RLCircles := ⟨f27, _, ok_lCircles (k := 1) F27 (C20.mono (by decide)) m_range m_divmod m_len m_sorted, PySem.W.mg_of X G a27, k27, b27⟩
  have C28 : CalK l.prog w K mg base 1 "_law_had" pLHad RLHad := ⟨f28, _, ok_lHad (k := 0) F28 , PySem.W.mg_of X G a28, k28, b28⟩
  have C29 : CalK l.prog w K mg base 2 "_law_image" pLImage RImage := ⟨f29, _, ok_lImage (k := 1) F29 (C20.mono (by decide)), PySem.W.mg_of X G a29, k29, b29⟩
  have C30 : CalK l.prog w K mg base 3 "_law_table" pLTable RTable := ⟨f30, _, ok_lTable (k := 2) F30 (C29.mono (by decide)), PySem.W.mg_of X G a30, k30, b30⟩
  have C31 : CalK l.prog w K mg base 2 "_law_size" pLSize RSize := ⟨f31, _, ok_lSize (k := 1) F31 (C20.mono (by decide)) m_len, PySem.W.mg_of X G a31, k31, b31⟩
  have C32 : CalK l.prog w K mg base 3 "_law_price" pLPrice RPrice := ⟨f32, _, ok_lPrice (k := 2) F32 (C27.mono (by decide)) (C28.mono (by decide)) m_len m_max m_list, PySem.W.mg_of X G a32, k32, b32⟩
  have C33 : CalK l.prog w K mg base 6 "_law_told_well" pLToldWell RTold := ⟨f33, _, ok_lToldWell (k := 5) F33 (C18.mono (by decide)) (C24.mono (by decide)) (C31.mono (by decide)) (C11.mono (by decide)) (C21.mono (by decide)) m_len m_isinstance m_tuple m_list m_range m_divmod, PySem.W.mg_of X G a33, k33, b33⟩
  have C34 : CalA l.prog w K mg base 8 "_law_again" pLAgain RAgain := ⟨f34, _, ok_lAgain (k := 7) F34 (C16.mono (by decide)) (C33.mono (by decide)) m_len, PySem.W.mg_of X G a34, k34, b34⟩
  exact ok_law (k := 8) F35 ⟨C17.mono (by decide), C19.mono (by decide), C25.mono (by decide), C26.mono (by decide), C16.mono (by decide), C30.mono (by decide), C33.mono (by decide), C23.mono (by decide), C32.mono (by decide), C31.mono (by decide), C34, m_len, m_range⟩ best_all
end Ck
end CkH1Part

/-! ## CkH2 -/
section CkH2Part
set_option Elab.async false
set_option linter.all false
set_option maxRecDepth 100000
open PySem PySem.W PyProof.Rows
set_option maxHeartbeats 0 in
theorem PySem.Challenge.cw_carpetkin_k94_whole_bettered_holds : PySem.Challenge.rw_carpetkin_k94_whole_bettered.Holds := by
  w_on; o_law; k_head; (case hw => w_witness2)
  k_fill
  refine L2.walk_of (l := PySem.Challenge.rw_carpetkin_k94_whole_bettered) (n := 63) (k := 9) (x := "_law_script") (CX := fun _ => L2.CX0) (sp := fun w => Ck.SpF _ Ck.RLaw) rfl (by decide) rfl ⟨rfl, by decide, by decide⟩ (fun w h Y => PySem.W.kIn_of Y) ?F (fun _ _ a ns hl _ hS => ⟨_, [.scr ns], Evl.Ex.refl _, .cons ⟨a, rfl, hS⟩ .nil, ⟨ns, rfl⟩, fun _ => rfl⟩) (fun _ _ _ _ _ h => h)
  case F =>
    intro w mg fa h KX G hmg
    refine' Ck.all_mk KX G hmg ?a1 ?l1 ?c1 ?k1 ?a2 ?l2 ?c2 ?k2 ?a3 ?l3 ?c3 ?k3 ?a4 ?l4 ?c4 ?k4 ?a5 ?l5 ?c5 ?k5 ?a6 ?l6 ?c6 ?k6 ?a7 ?l7 ?c7 ?k7 ?a8 ?l8 ?c8 ?k8 ?a9 ?l9 ?c9 ?k9 ?a10 ?l10 ?c10 ?k10 ?a11 ?l11 ?c11 ?k11 ?a12 ?l12 ?c12 ?k12 ?a13 ?l13 ?c13 ?k13 ?a14 ?l14 ?c14 ?k14 ?a15 ?l15 ?c15 ?k15 ?a16 ?l16 ?c16 ?k16 ?a17 ?l17 ?c17 ?k17 ?a18 ?l18 ?c18 ?k18 ?a19 ?l19 ?c19 ?k19 ?a20 ?l20 ?c20 ?k20 ?a21 ?l21 ?c21 ?k21 ?a22 ?l22 ?c22 ?k22 ?a23 ?l23 ?c23 ?k23 ?a24 ?l24 ?c24 ?k24 ?a25 ?l25 ?c25 ?k25 ?a26 ?l26 ?c26 ?k26 ?a27 ?l27 ?c27 ?k27 ?a28 ?l28 ?c28 ?k28 ?a29 ?l29 ?c29 ?k29 ?a30 ?l30 ?c30 ?k30 ?a31 ?l31 ?c31 ?k31 ?a32 ?l32 ?c32 ?k32 ?a33 ?l33 ?c33 ?k33 ?a34 ?l34 ?c34 ?k34 ?a35 ?l35 ?c35 ?k35 ?z1 ?z2 ?z3 ?z4 ?z5 ?z6 ?z7 ?z8 ?z9 ?z10 ?z11 ?z12 ?z13 ?gW ?lW ?gS ?lD ?dS ?gS0 ?lS0 ?gS1 ?lS1 ?gS2 ?lS2 ?gS3 ?lS3 ?gS4 ?lS4 ?gS5 ?lS5 ?gS6 ?lS6 ?gS7 ?lS7 ?gH ?lH ?lH0 ?lH1 ?lH2 ?lH3 ?lH4 ?lH5 ?lH6 ?lH7 ?lH8 ?lH9 ?gZ ?lZ ?gL
    (case a1 => k_is); (case l1 => k_is); (case c1 => k_is); (case k1 => k_is); (case a2 => k_is); (case l2 => k_is); (case c2 => k_is); (case k2 => k_is); (case a3 => k_is); (case l3 => k_is); (case c3 => k_is); (case k3 => k_is); (case a4 => k_is); (case l4 => k_is); (case c4 => k_is); (case k4 => k_is); (case a5 => k_is); (case l5 => k_is); (case c5 => k_is); (case k5 => k_is); (case a6 => k_is); (case l6 => k_is); (case c6 => k_is); (case k6 => k_is); (case a7 => k_is); (case l7 => k_is); (case c7 => k_is); (case k7 => k_is); (case a8 => k_is); (case l8 => k_is); (case c8 => k_is); (case k8 => k_is); (case a9 => k_is); (case l9 => k_is); (case c9 => k_is); (case k9 => k_is); (case a10 => k_is); (case l10 => k_is); (case c10 => k_is); (case k10 => k_is); (case a11 => k_is); (case l11 => k_is); (case c11 => k_is); (case k11 => k_is); (case a12 => k_is); (case l12 => k_is); (case c12 => k_is); (case k12 => k_is); (case a13 => k_is); (case l13 => k_is); (case c13 => k_is); (case k13 => k_is); (case a14 => k_is); (case l14 => k_is); (case c14 => k_is); (case k14 => k_is); (case a15 => k_is); (case l15 => k_is); (case c15 => k_is); (case k15 => k_is); (case a16 => k_is); (case l16 => k_is); (case c16 => k_is); (case k16 => k_is); (case a17 => k_is); (case l17 => k_is); (case c17 => k_is); (case k17 => k_is); (case a18 => k_is); (case l18 => k_is); (case c18 => k_is); (case k18 => k_is); (case a19 => k_is); (case l19 => k_is); (case c19 => k_is); (case k19 => k_is); (case a20 => k_is); (case l20 => k_is); (case c20 => k_is); (case k20 => k_is); (case a21 => k_is); (case l21 => k_is); (case c21 => k_is); (case k21 => k_is); (case a22 => k_is); (case l22 => k_is); (case c22 => k_is); (case k22 => k_is); (case a23 => k_is); (case l23 => k_is); (case c23 => k_is); (case k23 => k_is); (case a24 => k_is); (case l24 => k_is); (case c24 => k_is); (case k24 => k_is); (case a25 => k_is); (case l25 => k_is); (case c25 => k_is); (case k25 => k_is); (case a26 => k_is); (case l26 => k_is); (case c26 => k_is); (case k26 => k_is); (case a27 => k_is); (case l27 => k_is); (case c27 => k_is); (case k27 => k_is); (case a28 => k_is); (case l28 => k_is); (case c28 => k_is); (case k28 => k_is); (case a29 => k_is); (case l29 => k_is); (case c29 => k_is); (case k29 => k_is); (case a30 => k_is); (case l30 => k_is); (case c30 => k_is); (case k30 => k_is); (case a31 => k_is); (case l31 => k_is); (case c31 => k_is); (case k31 => k_is); (case a32 => k_is); (case l32 => k_is); (case c32 => k_is); (case k32 => k_is); (case a33 => k_is); (case l33 => k_is); (case c33 => k_is); (case k33 => k_is); (case a34 => k_is); (case l34 => k_is); (case c34 => k_is); (case k34 => k_is); (case a35 => k_is); (case l35 => k_is); (case c35 => k_is); (case k35 => k_is); (case z1 => k_is); (case z2 => k_is); (case z3 => k_is); (case z4 => k_is); (case z5 => k_is); (case z6 => k_is); (case z7 => k_is); (case z8 => k_is); (case z9 => k_is); (case z10 => k_is); (case z11 => k_is); (case z12 => k_is); (case z13 => k_is); (case gW => k_is); (case lW => k_is); (case gS => k_is); (case lD => k_is); (case dS => k_keys); (case gS0 => k_is); (case lS0 => k_is); (case gS1 => k_is); (case lS1 => k_is); (case gS2 => k_is); (case lS2 => k_is); (case gS3 => k_is); (case lS3 => k_is); (case gS4 => k_is); (case lS4 => k_is); (case gS5 => k_is); (case lS5 => k_is); (case gS6 => k_is); (case lS6 => k_is); (case gS7 => k_is); (case lS7 => k_is); (case gH => k_is); (case lH => k_is); (case lH0 => k_is); (case lH1 => k_is); (case lH2 => k_is); (case lH3 => k_is); (case lH4 => k_is); (case lH5 => k_is); (case lH6 => k_is); (case lH7 => k_is); (case lH8 => k_is); (case lH9 => k_is); (case gZ => k_is); (case lZ => k_is); (case gL => k_is)
end CkH2Part
