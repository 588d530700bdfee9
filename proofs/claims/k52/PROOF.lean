import PyProof.Rows.All
import PySem.Challenge.RW_storerounds_k52_widest_waves
import HandS.List
import HandS.Comp
import HandS.Dict
import HandS.Iter
import HandS.Wide
import HandS.Deep
import HandS.Style
import HandS.Text
import HandS.Words
import HandS.Defaults
import HandS.TupLen
import HandS.IsInst
import HandS.SortRule
import HandS.SortInts
import HandS.Ends
import HandS.Conv
import HandS.HeadHook2
import HandS.NoneIn
import HandS.Star
import KE.DataMinMax
import KE.SortData
import HandS.TupSets
import KE.KDictCopyH
import KE.KDictWalk
import PyProof.LongRange
set_option Elab.async false
set_option linter.all false
set_option maxRecDepth 100000
namespace LD
open PySem PySem.Spec PyProof.Rows L2
/-! Layer D: values as deep data, over the hand layer's judgements. -/
abbrev St := L2.St

/-- deep data -/
inductive D where
  | non | bl (b : Bool) | int (i : Int) | str (x : Str) | ty (n : String) | ref (a : Addr) | src | scr (ns : List Int)
  | tup (ds : List D) | lst (ds : List D) | dT (kvs : List (List Key × D)) | dK (kvs : List (Key × D)) | ins (a : Addr) (c : Str) (fs : List (Str × D)) | exc (a : Addr) (c : Str) (dd : Option Addr) (fs : List (Str × D))

/-- the world of what stands still: F the frozen heap, S the sources of draws -/
structure Wd where
  F : Hp
  S : Addr → Prop
structure Wd.le (W W' : Wd) : Prop where
  f : ∀ b o, W.F b = some o → W'.F b = some o
  s : ∀ a, W.S a → W'.S a
theorem Wd.le.refl (W : Wd) : W.le W := ⟨fun _ _ h => h, fun _ h => h⟩
theorem Wd.le.trans {A B C : Wd} (x : A.le B) (y : B.le C) : A.le C := ⟨fun b o h => y.f b o (x.f b o h), fun a h => y.s a (x.s a h)⟩

section
variable (K : PySem.W.Frag) (W : Wd)
mutual
def Rp : D → V → Prop
  | .non, v => v = .non
  | .bl b, v => v = .bl b
  | .int i, v => v = .int i
  | .str x, v => v = .str x
  | .ty n, v => v = .ty n
  | .ref a, v => v = .ref a
  | .src, v => ∃ a, v = .ref a ∧ W.S a
  | .scr ns, v => ∃ a, v = .ref a ∧ SqL K W.F a (ns.map V.int)
  | .tup ds, v => ∃ a xs, v = .ref a ∧ W.F a = some (.tup xs) ∧ RpL ds xs
  | .lst ds, v => ∃ a xs, v = .ref a ∧ W.F a = some (.lst xs) ∧ RpL ds xs
  | .dT es, v => ∃ a kvs, v = .ref a ∧ Rd W.F a (.dT kvs) ∧ RpT es kvs
  | .dK es, v => ∃ a kvs, v = .ref a ∧ Rd W.F a (.dK kvs) ∧ RpK es kvs
  | .ins a c fs, v => v = .ref a ∧ ∃ C dx gs, PySem.W.nsIn K mainGlobals c = some (some (.ref C)) ∧ W.F a = some (.ins C dx gs) ∧ RpF fs gs
  | .exc a _ dd fs, v => v = .ref a ∧ ((dd = none ∧ fs = []) ∨ ∃ d gs, dd = some d ∧ W.F d = some (.xd gs) ∧ RpF fs gs)
def RpL : List D → List V → Prop
  | [], vs => vs = []
  | d :: ds, vs => ∃ v r, vs = v :: r ∧ Rp d v ∧ RpL ds r
def RpT : List (List Key × D) → List (List Key × V) → Prop
  | [], vs => vs = []
  | (k, d) :: ds, vs => ∃ v r, vs = (k, v) :: r ∧ Rp d v ∧ RpT ds r
def RpK : List (Key × D) → List (Key × V) → Prop
  | [], vs => vs = []
  | (k, d) :: ds, vs => ∃ v r, vs = (k, v) :: r ∧ Rp d v ∧ RpK ds r
def RpF : List (Str × D) → List (Str × V) → Prop
  | [], vs => vs = []
  | (k, d) :: ds, vs => ∃ v r, vs = (k, v) :: r ∧ Rp d v ∧ RpF ds r
end
end
section
variable {K : PySem.W.Frag} {W W' : Wd}
theorem rd_le (l : W.le W') {a : Addr} {u : HO} (h : Rd W.F a u) : Rd W'.F a u := h.imp (l.f _ _) fun ⟨o, e⟩ => ⟨o, l.f _ _ e⟩
theorem sqL_le (l : W.le W') {a : Addr} {xs : List V} (h : SqL K W.F a xs) : SqL K W'.F a xs := h.imp (rd_le l) fun x => x
theorem sqT_le (l : W.le W') {a : Addr} {xs : List V} (h : SqT K W.F a xs) : SqT K W'.F a xs := h.imp (rd_le l) fun x => x
mutual
theorem Rp.mono (l : W.le W') : ∀ (d : D) (v : V), Rp K W d v → Rp K W' d v
  | .non, _, h => h
  | .bl _, _, h => h
  | .int _, _, h => h
  | .str _, _, h => h
  | .ty _, _, h => h
  | .ref _, _, h => h
  | .src, _, h => by obtain ⟨a, e, h⟩ := h; exact ⟨a, e, l.s a h⟩
  | .tup ds, _, h => by obtain ⟨a, xs, e, s, r⟩ := h; exact ⟨a, xs, e, l.f _ _ s, RpL.mono l ds xs r⟩
  | .scr ns, _, h => by obtain ⟨a, e, s⟩ := h; exact ⟨a, e, sqL_le l s⟩
  | .lst ds, _, h => by obtain ⟨a, xs, e, s, r⟩ := h; exact ⟨a, xs, e, l.f _ _ s, RpL.mono l ds xs r⟩
  | .dT ds, _, h => by obtain ⟨a, xs, e, s, r⟩ := h; exact ⟨a, xs, e, rd_le l s, RpT.mono l ds xs r⟩
  | .dK ds, _, h => by obtain ⟨a, xs, e, s, r⟩ := h; exact ⟨a, xs, e, rd_le l s, RpK.mono l ds xs r⟩
  | .ins a c fs, _, h => by obtain ⟨e, C, dx, xs, n, s, r⟩ := h; exact ⟨e, C, dx, xs, n, l.f _ _ s, RpF.mono l fs xs r⟩
  | .exc a c dd fs, _, h => by
    obtain ⟨e, h⟩ := h
    exact ⟨e, h.imp id fun ⟨d, gs, e1, s, r⟩ => ⟨d, gs, e1, l.f _ _ s, RpF.mono l fs gs r⟩⟩
theorem RpL.mono (l : W.le W') : ∀ (d : List D) (v : List V), RpL K W d v → RpL K W' d v
  | [], _, h => h
  | d :: ds, _, h => by obtain ⟨v, r, e, h, t⟩ := h; exact ⟨v, r, e, Rp.mono l d v h, RpL.mono l ds r t⟩
theorem RpT.mono (l : W.le W') : ∀ (d : List (List Key × D)) (v : List (List Key × V)), RpT K W d v → RpT K W' d v
  | [], _, h => h
  | (_, d) :: ds, _, h => by obtain ⟨v, r, e, h, t⟩ := h; exact ⟨v, r, e, Rp.mono l d v h, RpT.mono l ds r t⟩
theorem RpK.mono (l : W.le W') : ∀ (d : List (Key × D)) (v : List (Key × V)), RpK K W d v → RpK K W' d v
  | [], _, h => h
  | (_, d) :: ds, _, h => by obtain ⟨v, r, e, h, t⟩ := h; exact ⟨v, r, e, Rp.mono l d v h, RpK.mono l ds r t⟩
theorem RpF.mono (l : W.le W') : ∀ (d : List (Str × D)) (v : List (Str × V)), RpF K W d v → RpF K W' d v
  | [], _, h => h
  | (_, d) :: ds, _, h => by obtain ⟨v, r, e, h, t⟩ := h; exact ⟨v, r, e, Rp.mono l d v h, RpF.mono l ds r t⟩
end
end

/-! ### slots, the state -/
/-- what a slot holds: data that stand still, or an object that no one else holds -/
inductive SC where
  | dat (d : D) | own (d : D)
/-- an expression's value: data; the object of the slot i; a new object -/
inductive SV where
  | dat (d : D) | bor (i : Nat) | new (d : D)
/-- the slots, and how many draws there were at most -/
structure Gm where
  sl : List (Option SC)
  c : Nat
def ggl : List (Option SC) → Nat → Option SC
  | [], _ => none
  | x :: _, 0 => x
  | _ :: r, n + 1 => ggl r n
def gsl : List (Option SC) → Nat → Option SC → List (Option SC)
  | [], _, _ => []
  | _ :: r, 0, y => y :: r
  | x :: r, n + 1, y => x :: gsl r n y
def gg (G : Gm) (n : Nat) : Option SC := ggl G.sl n
def gset (G : Gm) (n : Nat) (y : Option SC) : Gm := ⟨gsl G.sl n y, G.c⟩
abbrev Gm.length (G : Gm) : Nat := G.sl.length
def Gm.at (G : Gm) (n : Nat) : Gm := ⟨G.sl, n⟩
theorem gsl_len : ∀ (G : List (Option SC)) (n : Nat) (y : Option SC), (gsl G n y).length = G.length
  | [], _, _ => rfl
  | _ :: _, 0, _ => rfl
  | _ :: r, n + 1, y => congrArg Nat.succ (gsl_len r n y)
theorem ggl_set_self : ∀ (G : List (Option SC)) (n : Nat) (y : Option SC), n < G.length → ggl (gsl G n y) n = y
  | [], _, _, h => absurd h (Nat.not_lt_zero _)
  | _ :: _, 0, _, _ => rfl
  | _ :: r, n + 1, y, h => ggl_set_self r n y (Nat.lt_of_succ_lt_succ h)
theorem ggl_set_ne : ∀ (G : List (Option SC)) (n m : Nat) (y : Option SC), m ≠ n → ggl (gsl G n y) m = ggl G m
  | [], _, _, _, _ => rfl
  | _ :: _, 0, 0, _, h => absurd rfl h
  | _ :: _, 0, _ + 1, _, _ => rfl
  | _ :: _, _ + 1, 0, _, _ => rfl
  | _ :: r, n + 1, m + 1, y, h => ggl_set_ne r n m y fun e => h (congrArg Nat.succ e)
theorem gsl_gsl : ∀ (G : List (Option SC)) (n : Nat) (x y : Option SC), gsl (gsl G n x) n y = gsl G n y
  | [], _, _, _ => rfl
  | _ :: _, 0, _, _ => rfl
  | z :: r, n + 1, x, y => congrArg (z :: ·) (gsl_gsl r n x y)
theorem ggl_lt : ∀ {G : List (Option SC)} {n : Nat} {x : SC}, ggl G n = some x → n < G.length
  | [], _, _, h => by cases h
  | _ :: _, 0, _, _ => Nat.succ_pos _
  | _ :: r, n + 1, _, h => Nat.succ_lt_succ (ggl_lt (G := r) h)
theorem gset_len (G : Gm) (n : Nat) (y : Option SC) : (gset G n y).length = G.length := gsl_len _ _ _
theorem gg_set_self (G : Gm) (n : Nat) (y : Option SC) (h : n < G.length) : gg (gset G n y) n = y := ggl_set_self _ _ _ h
theorem gg_set_ne (G : Gm) (n m : Nat) (y : Option SC) (h : m ≠ n) : gg (gset G n y) m = gg G m := ggl_set_ne _ _ _ _ h
theorem gset_gset (G : Gm) (n : Nat) (x y : Option SC) : gset (gset G n x) n y = gset G n y := by unfold gset; rw [gsl_gsl]
theorem gg_lt {G : Gm} {n : Nat} {x : SC} (h : gg G n = some x) : n < G.length := ggl_lt h

/-- an object of the heap against data -/
def RO (K : PySem.W.Frag) (W : Wd) (p : Addr) : HO → D → Prop
  | .lst xs, .lst ds => RpL K W ds xs
  | .dT kvs, .dT es => RpT K W es kvs
  | .dK kvs, .dK es => RpK K W es kvs
  | .ins C _ gs, .ins a c fs => a = p ∧ PySem.W.nsIn K mainGlobals c = some (some (.ref C)) ∧ RpF K W fs gs
  | _, _ => False
theorem RO.mono {K : PySem.W.Frag} {W W' : Wd} (l : W.le W') {p : Addr} {o : HO} {d : D} (h : RO K W p o d) : RO K W' p o d := by
  cases o <;> cases d <;> first | exact False.elim h | exact RpL.mono l _ _ h | exact RpT.mono l _ _ h | exact RpK.mono l _ _ h | exact ⟨h.1, h.2.1, RpF.mono l _ _ h.2.2⟩
/-- the object is one that stands in the frozen heap -/
theorem RO.rp {K : PySem.W.Frag} {W : Wd} {p : Addr} {o : HO} {d : D} (e : W.F p = some o) (h : RO K W p o d) : Rp K W d (.ref p) := by
  cases o <;> cases d <;> first
    | exact False.elim h
    | exact ⟨p, _, rfl, e, h⟩
    | exact ⟨p, _, rfl, .inl e, h⟩
    | (obtain ⟨rfl, n, h⟩ := h; exact ⟨rfl, _, _, _, n, e, h⟩)

/-- what a source holds -/
def SrcOk (H : Hp) (a : Addr) (n : Nat) : Prop := ∃ x y z : Int, H a = some (.lst [.int x, .int y, .int z]) ∧ 0 ≤ y ∧ y < 10 ^ 50 ∧ 0 ≤ z ∧ z ≤ n

/-- an object that is held by no data: of P, the others' ones -/
structure Priv (W : Wd) (H P : Hp) (p : Addr) (o : HO) : Prop where
  at_ : H p = some o
  f : W.F p = none
  s : ¬ W.S p
  n : P p = none

/-- the state: P, the others' objects (they stay), the slots, the heap -/
structure Rl (K : PySem.W.Frag) (W : Wd) (P : Hp) (G : Gm) (σ : St) (H : Hp) : Prop where
  len : G.length = σ.length
  le : ∀ b o, W.F b = some o → H b = some o
  src : ∀ a, W.S a → W.F a = none ∧ P a = none ∧ SrcOk H a G.c
  prot : ∀ p o, P p = some o → H p = some o ∧ W.F p = none
  dat : ∀ i d, gg G i = some (.dat d) → ∃ v, σ[i]? = some (some v) ∧ Rp K W d v
  own : ∀ i d, gg G i = some (.own d) → ∃ p o, σ[i]? = some (some (.ref p)) ∧ Priv W H P p o ∧ RO K W p o d
  sep : ∀ i j d e, i ≠ j → gg G i = some (.own d) → gg G j = some (.own e) → σ[i]? ≠ σ[j]?
  pnt : ∀ p xs, P p ≠ some (.tup xs)

/-- a value -/
def RV (K : PySem.W.Frag) (W : Wd) (P : Hp) (G : Gm) (σ : St) (H : Hp) : SV → V → Prop
  | .dat d, v => Rp K W d v
  | .bor i, v => σ[i]? = some (some v) ∧ ∃ d, gg G i = some (.own d)
  | .new d, v => ∃ p o, v = .ref p ∧ Priv W H P p o ∧ RO K W p o d ∧ ∀ i e, gg G i = some (.own e) → σ[i]? ≠ some (some (.ref p))

abbrev DQ := SV → Gm → Prop
abbrev DE := Gm → DQ → Prop
/-- the reading of data, as a reading of the hand layer -/
def can (K : PySem.W.Frag) (t : DE) : TE := fun σ H Qv => ∃ W P G Q, Rl K W P G σ H ∧ t G Q ∧
  ∀ W' sv G' v H', W.le W' → Rl K W' P G' σ H' → RV K W' P G' σ H' sv v → Q sv G' → Qv v H'

theorem PE.imp {X : Cx} {e : Expr} {t u : TE} (h : PE X e t) (i : ∀ σ H Q, u σ H Q → t σ H Q) : PE X e u := ⟨fun pins s σ H Q I q => h.run pins s σ H Q I (i σ H Q q)⟩
theorem PT.imp {X : Cx} {e : Expr} {t u : TT} (h : PT X e t) (i : ∀ σ H Q, u σ H Q → t σ H Q) : PT X e u := ⟨fun pins s σ H Q I q => h.run pins s σ H Q I (i σ H Q q)⟩
theorem PS.imp {X : Cx} {e : Stmt} {t u : TS} (h : PS X e t) (i : ∀ D σ H, u D σ H → t D σ H) : PS X e u := ⟨fun pins s σ H D I q => h.run pins s σ H D I (i D σ H q)⟩
theorem PSs.imp {X : Cx} {e : List Stmt} {t u : TS} (h : PSs X e t) (i : ∀ D σ H, u D σ H → t D σ H) : PSs X e u := ⟨fun pins s σ H D I q => h.run pins s σ H D I (i D σ H q)⟩

/-! ### freezing, looking -/
section
variable {K : PySem.W.Frag} {W W' : Wd} {P : Hp} {G : Gm} {σ : St} {H : Hp}
/-- settled: a new object counts as frozen -/
def RS (K : PySem.W.Frag) (W : Wd) (σ : St) : SV → V → Prop
  | .dat d, v => Rp K W d v
  | .bor i, v => σ[i]? = some (some v)
  | .new d, v => Rp K W d v
theorem RS.mono (l : W.le W') {sv : SV} {v : V} (h : RS K W σ sv v) : RS K W' σ sv v := by
  cases sv with
  | dat d => exact Rp.mono l _ _ h
  | bor i => exact h
  | new d => exact Rp.mono l _ _ h
theorem Rl.freeze (R : Rl K W P G σ H) {p : Addr} {o : HO} {d : D} (pr : Priv W H P p o) (r : RO K W p o d) (hn : ∀ i e, gg G i = some (.own e) → σ[i]? ≠ some (some (.ref p))) :
    ∃ W', W.le W' ∧ Rl K W' P G σ H ∧ Rp K W' d (.ref p) := by
  have l : W.le ⟨upd W.F p o, W.S⟩ := ⟨fun b u e => by
    by_cases hb : b = p
    · subst hb; rw [pr.f] at e; cases e
    · show upd W.F p o b = _
      rw [upd_ne hb]; exact e, fun _ h => h⟩
  refine ⟨⟨upd W.F p o, W.S⟩, l, ⟨R.len, fun b u e => ?_, fun a h => ?_, fun q u e => ?_, fun i x e => ?_, fun i x e => ?_, R.sep, R.pnt⟩, (r.mono l).rp upd_same⟩
  · have e : upd W.F p o b = some u := e
    by_cases hb : b = p
    · subst hb; rw [upd_same] at e; cases e; exact pr.at_
    · rw [upd_ne hb] at e; exact R.le b u e
  · obtain ⟨h1, h2, h3⟩ := R.src a h
    refine ⟨?_, h2, h3⟩
    show upd W.F p o a = none
    rw [upd_ne (show a ≠ p from fun z => pr.s (by rw [← z]; exact h))]; exact h1
  · obtain ⟨h1, h2⟩ := R.prot q u e
    refine ⟨h1, ?_⟩
    show upd W.F p o q = none
    rw [upd_ne fun z => by subst z; rw [pr.n] at e; cases e]; exact h2
  · obtain ⟨v, h1, h2⟩ := R.dat i x e
    exact ⟨v, h1, Rp.mono l _ _ h2⟩
  · obtain ⟨q, u, h1, h2, h3⟩ := R.own i x e
    refine ⟨q, u, h1, ⟨h2.at_, ?_, h2.s, h2.n⟩, h3.mono l⟩
    show upd W.F p o q = none
    rw [upd_ne (show q ≠ p from fun z => hn i x e (by rw [← z]; exact h1))]; exact h2.f
theorem Rl.settle (R : Rl K W P G σ H) {sv : SV} {v : V} (h : RV K W P G σ H sv v) : ∃ W', W.le W' ∧ Rl K W' P G σ H ∧ RS K W' σ sv v := by
  cases sv with
  | dat d => exact ⟨W, .refl W, R, h⟩
  | bor i => exact ⟨W, .refl W, R, h.1⟩
  | new d =>
    obtain ⟨p, o, rfl, pr, r, hn⟩ := h
    exact R.freeze pr r hn
/-- the whole heap as frozen: for a rule that reads it now -/
def nowW (W : Wd) (H : Hp) : Wd := ⟨H, W.S⟩
theorem Rl.now (R : Rl K W P G σ H) : W.le (nowW W H) := ⟨R.le, fun _ h => h⟩
/-- a value as it stands now: its own object read off the heap, what is in it frozen -/
def RN (K : PySem.W.Frag) (W : Wd) (H : Hp) : D → V → Prop
  | .tup ds, v => ∃ a xs, v = .ref a ∧ H a = some (.tup xs) ∧ RpL K W ds xs
  | .lst ds, v => ∃ a xs, v = .ref a ∧ H a = some (.lst xs) ∧ RpL K W ds xs
  | .scr ns, v => ∃ a, v = .ref a ∧ SqL K H a (ns.map V.int)
  | .dT es, v => ∃ a kvs, v = .ref a ∧ Rd H a (.dT kvs) ∧ RpT K W es kvs
  | .dK es, v => ∃ a kvs, v = .ref a ∧ Rd H a (.dK kvs) ∧ RpK K W es kvs
  | .ins a c fs, v => v = .ref a ∧ ∃ C dx gs, PySem.W.nsIn K mainGlobals c = some (some (.ref C)) ∧ H a = some (.ins C dx gs) ∧ RpF K W fs gs
  | d, v => Rp K W d v
theorem Rl.sqL (R : Rl K W P G σ H) {a : Addr} {xs : List V} (h : SqL K W.F a xs) : SqL K H a xs := sqL_le (W' := nowW W H) R.now h
theorem Rl.sqT (R : Rl K W P G σ H) {a : Addr} {xs : List V} (h : SqT K W.F a xs) : SqT K H a xs := sqT_le (W' := nowW W H) R.now h
theorem Rl.rdL (R : Rl K W P G σ H) {a : Addr} {u : HO} (h : Rd W.F a u) : Rd H a u := rd_le (W' := nowW W H) R.now h
theorem Rl.rn (R : Rl K W P G σ H) : ∀ {d : D} {v : V}, Rp K W d v → RN K W H d v
  | .tup _, _, ⟨a, xs, e, s, r⟩ => ⟨a, xs, e, R.le _ _ s, r⟩
  | .lst _, _, ⟨a, xs, e, s, r⟩ => ⟨a, xs, e, R.le _ _ s, r⟩
  | .scr _, _, ⟨a, e, s⟩ => ⟨a, e, R.sqL s⟩
  | .dT _, _, ⟨a, xs, e, s, r⟩ => ⟨a, xs, e, R.rdL s, r⟩
  | .dK _, _, ⟨a, xs, e, s, r⟩ => ⟨a, xs, e, R.rdL s, r⟩
  | .ins _ _ _, _, ⟨e, C, dx, xs, n, s, r⟩ => ⟨e, C, dx, xs, n, R.le _ _ s, r⟩
  | .exc _ _ _ _, _, h => h
  | .non, _, h => h
  | .bl _, _, h => h
  | .int _, _, h => h
  | .str _, _, h => h
  | .ty _, _, h => h
  | .ref _, _, h => h
  | .src, _, h => h
theorem Rl.rnow (R : Rl K W P G σ H) : ∀ {d : D} {v : V}, RN K W H d v → Rp K (nowW W H) d v
  | .tup _, _, ⟨a, xs, e, s, r⟩ => ⟨a, xs, e, s, RpL.mono R.now _ _ r⟩
  | .lst _, _, ⟨a, xs, e, s, r⟩ => ⟨a, xs, e, s, RpL.mono R.now _ _ r⟩
  | .scr _, _, ⟨a, e, s⟩ => ⟨a, e, s⟩
  | .dT _, _, ⟨a, xs, e, s, r⟩ => ⟨a, xs, e, s, RpT.mono R.now _ _ r⟩
  | .dK _, _, ⟨a, xs, e, s, r⟩ => ⟨a, xs, e, s, RpK.mono R.now _ _ r⟩
  | .ins _ _ _, _, ⟨e, C, dx, xs, n, s, r⟩ => ⟨e, C, dx, xs, n, s, RpF.mono R.now _ _ r⟩
  | .exc _ _ _ _, _, h => Rp.mono R.now _ _ h
  | .non, _, h => h
  | .bl _, _, h => h
  | .int _, _, h => h
  | .str _, _, h => h
  | .ty _, _, h => h
  | .ref _, _, h => h
  | .src, _, h => h
theorem RO.rn {p : Addr} {o : HO} {d : D} (e : H p = some o) (h : RO K W p o d) : RN K W H d (.ref p) := by
  cases o <;> cases d <;> first
    | exact False.elim h
    | exact ⟨p, _, rfl, e, h⟩
    | exact ⟨p, _, rfl, .inl e, h⟩
    | (obtain ⟨rfl, n, h⟩ := h; exact ⟨rfl, _, _, _, n, e, h⟩)
/-- to look at a value for a moment -/
def see (G : Gm) (sv : SV) (k : D → Prop) : Prop :=
  match sv with
  | .dat d => k d
  | .new d => k d
  | .bor i => match gg G i with | some (.own d) => k d | some (.dat d) => k d | none => False
/-- to freeze a value for good -/
def frz (G : Gm) (sv : SV) (k : D → Gm → Prop) : Prop :=
  match sv with
  | .dat d => k d G
  | .new d => k d G
  | .bor i => match gg G i with | some (.own d) => k d (gset G i (some (.dat d))) | some (.dat d) => k d G | none => False
theorem Rl.see (R : Rl K W P G σ H) {sv : SV} {v : V} (h : RS K W σ sv v) {k : D → Prop} (hk : see G sv k) : ∃ d, RN K W H d v ∧ k d := by
  cases sv with
  | dat d => exact ⟨d, R.rn h, hk⟩
  | new d => exact ⟨d, R.rn h, hk⟩
  | bor i =>
    have hv : σ[i]? = some (some v) := h
    have hk : (match gg G i with | some (.own d) => k d | some (.dat d) => k d | none => False) := hk
    cases e : gg G i with
    | none => rw [e] at hk; exact hk.elim
    | some x =>
      rw [e] at hk
      cases x with
      | dat d =>
        obtain ⟨w, h1, h2⟩ := R.dat i d e
        rw [hv] at h1; cases h1
        exact ⟨d, R.rn h2, hk⟩
      | own d =>
        obtain ⟨p, o, h1, h2, h3⟩ := R.own i d e
        rw [hv] at h1; cases h1
        exact ⟨d, h3.rn h2.at_, hk⟩
/-- a slot is forgotten, or an own one counts as frozen -/
theorem Rl.drop (R : Rl K W P G σ H) (i : Nat) : Rl K W P (gset G i none) σ H := by
  refine ⟨by rw [gset_len]; exact R.len, R.le, R.src, R.prot, fun j d e => ?_, fun j d e => ?_, fun j k d e n h1 h2 => ?_, R.pnt⟩
  all_goals
    have key : ∀ {j : Nat} {x : SC}, gg (gset G i none) j = some x → gg G j = some x := fun {j x} e => by
      by_cases hj : j = i
      · subst hj
        have hl : j < G.length := by have := gg_lt e; rwa [gset_len] at this
        rw [gg_set_self _ _ _ hl] at e; cases e
      · rwa [gg_set_ne _ _ _ _ hj] at e
  · exact R.dat j d (key e)
  · exact R.own j d (key e)
  · exact R.sep j k d e n (key h1) (key h2)
theorem Rl.mend (R : Rl K W P G σ H) {i : Nat} {d : D} {v : V} (hv : σ[i]? = some (some v)) (r : Rp K W d v) : Rl K W P (gset G i (some (.dat d))) σ H := by
  have key : ∀ {j : Nat} {x : SC}, gg (gset G i (some (.dat d))) j = some x → (j = i ∧ x = .dat d) ∨ (j ≠ i ∧ gg G j = some x) := fun {j x} e => by
    by_cases hj : j = i
    · subst hj
      have hl : j < G.length := by have := gg_lt e; rwa [gset_len] at this
      rw [gg_set_self _ _ _ hl] at e; cases e; exact .inl ⟨rfl, rfl⟩
    · rw [gg_set_ne _ _ _ _ hj] at e; exact .inr ⟨hj, e⟩
  refine ⟨by rw [gset_len]; exact R.len, R.le, R.src, R.prot, fun j x e => ?_, fun j x e => ?_, fun j k x y n h1 h2 => ?_, R.pnt⟩
  · rcases key e with ⟨hj, e'⟩ | ⟨_, e'⟩
    · cases e'; subst hj; exact ⟨v, hv, r⟩
    · exact R.dat j x e'
  · rcases key e with ⟨hj, e'⟩ | ⟨_, e'⟩
    · cases e'
    · exact R.own j x e'
  · rcases key h1 with ⟨_, e'⟩ | ⟨_, e1⟩
    · cases e'
    · rcases key h2 with ⟨_, e'⟩ | ⟨_, e2⟩
      · cases e'
      · exact R.sep j k x y n e1 e2
theorem Rl.frz (R : Rl K W P G σ H) {sv : SV} {v : V} (h : RV K W P G σ H sv v) {k : D → Gm → Prop} (hk : frz G sv k) : ∃ W' d G', W.le W' ∧ Rl K W' P G' σ H ∧ Rp K W' d v ∧ k d G' := by
  cases sv with
  | dat d => exact ⟨W, d, G, .refl W, R, h, hk⟩
  | new d =>
    obtain ⟨p, o, rfl, pr, r, hn⟩ := h
    obtain ⟨W', l, R', r'⟩ := R.freeze pr r hn
    exact ⟨W', d, G, l, R', r', hk⟩
  | bor i =>
    obtain ⟨hv, _⟩ := h
    have hk : (match gg G i with | some (.own d) => k d (gset G i (some (.dat d))) | some (.dat d) => k d G | none => False) := hk
    cases e : gg G i with
    | none => rw [e] at hk; exact hk.elim
    | some x =>
      rw [e] at hk
      cases x with
      | dat d =>
        obtain ⟨w, h1, h2⟩ := R.dat i d e
        rw [hv] at h1; cases h1
        exact ⟨W, d, G, .refl W, R, h2, hk⟩
      | own d =>
        obtain ⟨p, o, h1, h2, h3⟩ := R.own i d e
        rw [hv] at h1; cases h1
        have R1 := R.drop i
        have hi : i < G.length := gg_lt e
        obtain ⟨W', l, R', r'⟩ := R1.freeze h2 h3 fun j x ej hj => by
          by_cases hji : j = i
          · subst hji; rw [gg_set_self _ _ _ hi] at ej; cases ej
          · rw [gg_set_ne _ _ _ _ hji] at ej
            exact R.sep j i x d hji ej e (hj.trans hv.symm)
        have R2 := R'.mend hv r'
        rw [gset_gset] at R2
        exact ⟨W', d, _, l, R2, r', hk⟩
/-- a new object -/
theorem Rl.alloc (R : Rl K W P G σ H) {p : Addr} {o : HO} {d : D} (hp : H p = none) (r : RO K W p o d) : Rl K W P G σ (upd H p o) ∧ RV K W P G σ (upd H p o) (.new d) (.ref p) := by
  have nF : W.F p = none := by
    cases e : W.F p with
    | none => rfl
    | some u => rw [R.le _ _ e] at hp; cases hp
  have nS : ¬ W.S p := fun h => by
    obtain ⟨_, _, x, y, z, e, _⟩ := R.src p h
    rw [hp] at e; cases e
  have nP : P p = none := by
    cases e : P p with
    | none => rfl
    | some u => rw [(R.prot _ _ e).1] at hp; cases hp
  have old : ∀ b u, H b = some u → upd H p o b = some u := fun b u e => by rw [upd_ne (ne_of_none e hp)]; exact e
  refine ⟨⟨R.len, fun b u e => old b u (R.le b u e), fun a h => ?_, fun q u e => ?_, R.dat, fun i x e => ?_, R.sep, R.pnt⟩, p, o, rfl, ⟨upd_same, nF, nS, nP⟩, r, fun i e h1 h2 => ?_⟩
  · obtain ⟨h1, h2, x, y, z, e, h3⟩ := R.src a h
    exact ⟨h1, h2, x, y, z, old _ _ e, h3⟩
  · obtain ⟨h1, h2⟩ := R.prot q u e
    exact ⟨old _ _ h1, h2⟩
  · obtain ⟨q, u, h1, h2, h3⟩ := R.own i x e
    exact ⟨q, u, h1, ⟨old _ _ h2.at_, h2.f, h2.s, h2.n⟩, h3⟩
  · obtain ⟨q, u, h3, h4, _⟩ := R.own i e h1
    rw [h2] at h3; cases h3
    have q := h4.at_
    rw [hp] at q; cases q
/-- .. that never changes -/
theorem Rl.allocT (R : Rl K W P G σ H) {p : Addr} {xs : List V} {ds : List D} (hp : H p = none) (r : RpL K W ds xs) : ∃ W', W.le W' ∧ Rl K W' P G σ (upd H p (.tup xs)) ∧ Rp K W' (.tup ds) (.ref p) := by
  have nF : W.F p = none := by
    cases e : W.F p with
    | none => rfl
    | some u => rw [R.le _ _ e] at hp; cases hp
  have nS : ¬ W.S p := fun h => by
    obtain ⟨_, _, x, y, z, e, _⟩ := R.src p h
    rw [hp] at e; cases e
  have nP : P p = none := by
    cases e : P p with
    | none => rfl
    | some u => rw [(R.prot _ _ e).1] at hp; cases hp
  have old : ∀ b u, H b = some u → upd H p (.tup xs) b = some u := fun b u e => by rw [upd_ne (ne_of_none e hp)]; exact e
  have l : W.le ⟨upd W.F p (.tup xs), W.S⟩ := ⟨fun b u e => by
    show upd W.F p _ b = _
    rw [upd_ne (ne_of_none e nF)]; exact e, fun _ h => h⟩
  refine ⟨⟨upd W.F p (.tup xs), W.S⟩, l, ⟨R.len, fun b u e => ?_, fun a h => ?_, fun q u e => ?_, fun i x e => ?_, fun i x e => ?_, R.sep, R.pnt⟩, p, xs, rfl, upd_same, RpL.mono l _ _ r⟩
  · have e : upd W.F p (.tup xs) b = some u := e
    by_cases hb : b = p
    · subst hb; rw [upd_same] at e ⊢; exact e
    · rw [upd_ne hb] at e ⊢; exact R.le b u e
  · obtain ⟨h1, h2, x, y, z, e, h3⟩ := R.src a h
    refine ⟨?_, h2, x, y, z, old _ _ e, h3⟩
    show upd W.F p _ a = none
    rw [upd_ne (show a ≠ p from fun q => nS (by rw [← q]; exact h))]; exact h1
  · obtain ⟨h1, h2⟩ := R.prot q u e
    refine ⟨old _ _ h1, ?_⟩
    show upd W.F p _ q = none
    rw [upd_ne (ne_of_none h1 hp)]; exact h2
  · obtain ⟨v, h1, h2⟩ := R.dat i x e
    exact ⟨v, h1, Rp.mono l _ _ h2⟩
  · obtain ⟨q, u, h1, h2, h3⟩ := R.own i x e
    refine ⟨q, u, h1, ⟨old _ _ h2.at_, ?_, h2.s, h2.n⟩, h3.mono l⟩
    show upd W.F p _ q = none
    rw [upd_ne (ne_of_none h2.at_ hp)]; exact h2.f
end

/-! ### plain data, as the library tells them -/
mutual
def toPy : D → PyData
  | .bl b => .bool b
  | .int i => .int i
  | .str x => .str x
  | .tup ds => .tuple (toPys ds)
  | .lst ds => .list (toPys ds)
  | .dK es => .dict (toKv es)
  | .scr ns => .list (ns.map PyData.int)
  | _ => .none
def toPys : List D → List PyData
  | [] => []
  | d :: ds => toPy d :: toPys ds
def toKv : List (Key × D) → List (PyData × PyData)
  | [] => []
  | (k, d) :: es => ((match k with | .inl i => PyData.int i | .inr x => PyData.str x), toPy d) :: toKv es
end
def keyPy : Key → PyData
  | .inl i => .int i
  | .inr x => .str x
theorem toKv_cons {k : Key} {d : D} {es : List (Key × D)} : toKv ((k, d) :: es) = (keyPy k, toPy d) :: toKv es := by cases k <;> rfl
/-- data that a text is made of -/
def Pd : Nat → D → Prop
  | 0, d => match d with
    | .non => True
    | .bl _ => True
    | .int _ => True
    | .str _ => True
    | _ => False
  | n + 1, d => match d with
    | .non => True
    | .bl _ => True
    | .int _ => True
    | .str _ => True
    | .tup ds => ∀ d ∈ ds, Pd n d
    | .lst ds => ∀ d ∈ ds, Pd n d
    | .dK es => ∀ e ∈ es, Pd n e.2
    | _ => False
/-- plain: none, bools, ints, texts, lists and tuples of them, so deep at most -/
def Pl : Nat → D → Prop
  | 0, d => match d with
    | .non => True
    | .bl _ => True
    | .int _ => True
    | .str x => PyData.strOk x = true
    | _ => False
  | n + 1, d => match d with
    | .non => True
    | .bl _ => True
    | .int _ => True
    | .str x => PyData.strOk x = true
    | .tup ds => ∀ d ∈ ds, Pl n d
    | .lst ds => ∀ d ∈ ds, Pl n d
    | .scr _ => True
    | _ => False
theorem toPys_map : ∀ ds : List D, toPys ds = ds.map toPy
  | [] => rfl
  | d :: ds => by rw [toPys, toPys_map ds]; rfl
section
variable {K : PySem.W.Frag} {W : Wd} {H : Hp}
theorem dp_all : ∀ {ds : List D} {xs : List V}, (∀ d ∈ ds, ∀ v, Rp K ⟨H, W.S⟩ d v → Dp K H v (toPy d)) → RpL K ⟨H, W.S⟩ ds xs → DpAll K H xs (toPys ds)
  | [], _, _, h => by
    have h : _ = [] := h
    subst h; exact .nil
  | d :: ds, _, f, h => by
    obtain ⟨v, r, e, h1, h2⟩ := h
    subst e
    exact .cons (f d List.mem_cons_self v h1) (dp_all (fun x hx => f x (List.mem_cons_of_mem _ hx)) h2)
theorem toPys_ints (ns : List Int) : toPys (ns.map D.int) = ns.map PyData.int := by
  rw [toPys_map, List.map_map]
  exact List.map_congr_left fun i _ => by rw [Function.comp, toPy]
theorem RpL.ofInts {W : Wd} : ∀ (ns : List Int), RpL K W (ns.map D.int) (ns.map V.int)
  | [] => rfl
  | n :: ns => ⟨.int n, _, rfl, rfl, RpL.ofInts ns⟩
theorem Pl.dp {n : Nat} : ∀ {d : D} {v : V}, Pl n d → Rp K ⟨H, W.S⟩ d v → Dp K H v (toPy d) := by
  induction n with
  | zero =>
    intro d v p h
    cases d with
    | non => obtain rfl : v = .non := h; exact .non
    | bl b => obtain rfl : v = .bl b := h; exact .bl b
    | int b => obtain rfl : v = .int b := h; exact .int b
    | str b => obtain rfl : v = .str b := h; exact .str b
    | _ => exact False.elim p
  | succ n ih =>
    intro d v p h
    cases d with
    | non => obtain rfl : v = .non := h; exact .non
    | bl b => obtain rfl : v = .bl b := h; exact .bl b
    | int b => obtain rfl : v = .int b := h; exact .int b
    | str b => obtain rfl : v = .str b := h; exact .str b
    | tup ds =>
      obtain ⟨a, xs, rfl, s, r⟩ := h
      exact .tup (.of s) (dp_all (fun d hd v h => ih (p d hd) h) r)
    | lst ds =>
      obtain ⟨a, xs, rfl, s, r⟩ := h
      exact .lst (.inl (.inl s)) (dp_all (fun d hd v h => ih (p d hd) h) r)
    | scr ns =>
      obtain ⟨a, rfl, s⟩ := h
      rw [toPy, ← toPys_ints]
      exact .lst s (dp_all (W := W) (fun d hd v h => by obtain ⟨i, _, rfl⟩ := List.mem_map.mp hd; obtain rfl : v = .int i := h; exact .int i) (RpL.ofInts ns))
    | _ => exact False.elim p
theorem lay_all : ∀ {ds : List D}, (∀ d ∈ ds, (toPy d).canLay0 = true) → PyData.canLayAll0 (toPys ds) = true
  | [], _ => by simp [toPys, PyData.canLayAll0]
  | d :: ds, f => by
    simp only [toPys, PyData.canLayAll0, Bool.and_eq_true]
    exact ⟨f d List.mem_cons_self, lay_all fun x hx => f x (List.mem_cons_of_mem _ hx)⟩
theorem Pl.lay {n : Nat} : ∀ {d : D}, Pl n d → (toPy d).canLay0 = true := by
  induction n with
  | zero => intro d p; cases d <;> first | exact False.elim p | (simp [toPy, PyData.canLay0]; done) | (simp only [toPy, PyData.canLay0]; exact p)
  | succ n ih =>
    intro d p
    cases d <;> first
      | exact False.elim p
      | (simp [toPy, PyData.canLay0]; done)
      | (simp only [toPy, PyData.canLay0]; exact p)
      | (simp only [toPy, PyData.canLay0]; exact lay_all fun d hd => ih (p d hd))
      | (rw [toPy, ← toPys_ints]; simp only [PyData.canLay0]; exact lay_all fun d hd => by obtain ⟨i, _, rfl⟩ := List.mem_map.mp hd; simp [toPy, PyData.canLay0])
theorem depth_all {n : Nat} : ∀ {ds : List D}, (∀ d ∈ ds, (toPy d).depth ≤ n) → PyData.depthAll (toPys ds) ≤ n
  | [], _ => by simp [toPys, PyData.depthAll]
  | d :: ds, f => by
    have h1 := f d List.mem_cons_self
    have h2 := depth_all (n := n) fun x hx => f x (List.mem_cons_of_mem _ hx)
    simp only [toPys, PyData.depthAll]
    omega
theorem Pl.depth {n : Nat} : ∀ {d : D}, Pl n d → (toPy d).depth ≤ n + 1 := by
  induction n with
  | zero => intro d p; cases d <;> first | exact False.elim p | simp [toPy, PyData.depth]
  | succ n ih =>
    intro d p
    cases d with
    | tup ds =>
      have := depth_all (n := n + 1) fun d hd => ih (p d hd)
      simp only [toPy, PyData.depth]; omega
    | lst ds =>
      have := depth_all (n := n + 1) fun d hd => ih (p d hd)
      simp only [toPy, PyData.depth]; omega
    | scr ns =>
      have := depth_all (n := 1) (ds := ns.map D.int) fun d hd => by obtain ⟨i, _, rfl⟩ := List.mem_map.mp hd; simp [toPy, PyData.depth]
      rw [toPy, ← toPys_ints]
      simp only [PyData.depth]
      omega
    | _ => first | exact False.elim p | simp [toPy, PyData.depth]
theorem Pl.shaped {n : Nat} {d : D} (h : Pl n d) (hn : n ≤ 60) : SeqAt.shaped (toPy d) = true := by
  unfold SeqAt.shaped
  rw [h.lay, Bool.true_and, decide_eq_true_eq]
  have := h.depth
  omega
end

/-! ### operations on data -/
theorem OpR.imp {X : Cx} {f : Value → Value → Sem Value} {r r' : R2} (h : OpR X f r) (i : ∀ x y H Q, r' x y H Q → r x y H Q) : OpR X f r' :=
  fun pins s σ H x y v u Q I rx ry q => h pins s σ H x y v u Q I rx ry (i x y H Q q)
theorem UnR.imp {X : Cx} {f : Value → Sem Value} {r r' : V → Hp → VK → Prop} (h : UnR X f r) (i : ∀ x H Q, r' x H Q → r x H Q) : UnR X f r' :=
  fun pins s σ H x v Q I rx q => h pins s σ H x v Q I rx (i x H Q q)
theorem CallR.imp {X : Cx} {f : Value} {r r' : List V → Hp → VK → Prop} (h : CallR X f r) (i : ∀ x H Q, r' x H Q → r x H Q) : CallR X f r' :=
  fun pins s σ H x v Q I rx q => h pins s σ H x v Q I rx (i x H Q q)

abbrev D2 := D → D → (SV → Prop) → Prop
abbrev D1 := D → (SV → Prop) → Prop
/-- what is wanted of a result -/
def Rs (K : PySem.W.Frag) (W : Wd) (P : Hp) (G : Gm) (σ : St) (Q : SV → Prop) (Qv : VK) : Prop :=
  ∀ W' sv v H', W.le W' → Rl K W' P G σ H' → RV K W' P G σ H' sv v → Q sv → Qv v H'
def canO (K : PySem.W.Frag) (t : D2) : R2 := fun x y H Qv => ∃ W P G σ a b Q, Rl K W P G σ H ∧ RN K W H a x ∧ RN K W H b y ∧ t a b Q ∧ Rs K W P G σ Q Qv
def canU (K : PySem.W.Frag) (t : D1) : V → Hp → VK → Prop := fun x H Qv => ∃ W P G σ a Q, Rl K W P G σ H ∧ RN K W H a x ∧ t a Q ∧ Rs K W P G σ Q Qv
section
variable {X : Cx} {K : PySem.W.Frag} {W : Wd} {P : Hp} {G : Gm} {σ : St} {H : Hp}
/-- a result that leaves the heap -/
theorem Rs.dat {Q : SV → Prop} {Qv : VK} (r : Rs K W P G σ Q Qv) (R : Rl K W P G σ H) {d : D} {v : V} (h : Rp K W d v) (q : Q (.dat d)) : Qv v H := r W (.dat d) v H (.refl W) R h q
theorem Rs.int {Q : SV → Prop} {Qv : VK} (r : Rs K W P G σ Q Qv) (R : Rl K W P G σ H) {i : Int} (q : Q (.dat (.int i))) : Qv (.int i) H := r.dat R (d := .int i) rfl q
theorem Rs.bl {Q : SV → Prop} {Qv : VK} (r : Rs K W P G σ Q Qv) (R : Rl K W P G σ H) {i : Bool} (q : Q (.dat (.bl i))) : Qv (.bl i) H := r.dat R (d := .bl i) rfl q
theorem Rs.str {Q : SV → Prop} {Qv : VK} (r : Rs K W P G σ Q Qv) (R : Rl K W P G σ H) {i : Str} (q : Q (.dat (.str i))) : Qv (.str i) H := r.dat R (d := .str i) rfl q
theorem Rs.new {Q : SV → Prop} {Qv : VK} (r : Rs K W P G σ Q Qv) (R : Rl K W P G σ H) {d : D} {o : HO} {p : Addr} (hp : H p = none) (h : RO K W p o d) (q : Q (.new d)) : Qv (.ref p) (upd H p o) :=
  r W (.new d) _ _ (.refl W) (R.alloc hp h).1 (R.alloc hp h).2 q
theorem Rs.newT {Q : SV → Prop} {Qv : VK} (r : Rs K W P G σ Q Qv) (R : Rl K W P G σ H) {ds : List D} {xs : List V} {p : Addr} (hp : H p = none) (h : RpL K W ds xs) (q : Q (.dat (.tup ds))) : Qv (.ref p) (upd H p (.tup xs)) := by
  obtain ⟨W', l, R', r'⟩ := R.allocT hp h
  exact r W' (.dat (.tup ds)) _ _ l R' r' q
theorem RpL.append : ∀ {a b : List D} {x y : List V}, RpL K W a x → RpL K W b y → RpL K W (a ++ b) (x ++ y)
  | [], _, _, _, h, g => by obtain rfl : _ = [] := h; exact g
  | d :: ds, _, _, _, h, g => by
    obtain ⟨v, r, rfl, h1, h2⟩ := h
    exact ⟨v, r ++ _, rfl, h1, RpL.append h2 g⟩
theorem RpL.length : ∀ {a : List D} {x : List V}, RpL K W a x → x.length = a.length
  | [], _, h => by obtain rfl : _ = [] := h; rfl
  | d :: ds, _, h => by obtain ⟨v, r, rfl, h1, h2⟩ := h; exact congrArg Nat.succ (RpL.length h2)
theorem RpL.get : ∀ {a : List D} {x : List V} {i : Nat} {d : D}, RpL K W a x → a[i]? = some d → ∃ v, x[i]? = some v ∧ Rp K W d v
  | d :: ds, _, 0, _, h, e => by
    obtain ⟨v, r, rfl, h1, h2⟩ := h
    cases e
    exact ⟨v, rfl, h1⟩
  | d :: ds, _, i + 1, _, h, e => by
    obtain ⟨v, r, rfl, h1, h2⟩ := h
    obtain ⟨w, e1, e2⟩ := RpL.get (i := i) h2 e
    exact ⟨w, e1, e2⟩
theorem RpL.drop : ∀ {a : List D} {x : List V} (n : Nat), RpL K W a x → RpL K W (a.drop n) (x.drop n)
  | _, _, 0, h => h
  | [], _, n + 1, h => by obtain rfl : _ = [] := h; exact rfl
  | d :: ds, _, n + 1, h => by obtain ⟨v, r, rfl, h1, h2⟩ := h; exact RpL.drop n h2
theorem RpL.take : ∀ {a : List D} {x : List V} (n : Nat), RpL K W a x → RpL K W (a.take n) (x.take n)
  | _, _, 0, h => rfl
  | [], _, n + 1, h => by obtain rfl : _ = [] := h; exact rfl
  | d :: ds, _, n + 1, h => by obtain ⟨v, r, rfl, h1, h2⟩ := h; exact ⟨v, r.take n, rfl, h1, RpL.take n h2⟩
theorem RpL.ints : ∀ {ns : List Int} {x : List V}, RpL K W (ns.map D.int) x → x = ns.map V.int
  | [], _, h => h
  | n :: ns, _, h => by obtain ⟨v, r, rfl, h1, h2⟩ := h; obtain rfl : v = .int n := h1; rw [RpL.ints h2]; rfl
theorem RpL.bls : ∀ {ns : List Bool} {x : List V}, RpL K W (ns.map D.bl) x → x = ns.map V.bl
  | [], _, h => h
  | n :: ns, _, h => by obtain ⟨v, r, rfl, h1, h2⟩ := h; obtain rfl : v = .bl n := h1; rw [RpL.bls h2]; rfl
theorem RpL.rep : ∀ (n : Nat) {a : List D} {x : List V}, RpL K W a x → RpL K W (List.replicate n a).flatten (List.replicate n x).flatten
  | 0, _, _, _ => rfl
  | n + 1, _, _, h => by
    rw [List.replicate_succ, List.replicate_succ, List.flatten_cons, List.flatten_cons]
    exact RpL.append h (RpL.rep n h)

/-! the sum: ints, texts, lists, tuples -/
def dAdd : D2
  | .int i, .int j, Q => Q (.dat (.int (i + j)))
  | .int i, .bl k, Q => Q (.dat (.int (i + b2i k)))
  | .str x, .str y, Q => x.length + y.length ≤ sizeLine ∧ Q (.dat (.str (x ++ y)))
  | .lst a, .lst b, Q => a.length + b.length ≤ sizeLine ∧ Q (.new (.lst (a ++ b)))
  | .scr ns, .lst b, Q => ns.length + b.length ≤ sizeLine ∧ Q (.new (.lst (ns.map D.int ++ b)))
  | .tup a, .tup b, Q => a ≠ [] ∧ b ≠ [] ∧ a.length + b.length ≤ sizeLine ∧ Q (.dat (.tup (a ++ b)))
  | _, _, _ => False
/-- xs + ys, lists that may be locked or the module's -/
def rCatL (K : PySem.W.Frag) : R2 := fun x y H Q => ∃ l b xs zs, x = .ref l ∧ y = .ref b ∧ SqL K H l xs ∧ SqL K H b zs ∧ xs.length + zs.length ≤ sizeLine ∧ ∀ p, H p = none → Q (.ref p) (upd H p (.lst (xs ++ zs)))
theorem op_catL : OpR X (binaryOp .Add) (rCatL X.K) := by
  intro pins s σ H x y v u Q I rx ry ⟨l, b, xs, zs, e1, e2, h1, h2, hz, q⟩
  subst e1 e2
  cases rx
  cases ry
  obtain ⟨its, r, o1, _⟩ := I.list h1
  obtain ⟨its2, r2, o2, _⟩ := I.list h2
  have hl := r.length
  have hl2 := r2.length
  obtain ⟨⟨c1, d1, data1, sl1⟩, n1, g1, k1, j1, q1⟩ := o1
  obtain ⟨⟨c2, d2, data2, sl2⟩, n2, g2, k2, j2, q2⟩ := o2
  simp only at k1 j1 q1 k2 j2 q2
  subst k1 j1 q1 k2 j2 q2
  have hsz : its.toArray.size + its2.toArray.size ≤ sizeLine := by rw [List.size_toArray, List.size_toArray]; omega
  refine concat_meets ⟨_, g1, rfl⟩ ⟨_, g2, rfl⟩ noFill_list_add seq_list_add PySem.F.slot_list_add PySem.F.entry_list_add (PySem.F.args_list_add_2 _ _)
    (list_addW l b _ _ n1 n2 none none sl1 sl2 hsz) ⟨g1, g2, ?_⟩
  rw [show its.toArray ++ its2.toArray = (its ++ its2).toArray by simp]
  exact ⟨.ref _, _, I.lnew (t' := s.toks) (r.append r2) (by rw [List.length_append]; omega), rfl, q _ I.fresh⟩
theorem od_add : OpR X (binaryOp .Add) (canO X.K dAdd) := by
  refine OpR.imp (OpR.or (OpR.or (OpR.or op_add op_add_ib) op_add_str) (OpR.or op_catL op_catT)) ?_
  rintro x y H Qv ⟨W, P, G, σ, a, b, Q, R, ha, hb, t, r⟩
  cases a with
  | int i =>
    obtain rfl : x = .int i := ha
    cases b with
    | int j => obtain rfl : y = .int j := hb; exact .inl (.inl (.inl ⟨i, j, rfl, rfl, r.int R t⟩))
    | bl j => obtain rfl : y = .bl j := hb; exact .inl (.inl (.inr ⟨i, j, rfl, rfl, r.int R t⟩))
    | _ => exact False.elim t
  | str i =>
    obtain rfl : x = .str i := ha
    cases b with
    | str j => obtain rfl : y = .str j := hb; exact .inl (.inr ⟨i, j, rfl, rfl, t.1, r.str R t.2⟩)
    | _ => exact False.elim t
  | lst i =>
    obtain ⟨p, xs, rfl, s1, r1⟩ := ha
    cases b with
    | lst j =>
      obtain ⟨q, ys, rfl, s2, r2⟩ := hb
      obtain ⟨hl, t⟩ := t
      exact .inr (.inl ⟨p, q, xs, ys, rfl, rfl, .of s1, .of s2, by rw [r1.length, r2.length]; exact hl, fun z hz => r.new R hz (d := .lst (i ++ j)) (o := .lst _) (RpL.append r1 r2) t⟩)
    | _ => exact False.elim t
  | scr i =>
    obtain ⟨p, rfl, s1⟩ := ha
    cases b with
    | lst j =>
      obtain ⟨q, ys, rfl, s2, r2⟩ := hb
      obtain ⟨hl, t⟩ := t
      exact .inr (.inl ⟨p, q, _, ys, rfl, rfl, s1, .of s2, by rw [List.length_map, r2.length]; exact hl, fun z hz => r.new R hz (d := .lst (i.map D.int ++ j)) (o := .lst _) (RpL.append (RpL.ofInts i) r2) t⟩)
    | _ => exact False.elim t
  | tup i =>
    obtain ⟨p, xs, rfl, s1, r1⟩ := ha
    cases b with
    | tup j =>
      obtain ⟨q, ys, rfl, s2, r2⟩ := hb
      obtain ⟨hn, hn2, hl, t⟩ := t
      have l1 := r1.length
      have l2 := r2.length
      refine .inr (.inr ⟨p, q, xs, ys, rfl, rfl, .of s1, .of s2, fun e => ?_, by rw [r1.length, r2.length]; exact hl, fun e => ?_, fun _ z hz => r.newT R hz (r1.append r2) t⟩)
      · subst e; exact hn (List.length_eq_zero_iff.mp l1.symm)
      · subst e; exact absurd (List.length_eq_zero_iff.mp l2.symm) hn2
    | _ => exact False.elim t
  | _ => exact False.elim t

def dSub : D2
  | .int i, .int j, Q => Q (.dat (.int (i - j)))
  | _, _, _ => False
theorem od_sub : OpR X (binaryOp .Sub) (canO X.K dSub) := by
  refine OpR.imp (op_sub (X := X)) ?_
  rintro x y H Qv ⟨W, P, G, σ, a, b, Q, R, ha, hb, t, r⟩
  cases a <;> first | exact False.elim t | skip
  rename_i i
  obtain rfl : x = .int i := ha
  cases b <;> first | exact False.elim t | skip
  rename_i j
  obtain rfl : y = .int j := hb
  exact ⟨i, j, rfl, rfl, r.int R t⟩
def dMul : D2
  | .int i, .int j, Q => CMulW i j ∧ Q (.dat (.int (i * j)))
  | .lst a, .int k, Q => k < 2 ^ 62 ∧ -(2 ^ 62) < k ∧ a.length * k.toNat ≤ sizeLine ∧ Q (.new (.lst (List.replicate k.toNat a).flatten))
  | .str a, .int k, Q => False
  | _, _, _ => False
theorem od_mul : OpR X (binaryOp .Mult) (canO X.K dMul) := by
  refine OpR.imp (OpR.or (op_mulW (X := X)) op_rep) ?_
  rintro x y H Qv ⟨W, P, G, σ, a, b, Q, R, ha, hb, t, r⟩
  cases a <;> first | exact False.elim t | skip
  · rename_i i
    obtain rfl : x = .int i := ha
    cases b <;> first | exact False.elim t | skip
    rename_i j
    obtain rfl : y = .int j := hb
    exact .inl ⟨i, j, rfl, rfl, t.1, r.int R t.2⟩
  · cases b <;> exact False.elim t
  · rename_i i
    obtain ⟨p, xs, rfl, s1, r1⟩ := ha
    cases b <;> first | exact False.elim t | skip
    rename_i j
    obtain rfl : y = .int j := hb
    obtain ⟨h1, h2, h3, t⟩ := t
    exact .inr ⟨p, j, xs, rfl, rfl, s1, by omega, by omega, by rw [r1.length]; exact h3, fun z hz => r.new R hz (d := .lst _) (o := .lst _) (RpL.rep _ r1) t⟩

def dFdv : D2
  | .int i, .int j, Q => j ≠ 0 ∧ j.natAbs.log2 < 9000 ∧ Q (.dat (.int (i.fdiv j)))
  | _, _, _ => False
theorem od_fdv : OpR X (binaryOp .FloorDiv) (canO X.K dFdv) := by
  refine OpR.imp (opI (C := fun _ j => j ≠ 0 ∧ j.natAbs.log2 < 9000) (g := fun i j => i.fdiv j) fun i j t u s Q E hc q => floordiv_int hc.1 q (.inl (PyProof.noPylong_of_log2 hc.2))) ?_
  rintro x y H Qv ⟨W, P, G, σ, a, b, Q, R, ha, hb, t, r⟩
  cases a <;> first | exact False.elim t | skip
  rename_i i
  obtain rfl : x = .int i := ha
  cases b <;> first | exact False.elim t | skip
  rename_i j
  obtain rfl : y = .int j := hb
  exact ⟨i, j, rfl, rfl, ⟨t.1, t.2.1⟩, r.int R t.2.2⟩
def dMod : D2
  | .int i, .int j, Q => j ≠ 0 ∧ Q (.dat (.int (i.fmod j)))
  | _, _, _ => False
theorem od_mod : OpR X (binaryOp .Mod) (canO X.K dMod) := by
  refine OpR.imp (op_modN (X := X)) ?_
  rintro x y H Qv ⟨W, P, G, σ, a, b, Q, R, ha, hb, t, r⟩
  cases a <;> first | exact False.elim t | skip
  rename_i i
  obtain rfl : x = .int i := ha
  cases b <;> first | exact False.elim t | skip
  rename_i j
  obtain rfl : y = .int j := hb
  exact ⟨i, j, rfl, rfl, t.1, r.int R t.2⟩
def dPow : D2
  | .int i, .int j, Q => 0 ≤ j ∧ (Builtin.Int.intBits i : Int) * j ≤ 2 ^ 27 ∧ Q (.dat (.int (i ^ j.toNat)))
  | _, _, _ => False
theorem od_pow : OpR X (binaryOp .Pow) (canO X.K dPow) := by
  refine OpR.imp (opI (C := fun i j => 0 ≤ j ∧ (Builtin.Int.intBits i : Int) * j ≤ 2 ^ 27) (g := fun i j => i ^ j.toNat) fun i j t u s Q E hc q => pow_int hc.1 hc.2 q) ?_
  rintro x y H Qv ⟨W, P, G, σ, a, b, Q, R, ha, hb, t, r⟩
  cases a <;> first | exact False.elim t | skip
  rename_i i
  obtain rfl : x = .int i := ha
  cases b <;> first | exact False.elim t | skip
  rename_i j
  obtain rfl : y = .int j := hb
  exact ⟨i, j, rfl, rfl, ⟨t.1, t.2.1⟩, r.int R t.2.2⟩
def dNeg : D1
  | .int i, Q => Q (.dat (.int (-i)))
  | _, _ => False
theorem ud_neg : UnR X (unaryOp .USub) (canU X.K dNeg) := by
  refine UnR.imp (un_neg (X := X)) ?_
  rintro x H Qv ⟨W, P, G, σ, a, Q, R, ha, t, r⟩
  cases a <;> first | exact False.elim t | skip
  rename_i i
  obtain rfl : x = .int i := ha
  exact ⟨i, rfl, r.int R t⟩

/-! comparisons -/
def dCmp (p : Int → Int → Bool) : D2
  | .int i, .int j, Q => Q (.dat (.bl (p i j)))
  | _, _, _ => False
theorem od_cmp {f : Value → Value → Sem Value} {p : Int → Int → Bool} (h : OpR X f (rI0 fun i j => .bl (p i j))) : OpR X f (canO X.K (dCmp p)) := by
  refine OpR.imp h ?_
  rintro x y H Qv ⟨W, P, G, σ, a, b, Q, R, ha, hb, t, r⟩
  cases a <;> first | exact False.elim t | skip
  rename_i i
  obtain rfl : x = .int i := ha
  cases b <;> first | exact False.elim t | skip
  rename_i j
  obtain rfl : y = .int j := hb
  exact ⟨i, j, rfl, rfl, r.bl R t⟩
abbrev dLt := dCmp fun i j => decide (i < j)
abbrev dLe := dCmp fun i j => decide (i ≤ j)
abbrev dGt := dCmp fun i j => decide (j < i)
abbrev dGe := dCmp fun i j => decide (j ≤ i)
theorem od_lt : OpR X (compareOp .Lt) (canO X.K dLt) := od_cmp op_lt
theorem od_le : OpR X (compareOp .LtE) (canO X.K dLe) := od_cmp op_le
theorem od_gt : OpR X (compareOp .Gt) (canO X.K dGt) := od_cmp op_gt
theorem od_ge : OpR X (compareOp .GtE) (canO X.K dGe) := od_cmp op_ge
def eqD (a b : D) : Bool := PyData.eqv (toPy a) (toPy b)
/-- two texts -/
def strsD (a b : D) : Option (Str × Str) := match a with
  | .str x => match b with
    | .str y => some (x, y)
    | _ => none
  | _ => none
theorem strsD_of {a b : D} {p : Str × Str} (h : strsD a b = some p) : a = .str p.1 ∧ b = .str p.2 := by
  unfold strsD at h
  split at h
  · split at h
    · cases h; exact ⟨rfl, rfl⟩
    · cases h
  · cases h
def eqQ (a b : D) (k : Bool → Prop) : Prop := match strsD a b with
  | some p => k (decide (p.1 = p.2))
  | none => Pl 20 a ∧ Pl 20 b ∧ k (eqD a b)
def dEq : D2 := fun a b Q => eqQ a b fun c => Q (.dat (.bl c))
def dNe : D2 := fun a b Q => eqQ a b fun c => Q (.dat (.bl (!c)))
theorem dec_vstr {x y : Str} : decide (V.str x = V.str y) = decide (x = y) := by
  by_cases h : x = y
  · subst h; simp
  · rw [decide_eq_false h, decide_eq_false fun z => h (V.str.inj z)]
theorem od_eq (hu : X.A.units + 64 < cLine) : OpR X (compareOp .Eq) (canO X.K dEq) := by
  refine OpR.imp (OpR.or (op_eqD hu) (op_eq (X := X))) ?_
  rintro x y H Qv ⟨W, P, G, σ, a, b, Q, R, ha, hb, t, r⟩
  have t : eqQ a b fun c => Q (.dat (.bl c)) := t
  unfold eqQ at t
  split at t
  · rename_i p e
    obtain ⟨rfl, rfl⟩ := strsD_of e
    obtain rfl : x = .str p.1 := ha
    obtain rfl : y = .str p.2 := hb
    exact .inr ⟨rfl, by rw [dec_vstr]; exact r.bl R t⟩
  · obtain ⟨pa, pb, t⟩ := t
    exact .inl ⟨_, _, pa.dp (W := W) (R.rnow ha), pb.dp (W := W) (R.rnow hb), pa.shaped (by decide), pb.shaped (by decide), r.bl R t⟩
theorem od_ne (hu : X.A.units + 64 < cLine) : OpR X (compareOp .NotEq) (canO X.K dNe) := by
  refine OpR.imp (OpR.or (op_neD hu) (op_ne (X := X))) ?_
  rintro x y H Qv ⟨W, P, G, σ, a, b, Q, R, ha, hb, t, r⟩
  have t : eqQ a b fun c => Q (.dat (.bl (!c))) := t
  unfold eqQ at t
  split at t
  · rename_i p e
    obtain ⟨rfl, rfl⟩ := strsD_of e
    obtain rfl : x = .str p.1 := ha
    obtain rfl : y = .str p.2 := hb
    exact .inr ⟨rfl, by rw [dec_vstr]; exact r.bl R t⟩
  · obtain ⟨pa, pb, t⟩ := t
    exact .inl ⟨_, _, pa.dp (W := W) (R.rnow ha), pb.dp (W := W) (R.rnow hb), pa.shaped (by decide), pb.shaped (by decide), r.bl R t⟩
def isNon : D → Bool
  | .non => true
  | _ => false
theorem isNon_iff {d : D} {v : V} (h : RN K W H d v) : decide (v = .non) = isNon d := by
  cases d with
  | non => obtain rfl : v = .non := h; rfl
  | bl b => obtain rfl : v = .bl b := h; rfl
  | int b => obtain rfl : v = .int b := h; rfl
  | str b => obtain rfl : v = .str b := h; rfl
  | ty b => obtain rfl : v = .ty b := h; rfl
  | ref b => obtain rfl : v = .ref b := h; rfl
  | src => obtain ⟨a, rfl, _⟩ := h; rfl
  | scr _ => obtain ⟨a, rfl, _⟩ := h; rfl
  | tup _ => obtain ⟨a, _, rfl, _⟩ := h; rfl
  | lst _ => obtain ⟨a, _, rfl, _⟩ := h; rfl
  | dT _ => obtain ⟨a, _, rfl, _⟩ := h; rfl
  | dK _ => obtain ⟨a, _, rfl, _⟩ := h; rfl
  | ins _ _ _ => obtain ⟨rfl, _⟩ := h; rfl
  | exc _ _ _ _ => obtain ⟨rfl, _⟩ := h; rfl
def dIs : D2 := fun a b Q => match b with
  | .non => Q (.dat (.bl (isNon a)))
  | .bl y => match a with
    | .bl x => Q (.dat (.bl (decide (x = y))))
    | _ => False
  | _ => False
def dIsn : D2 := fun a b Q => match b with
  | .non => Q (.dat (.bl (!isNon a)))
  | .bl y => match a with
    | .bl x => Q (.dat (.bl (!decide (x = y))))
    | _ => False
  | _ => False
theorem od_is : OpR X (compareOp .Is) (canO X.K dIs) := by
  refine OpR.imp (OpR.or (op_isN (X := X)) (op_isBl (X := X))) ?_
  rintro x y H Qv ⟨W, P, G, σ, a, b, Q, R, ha, hb, t, r⟩
  cases b <;> first | exact False.elim t | skip
  · exact .inl ⟨hb, by rw [isNon_iff ha]; exact r.bl R t⟩
  · cases a <;> first | exact False.elim t | skip
    exact .inr ⟨_, _, ha, hb, r.bl R t⟩
theorem od_isn : OpR X (compareOp .IsNot) (canO X.K dIsn) := by
  refine OpR.imp (OpR.or (op_notN (X := X)) (op_notBl (X := X))) ?_
  rintro x y H Qv ⟨W, P, G, σ, a, b, Q, R, ha, hb, t, r⟩
  cases b <;> first | exact False.elim t | skip
  · exact .inl ⟨hb, by rw [isNon_iff ha]; exact r.bl R t⟩
  · cases a <;> first | exact False.elim t | skip
    exact .inr ⟨_, _, ha, hb, r.bl R t⟩
end

section
variable {X : Cx} {K : PySem.W.Frag} {W : Wd} {P : Hp} {G : Gm} {σ : St} {H : Hp}
def flatD : D → Bool
  | .non => true
  | .bl _ => true
  | .int _ => true
  | .str _ => true
  | _ => false
theorem flat_rp {d : D} {v : V} (f : flatD d = true) (h : Rp K W d v) : flatV v = true := by
  cases d <;> first | exact absurd f Bool.false_ne_true | skip
  · obtain rfl : v = .non := h; rfl
  · rename_i b; obtain rfl : v = .bl b := h; rfl
  · rename_i b; obtain rfl : v = .int b := h; rfl
  · rename_i b; obtain rfl : v = .str b := h; rfl
/-- a flat datum as a value -/
def flV : D → V
  | .bl b => .bl b
  | .int b => .int b
  | .str b => .str b
  | _ => .non
theorem flat_eq {d : D} {v : V} (f : flatD d = true) (h : Rp K W d v) : v = flV d := by
  cases d <;> first | exact absurd f Bool.false_ne_true | exact h
theorem eqV_flat {d e : D} (f : flatD d = true) (g : flatD e = true) : eqV (flV d) (flV e) = eqD d e := by
  cases d <;> first | exact absurd f Bool.false_ne_true | skip
  all_goals
    cases e <;> first | exact absurd g Bool.false_ne_true | skip
  all_goals simp [flV, eqV, eqD, toPy, PyData.eqv]
theorem flats_eq : ∀ {ds : List D} {xs : List V}, (∀ d ∈ ds, flatD d = true) → RpL K W ds xs → xs = ds.map flV
  | [], _, _, h => h
  | d :: ds, _, f, h => by
    obtain ⟨v, r, rfl, h1, h2⟩ := h
    rw [flat_eq (f d List.mem_cons_self) h1, flats_eq (fun x hx => f x (List.mem_cons_of_mem _ hx)) h2]
    rfl
/-! dicts with keys that are tuples -/
def kD : Key → D
  | .inl i => .int i
  | .inr x => .str x
def keyOf : D → Option Key
  | .int i => some (.inl i)
  | .str x => some (.inr x)
  | _ => none
def keysOf : List D → Option (List Key)
  | [] => some []
  | d :: ds => match keyOf d, keysOf ds with
    | some k, some ks => some (k :: ks)
    | _, _ => none
theorem keysOf_eq : ∀ {ds : List D} {ks : List Key} {xs : List V}, keysOf ds = some ks → RpL K W ds xs → xs = ks.map kV
  | [], _, _, e, h => by cases e; exact h
  | d :: ds, ks, _, e, h => by
    obtain ⟨v, r, rfl, h1, h2⟩ := h
    unfold keysOf at e
    split at e
    · rename_i k ks' e1 e2
      cases e
      rw [keysOf_eq e2 h2]
      cases d <;> first | (cases e1; done) | skip
      · obtain rfl : v = .int _ := h1; cases e1; rfl
      · obtain rfl : v = .str _ := h1; cases e1; rfl
    · cases e
def valD {κ : Type} [DecidableEq κ] : List (κ × D) → κ → Option D
  | [], _ => none
  | e :: r, k => if e.1 = k then some e.2 else valD r k
theorem RpT.val (k : List Key) : ∀ {es : List (List Key × D)} {kvs : List (List Key × V)}, RpT K W es kvs →
    (valD es k = none ∧ valV kvs k = none) ∨ ∃ d v, valD es k = some d ∧ valV kvs k = some v ∧ Rp K W d v
  | [], _, h => by obtain rfl : _ = [] := h; exact .inl ⟨rfl, rfl⟩
  | (q, d) :: es, _, h => by
    obtain ⟨v, r, rfl, h1, h2⟩ := h
    by_cases e : q = k
    · exact .inr ⟨d, v, by simp [valD, e], valV_pos e, h1⟩
    · rw [show valD ((q, d) :: es) k = valD es k by simp [valD, e], valV_neg (p := (q, v)) e]
      exact RpT.val k h2
theorem RpK.val (k : Key) : ∀ {es : List (Key × D)} {kvs : List (Key × V)}, RpK K W es kvs →
    (valD es k = none ∧ valV kvs k = none) ∨ ∃ d v, valD es k = some d ∧ valV kvs k = some v ∧ Rp K W d v
  | [], _, h => by obtain rfl : _ = [] := h; exact .inl ⟨rfl, rfl⟩
  | (q, d) :: es, _, h => by
    obtain ⟨v, r, rfl, h1, h2⟩ := h
    by_cases e : q = k
    · exact .inr ⟨d, v, by simp [valD, e], valV_pos e, h1⟩
    · rw [show valD ((q, d) :: es) k = valD es k by simp [valD, e], valV_neg (p := (q, v)) e]
      exact RpK.val k h2
theorem dget_t {a : Addr} {y : V} {es : List (List Key × D)} {kvs : List (List Key × V)} {ds : List D} {ks : List Key} (e : Rd H a (.dT kvs)) (hy : RN K W H (.tup ds) y) (hk : keysOf ds = some ks) : DGet H a y (valV kvs ks) := by
  obtain ⟨b, xs, rfl, e2, r⟩ := hy
  rw [keysOf_eq hk r] at e2
  exact .inr ⟨kvs, ks, b, e, rfl, e2, rfl⟩
theorem dget_k {a : Addr} {y : V} {d : D} {kvs : List (Key × V)} {k : Key} (e : Rd H a (.dK kvs)) (hy : RN K W H d y) (hk : keyOf d = some k) : DGet H a y (valV kvs k) := by
  cases d <;> first | (cases hk; done) | skip
  · obtain rfl : y = .int _ := hy; cases hk; exact .inl ⟨kvs, .inl _, e, rfl, rfl⟩
  · obtain rfl : y = .str _ := hy; cases hk; exact .inl ⟨kvs, .inr _, e, rfl, rfl⟩
/-- what a dict holds at a key -/
def dAt (a b : D) (k : Option D → Prop) : Prop := match b with
  | .dT es => match a with
    | .tup ds => match keysOf ds with | some ks => k (valD es ks) | none => False
    | _ => False
  | .dK es => match keyOf a with | some q => k (valD es q) | none => False
  | _ => False
theorem dAt_get {a b : D} {x y : V} {k : Option D → Prop} (hx : RN K W H a x) (hy : RN K W H b y) (t : dAt a b k) :
    ∃ p o od, y = .ref p ∧ DGet H p x o ∧ k od ∧ ((od = none ∧ o = none) ∨ ∃ d v, od = some d ∧ o = some v ∧ Rp K W d v) := by
  cases b <;> first | exact False.elim t | skip
  · rename_i es
    obtain ⟨p, kvs, rfl, e, r⟩ := hy
    cases a <;> first | exact False.elim t | skip
    rename_i ds
    have t : (match keysOf ds with | some ks => k (valD es ks) | none => False) := t
    split at t
    · rename_i ks hk
      exact ⟨p, _, _, rfl, dget_t (es := es) e hx hk, t, RpT.val ks r⟩
    · exact t.elim
  · rename_i es
    obtain ⟨p, kvs, rfl, e, r⟩ := hy
    have t : (match keyOf a with | some q => k (valD es q) | none => False) := t
    split at t
    · rename_i q hk
      exact ⟨p, _, _, rfl, dget_k e hx hk, t, RpK.val q r⟩
    · exact t.elim
def isD : D → Bool
  | .dT _ => true
  | .dK _ => true
  | _ => false
/-! in -/
def dIn : D2 := fun a b Q => match b with
  | .lst ds => Pl 20 a ∧ Pl 20 b ∧ Q (.dat (.bl (ds.any fun z => eqD z a)))
  | .tup ds => flatD a = true ∧ (∀ d ∈ ds, flatD d = true) ∧ Q (.dat (.bl (ds.any fun z => eqD z a)))
  | .str z => match a with
    | .str y => Q (.dat (.bl (!(Builtin.Str.occurrences z y 0 z.length 1).isEmpty)))
    | _ => False
  | _ => dAt a b fun o => Q (.dat (.bl o.isSome))
def dNotIn : D2 := fun a b Q => match b with
  | .lst ds => Pl 20 a ∧ Pl 20 b ∧ Q (.dat (.bl (!ds.any fun z => eqD z a)))
  | .tup ds => flatD a = true ∧ (∀ d ∈ ds, flatD d = true) ∧ Q (.dat (.bl (!ds.any fun z => eqD z a)))
  | .str z => match a with
    | .str y => Q (.dat (.bl (!(!(Builtin.Str.occurrences z y 0 z.length 1).isEmpty))))
    | _ => False
  | _ => dAt a b fun o => Q (.dat (.bl (!o.isSome)))
def rDIn (neg : Bool) : R2 := fun x y H Q => ∃ a o, y = .ref a ∧ DGet H a x o ∧ Q (.bl (if neg then !o.isSome else o.isSome)) H
theorem op_dIn (hu : X.A.units + 64 < cLine) : OpR X (compareOp .In) (rDIn false) := by
  intro pins s σ H x y v u Q I rx ry ⟨a, o, e, g, q⟩
  subst e
  cases ry
  exact d_in (by omega) I g rx fun s2 I2 => ⟨.bl _, H, I2, rfl, q⟩
theorem op_dNotIn (hu : X.A.units + 64 < cLine) : OpR X (compareOp .NotIn) (rDIn true) := by
  intro pins s σ H x y v u Q I rx ry ⟨a, o, e, g, q⟩
  subst e
  cases ry
  exact d_notIn (by omega) I g rx fun s2 I2 => ⟨.bl _, H, I2, rfl, q⟩
theorem any_py (a : D) : ∀ ds : List D, ((toPys ds).any fun z => PyData.eqv z (toPy a)) = ds.any fun z => eqD z a
  | [] => rfl
  | d :: ds => by rw [toPys, List.any_cons, List.any_cons, any_py a ds]; rfl
theorem in_flat {a : D} {ds : List D} (f : flatD a = true) (g : ∀ d ∈ ds, flatD d = true) : inV (flV a) (ds.map flV) = ds.any fun z => eqD z a := by
  unfold inV
  induction ds with
  | nil => rfl
  | cons d r ih =>
    rw [List.map_cons, List.any_cons, List.any_cons, eqV_flat (g d List.mem_cons_self) f, ih fun x hx => g x (List.mem_cons_of_mem _ hx)]
theorem all_flat {ds : List D} (g : ∀ d ∈ ds, flatD d = true) : (ds.map flV).all flatV = true := by
  rw [List.all_eq_true]
  intro v hv
  obtain ⟨d, hd, rfl⟩ := List.mem_map.mp hv
  have := g d hd
  cases d <;> first | rfl | exact absurd this Bool.false_ne_true
theorem od_in (hu : X.A.units + 65 < cLine) : OpR X (compareOp .In) (canO X.K dIn) := by
  refine OpR.imp (OpR.or (OpR.or (op_inD hu) op_in_seq) (OpR.or op_in_str (op_dIn (by omega)))) ?_
  rintro x y H Qv ⟨W, P, G, σ, a, b, Q, R, ha, hb, t, r⟩
  have dict : dAt a b (fun o => Q (.dat (.bl o.isSome))) → rDIn false x y H Qv := fun t => by
    obtain ⟨p, o, od, rfl, g, q, h⟩ := dAt_get ha hb t
    refine ⟨p, o, rfl, g, ?_⟩
    have e : od.isSome = o.isSome := by rcases h with ⟨h1, h2⟩ | ⟨_, _, h1, h2, _⟩ <;> rw [h1, h2] <;> rfl
    rw [e] at q
    exact r.bl R q
  cases b with
  | lst ds =>
    obtain ⟨pa, pb, t⟩ := t
    exact .inl (.inl ⟨_, _, pa.dp (W := W) (R.rnow ha), pb.dp (W := W) (R.rnow hb), pa.shaped (by decide), pb.shaped (by decide), by rw [any_py]; exact r.bl R t⟩)
  | tup ds =>
    obtain ⟨fa, fs, t⟩ := t
    obtain ⟨p, xs, rfl, s1, r1⟩ := hb
    have e1 := flats_eq fs r1
    have e2 := flat_eq fa (R.rnow ha)
    subst e1 e2
    exact .inl (.inr ⟨p, _, rfl, .inr (.of s1), flat_rp fa (R.rnow ha), all_flat fs, by rw [if_neg Bool.false_ne_true, in_flat fa fs]; exact r.bl R t⟩)
  | str z =>
    cases a <;> first | exact False.elim t | skip
    rename_i yy
    obtain rfl : x = .str yy := ha
    obtain rfl : y = .str z := hb
    exact .inr (.inl ⟨yy, z, rfl, rfl, r.bl R t⟩)
  | _ => first | exact .inr (.inr (dict t)) | exact False.elim t
theorem od_notin (hu : X.A.units + 65 < cLine) : OpR X (compareOp .NotIn) (canO X.K dNotIn) := by
  refine OpR.imp (OpR.or (OpR.or (op_notInD hu) op_notIn_seq) (OpR.or op_notin_str (op_dNotIn (by omega)))) ?_
  rintro x y H Qv ⟨W, P, G, σ, a, b, Q, R, ha, hb, t, r⟩
  have dict : dAt a b (fun o => Q (.dat (.bl (!o.isSome)))) → rDIn true x y H Qv := fun t => by
    obtain ⟨p, o, od, rfl, g, q, h⟩ := dAt_get ha hb t
    refine ⟨p, o, rfl, g, ?_⟩
    have e : od.isSome = o.isSome := by rcases h with ⟨h1, h2⟩ | ⟨_, _, h1, h2, _⟩ <;> rw [h1, h2] <;> rfl
    rw [e] at q
    exact r.bl R q
  cases b with
  | lst ds =>
    obtain ⟨pa, pb, t⟩ := t
    exact .inl (.inl ⟨_, _, pa.dp (W := W) (R.rnow ha), pb.dp (W := W) (R.rnow hb), pa.shaped (by decide), pb.shaped (by decide), by rw [any_py]; exact r.bl R t⟩)
  | tup ds =>
    obtain ⟨fa, fs, t⟩ := t
    obtain ⟨p, xs, rfl, s1, r1⟩ := hb
    have e1 := flats_eq fs r1
    have e2 := flat_eq fa (R.rnow ha)
    subst e1 e2
    exact .inl (.inr ⟨p, _, rfl, .inr (.of s1), flat_rp fa (R.rnow ha), all_flat fs, by rw [if_pos rfl, in_flat fa fs]; exact r.bl R t⟩)
  | str z =>
    cases a <;> first | exact False.elim t | skip
    rename_i yy
    obtain rfl : x = .str yy := ha
    obtain rfl : y = .str z := hb
    exact .inr (.inl ⟨yy, z, rfl, rfl, r.bl R t⟩)
  | _ => first | exact .inr (.inr (dict t)) | exact False.elim t
end

/-! ### expressions -/
abbrev DT := Gm → (Bool → Gm → Prop) → Prop
abbrev DA := Gm → (List D → Gm → Prop) → Prop
def canT (K : PySem.W.Frag) (t : DT) : TT := fun σ H Qv => ∃ W P G Q, Rl K W P G σ H ∧ t G Q ∧
  ∀ W' b G' H', W.le W' → Rl K W' P G' σ H' → Q b G' → Qv b H'
def canA (K : PySem.W.Frag) (t : DA) : TA := fun σ H Qv => ∃ W P G Q, Rl K W P G σ H ∧ t G Q ∧
  ∀ W' ds G' vs H', W.le W' → Rl K W' P G' σ H' → RpL K W' ds vs → Q ds G' → Qv vs H'
section
variable {X : Cx} {K : PySem.W.Frag} {W : Wd} {P : Hp} {G : Gm} {σ : St} {H : Hp}
def dVar (i : Nat) : DE := fun G Q => match gg G i with
  | some (.dat d) => Q (.dat d) G
  | some (.own _) => Q (.bor i) G
  | none => False
def dC (d : D) : DE := fun G Q => Q (.dat d) G
variable {pos : Pos} {a b c e : Expr} {es : List Expr}
theorem de_var (i : Nat) {x : Str} (hN : X.N[i]? = some x := by rfl) (hv : Vis X.env.scope x := by first | exact Or.inl rfl | exact Or.inr (Or.inl rfl) | exact Or.inr (Or.inr rfl)) (hd : (x == ("__debug__" : Str)) = false := by decide)
    (hcd : (x == ("__classdict__" : Str)) = false := by decide) : PE X (.Name x pos) (can X.K (dVar i)) := by
  refine PE.imp (pe_var hN hv hd hcd) ?_
  rintro σ H Qv ⟨W, P, G, Q, R, t, k⟩
  have t : (match gg G i with | some (.dat d) => Q (.dat d) G | some (.own _) => Q (.bor i) G | none => False) := t
  cases e : gg G i with
  | none => rw [e] at t; exact t.elim
  | some s =>
    rw [e] at t
    cases s with
    | dat d =>
      obtain ⟨v, h1, h2⟩ := R.dat i d e
      exact ⟨v, h1, k W (.dat d) G v H (.refl W) R h2 t⟩
    | own d =>
      obtain ⟨p, o, h1, h2, h3⟩ := R.own i d e
      exact ⟨_, h1, k W (.bor i) G _ H (.refl W) R ⟨h1, d, e⟩ t⟩
theorem can_c {d : D} {v : V} (h : ∀ K W, Rp K W d v) : ∀ σ H Q, can X.K (dC d) σ H Q → tC v σ H Q := by
  rintro σ H Qv ⟨W, P, G, Q, R, t, k⟩
  exact k W (.dat d) G v H (.refl W) R (h _ _) t
theorem de_int {i j} : PE X (.Constant (.int i) j pos) (can X.K (dC (.int i))) := PE.imp pe_int (can_c fun _ _ => rfl)
theorem de_bl {i j} : PE X (.Constant (.bool i) j pos) (can X.K (dC (.bl i))) := PE.imp pe_bl (can_c fun _ _ => rfl)
theorem de_non {j} : PE X (.Constant .none j pos) (can X.K (dC .non)) := PE.imp pe_non (can_c fun _ _ => rfl)
theorem de_str {i j} : PE X (.Constant (.str i) j pos) (can X.K (dC (.str i))) := PE.imp pe_str (can_c fun _ _ => rfl)
/-- a constant of the module, a class, a function; a built-in class -/
theorem de_glob {x : Str} {d : D} {v : V} {u : Value} (hm : X.mg x = some u) (r : RelV v u) (h : ∀ K W, Rp K W d v) (hg : Gl X x := by rfl) (hd : (x == ("__debug__" : Str)) = false := by decide) : PE X (.Name x pos) (can X.K (dC d)) :=
  PE.imp (pe_glob hg hm r hd) (can_c h)
theorem de_ty {x : Str} {T : String} (hm : X.mg x = none) (hv : bootBuiltins x = some (.type T)) (hg : Gl X x := by rfl) (hn : x ≠ "__name__" := by decide) (hd : (x == ("__debug__" : Str)) = false := by decide) : PE X (.Name x pos) (can X.K (dC (.ty T))) :=
  PE.imp (pe_bltn (v := .ty T) hg hm hv rfl hn hd) (can_c fun _ _ => rfl)

/-- one after the other -/
theorem can_bin {ta tb : DE} {R2 : V → V → Hp → Prop} {Q2 : SV → SV → Gm → Prop} (R : Rl K W P G σ H) (t : ta G fun sa G1 => tb G1 fun sb G2 => Q2 sa sb G2)
    (k : ∀ W' G2 sa sb x y H2, W.le W' → Rl K W' P G2 σ H2 → RS K W' σ sa x → RS K W' σ sb y → Q2 sa sb G2 → R2 x y H2) : can K ta σ H fun x H1 => can K tb σ H1 fun y H2 => R2 x y H2 := by
  refine ⟨W, P, G, _, R, t, fun W1 sa G1 x H1 l1 R1 r1 q1 => ?_⟩
  obtain ⟨W2, l2, R2', s1⟩ := R1.settle r1
  refine ⟨W2, P, G1, _, R2', q1, fun W3 sb G2 y H2 l3 R3 r3 q3 => ?_⟩
  obtain ⟨W4, l4, R4, s2⟩ := R3.settle r3
  exact k W4 G2 sa sb x y H2 (((l1.trans l2).trans l3).trans l4) R4 (s1.mono (l3.trans l4)) s2 q3
theorem can_one {ta : DE} {R1 : V → Hp → Prop} {Q1 : SV → Gm → Prop} (R : Rl K W P G σ H) (t : ta G Q1)
    (k : ∀ W' G1 sa x H1, W.le W' → Rl K W' P G1 σ H1 → RS K W' σ sa x → Q1 sa G1 → R1 x H1) : can K ta σ H R1 := by
  refine ⟨W, P, G, _, R, t, fun W1 sa G1 x H1 l1 R1 r1 q1 => ?_⟩
  obtain ⟨W2, l2, R2', s1⟩ := R1.settle r1
  exact k W2 G1 sa x H1 (l1.trans l2) R2' s1 q1
/-- a value is asked and looked at -/
def dBin (dr : D2) (ta tb : DE) : DE := fun G Q => ta G fun sa G1 => tb G1 fun sb G2 => see G2 sa fun x => see G2 sb fun y => dr x y fun r => Q r G2
def dUn (dr : D1) (ta : DE) : DE := fun G Q => ta G fun sa G1 => see G1 sa fun x => dr x fun r => Q r G1
theorem bin_op {dr : D2} {ta tb : DE} {Qv : VK} (h : can K (dBin dr ta tb) σ H Qv) : tOp (canO K dr) (can K ta) (can K tb) σ H Qv := by
  obtain ⟨W, P, G, Q, R, t, k⟩ := h
  refine can_bin R t fun W' G2 sa sb x y H2 l R2 s1 s2 q => ?_
  obtain ⟨d1, n1, q⟩ := R2.see s1 q
  obtain ⟨d2, n2, q⟩ := R2.see s2 q
  exact ⟨W', P, G2, σ, d1, d2, fun r => Q r G2, R2, n1, n2, q, fun W3 sv v H3 l3 R3 r3 q3 => k W3 sv G2 v H3 (l.trans l3) R3 r3 q3⟩
theorem un_op {dr : D1} {ta : DE} {Qv : VK} (h : can K (dUn dr ta) σ H Qv) : tUn (canU K dr) (can K ta) σ H Qv := by
  obtain ⟨W, P, G, Q, R, t, k⟩ := h
  refine can_one R t fun W' G1 sa x H1 l R1 s1 q => ?_
  obtain ⟨d1, n1, q⟩ := R1.see s1 q
  exact ⟨W', P, G1, σ, d1, fun r => Q r G1, R1, n1, q, fun W3 sv v H3 l3 R3 r3 q3 => k W3 sv G1 v H3 (l.trans l3) R3 r3 q3⟩
theorem de_bin {op : Operator} {dr : D2} {ta tb : DE} (ho : OpR X (binaryOp op) (canO X.K dr)) (ha : PE X a (can X.K ta)) (hb : PE X b (can X.K tb)) : PE X (.BinOp a op b pos) (can X.K (dBin dr ta tb)) :=
  PE.imp (pe_op ho ha hb) fun _ _ _ => bin_op
theorem de_un {op : UnaryOp} {dr : D1} {ta : DE} (ho : UnR X (unaryOp op) (canU X.K dr)) (ha : PE X a (can X.K ta)) : PE X (.UnaryOp op a pos) (can X.K (dUn dr ta)) :=
  PE.imp (pe_un ho ha) fun _ _ _ => un_op
theorem de_cmp {op : CmpOp} {dr : D2} {ta tb : DE} (ho : OpR X (compareOp op) (canO X.K dr)) (ha : PE X a (can X.K ta)) (hb : PE X b (can X.K tb)) (hm : behindInMarks op b = false := by first | exact nomark _ | rfl) : PE X (.Compare a [op] [b] pos) (can X.K (dBin dr ta tb)) :=
  PE.imp (pe_cmpR ho ha hb hm) fun _ _ _ => bin_op
/-- a bool is wanted -/
def isB (sv : SV) (k : Bool → Prop) : Prop := match sv with
  | .dat (.bl b) => k b
  | _ => False
theorem isB_of {sv : SV} {v : V} {k : Bool → Prop} (h : RV K W P G σ H sv v) (t : isB sv k) : ∃ b, v = .bl b ∧ k b := by
  cases sv <;> first | exact False.elim t | skip
  rename_i d
  cases d <;> first | exact False.elim t | skip
  exact ⟨_, h, t⟩
/-- a value as a test -/
def dTst (ta : DE) : DT := fun G Q => ta G fun sa G1 => isB sa fun b => Q b G1
theorem tst_tB {ta : DE} {Qv} (h : canT K (dTst ta) σ H Qv) : tB (can K ta) σ H Qv := by
  obtain ⟨W, P, G, Q, R, t, k⟩ := h
  refine ⟨W, P, G, _, R, t, fun W1 sa G1 x H1 l1 R1 r1 q1 => ?_⟩
  obtain ⟨b, rfl, q⟩ := isB_of r1 q1
  exact ⟨b, rfl, k W1 b G1 H1 l1 R1 q⟩
theorem dt_val {ta : DE} (h : PE X e (can X.K ta)) (he : ∀ whole, isTrue e X.env whole = (do let v ← whole; standAt e.pos; holding [v] (truthy v)) := by intro _; rfl) : PT X e (canT X.K (dTst ta)) :=
  PT.imp (pt_val h he) fun _ _ _ => tst_tB
theorem dt_cmp {op : CmpOp} {dr : D2} {ta tb : DE} (ho : OpR X (compareOp op) (canO X.K dr)) (ha : PE X a (can X.K ta)) (hb : PE X b (can X.K tb)) (hm : behindInMarks op b = false := by first | exact nomark _ | rfl) : PT X (.Compare a [op] [b] pos) (canT X.K (dTst (dBin dr ta tb))) := by
  exact PT.imp (pt_cmpR ho ha hb hm) fun σ H Qv h => bin_op (tst_tB h)
def dNotT (t : DT) : DT := fun G Q => t G fun b G1 => Q (!b) G1
theorem dt_not {t : DT} (h : PT X a (canT X.K t)) : PT X (.UnaryOp .Not a pos) (canT X.K (dNotT t)) := by
  refine PT.imp (pt_not h) ?_
  rintro σ H Qv ⟨W, P, G, Q, R, t, k⟩
  exact ⟨W, P, G, _, R, t, fun W1 b G1 H1 l R1 q => k W1 (!b) G1 H1 l R1 q⟩
def dAndT (t u : DT) : DT := fun G Q => t G fun b G1 => if b = true then u G1 Q else Q false G1
def dOrT (t u : DT) : DT := fun G Q => t G fun b G1 => if b = true then Q true G1 else u G1 Q
theorem PW.imp {t u : TT} (h : PW X e t) (i : ∀ σ H Q, u σ H Q → t σ H Q) : PW X e u := ⟨fun wh pins s σ H Q I q => h.run wh pins s σ H Q I (i σ H Q q)⟩
theorem dw_and1 {t : DT} (h : PT X a (canT X.K t)) : PW X (.BoolOp .And [a] pos) (canT X.K t) := pw_and1 h
theorem dw_or1 {t : DT} (h : PT X a (canT X.K t)) : PW X (.BoolOp .Or [a] pos) (canT X.K t) := pw_or1 h
theorem dw_and {t u : DT} (h : PT X a (canT X.K t)) (h2 : PW X (.BoolOp .And (b :: es) pos) (canT X.K u)) : PW X (.BoolOp .And (a :: b :: es) pos) (canT X.K (dAndT t u)) := by
  refine PW.imp (pw_and h h2) ?_
  rintro σ H Qv ⟨W, P, G, Q, R, t, k⟩
  refine ⟨W, P, G, _, R, t, fun W1 c G1 H1 l R1 q => ?_⟩
  cases c with
  | true =>
    rw [if_pos rfl] at q ⊢
    exact ⟨W1, P, G1, Q, R1, q, fun W2 d G2 H2 l2 R2 q2 => k W2 d G2 H2 (l.trans l2) R2 q2⟩
  | false =>
    rw [if_neg Bool.false_ne_true] at q ⊢
    exact k W1 false G1 H1 l R1 q
theorem dw_or {t u : DT} (h : PT X a (canT X.K t)) (h2 : PW X (.BoolOp .Or (b :: es) pos) (canT X.K u)) : PW X (.BoolOp .Or (a :: b :: es) pos) (canT X.K (dOrT t u)) := by
  refine PW.imp (pw_or h h2) ?_
  rintro σ H Qv ⟨W, P, G, Q, R, t, k⟩
  refine ⟨W, P, G, _, R, t, fun W1 c G1 H1 l R1 q => ?_⟩
  cases c with
  | true =>
    rw [if_pos rfl] at q ⊢
    exact k W1 true G1 H1 l R1 q
  | false =>
    rw [if_neg Bool.false_ne_true] at q ⊢
    exact ⟨W1, P, G1, Q, R1, q, fun W2 d G2 H2 l2 R2 q2 => k W2 d G2 H2 (l.trans l2) R2 q2⟩
/-! as values (bools; the last one any) -/
def dAndV (t u : DE) : DE := fun G Q => t G fun s G1 => isB s fun b => if b = true then u G1 Q else Q (.dat (.bl false)) G1
def dOrV (t u : DE) : DE := fun G Q => t G fun s G1 => isB s fun b => if b = true then Q (.dat (.bl true)) G1 else u G1 Q
def dNotV (t : DE) : DE := fun G Q => t G fun s G1 => isB s fun b => Q (.dat (.bl (!b))) G1
theorem de_one {op} {t : DE} (h : PE X a (can X.K t)) : PE X (.BoolOp op [a] pos) (can X.K t) := pe_one h
theorem de_and {t u : DE} (h : PE X a (can X.K t)) (h2 : PE X (.BoolOp .And (b :: es) pos) (can X.K u)) : PE X (.BoolOp .And (a :: b :: es) pos) (can X.K (dAndV t u)) := by
  refine PE.imp (pe_and h h2) ?_
  rintro σ H Qv ⟨W, P, G, Q, R, t, k⟩
  refine ⟨W, P, G, _, R, t, fun W1 s G1 x H1 l R1 r1 q => ?_⟩
  obtain ⟨c, rfl, q⟩ := isB_of r1 q
  refine ⟨c, rfl, ?_⟩
  cases c with
  | true =>
    rw [if_pos rfl] at q ⊢
    exact ⟨W1, P, G1, Q, R1, q, fun W2 d G2 v H2 l2 R2 q2 => k W2 d G2 v H2 (l.trans l2) R2 q2⟩
  | false =>
    rw [if_neg Bool.false_ne_true] at q ⊢
    exact k W1 (.dat (.bl false)) G1 _ H1 l R1 rfl q
theorem de_or {t u : DE} (h : PE X a (can X.K t)) (h2 : PE X (.BoolOp .Or (b :: es) pos) (can X.K u)) : PE X (.BoolOp .Or (a :: b :: es) pos) (can X.K (dOrV t u)) := by
  refine PE.imp (pe_or h h2) ?_
  rintro σ H Qv ⟨W, P, G, Q, R, t, k⟩
  refine ⟨W, P, G, _, R, t, fun W1 s G1 x H1 l R1 r1 q => ?_⟩
  obtain ⟨c, rfl, q⟩ := isB_of r1 q
  refine ⟨c, rfl, ?_⟩
  cases c with
  | true =>
    rw [if_pos rfl] at q ⊢
    exact k W1 (.dat (.bl true)) G1 _ H1 l R1 rfl q
  | false =>
    rw [if_neg Bool.false_ne_true] at q ⊢
    exact ⟨W1, P, G1, Q, R1, q, fun W2 d G2 v H2 l2 R2 q2 => k W2 d G2 v H2 (l.trans l2) R2 q2⟩
theorem de_not {t : DE} (h : PE X a (can X.K t)) : PE X (.UnaryOp .Not a pos) (can X.K (dNotV t)) := by
  refine PE.imp (pe_not h) ?_
  rintro σ H Qv ⟨W, P, G, Q, R, t, k⟩
  refine ⟨W, P, G, _, R, t, fun W1 s G1 x H1 l R1 r1 q => ?_⟩
  obtain ⟨c, rfl, q⟩ := isB_of r1 q
  exact ⟨c, rfl, k W1 (.dat (.bl !c)) G1 _ H1 l R1 rfl q⟩
def dIf (t : DT) (ta tb : DE) : DE := fun G Q => t G fun b G1 => if b = true then ta G1 Q else tb G1 Q
theorem de_if {t : DT} {ta tb : DE} (h : PT X c (canT X.K t)) (h1 : PE X a (can X.K ta)) (h2 : PE X b (can X.K tb)) : PE X (.IfExp c a b pos) (can X.K (dIf t ta tb)) := by
  refine PE.imp (pe_ifExp h h1 h2) ?_
  rintro σ H Qv ⟨W, P, G, Q, R, t, k⟩
  refine ⟨W, P, G, _, R, t, fun W1 c G1 H1 l R1 q => ?_⟩
  cases c with
  | true =>
    rw [if_pos rfl] at q ⊢
    exact ⟨W1, P, G1, Q, R1, q, fun W2 d G2 v H2 l2 R2 q2 => k W2 d G2 v H2 (l.trans l2) R2 q2⟩
  | false =>
    rw [if_neg Bool.false_ne_true] at q ⊢
    exact ⟨W1, P, G1, Q, R1, q, fun W2 d G2 v H2 l2 R2 q2 => k W2 d G2 v H2 (l.trans l2) R2 q2⟩
/-- a < b < c; b is flat -/
def dChn (dr ds : D2) (ta tb tc : DE) : DE := fun G Q => ta G fun sa G1 => tb G1 fun sb G2 => see G2 sa fun x => see G2 sb fun y => flatD y = true ∧ dr x y fun r => isB r fun c =>
  if c = true then tc G2 fun sc G3 => see G3 sc fun z => ds y z fun r => Q r G3 else Q (.dat (.bl false)) G2
theorem flat_rn {d : D} {v : V} (f : flatD d = true) (h : RN K W H d v) : ∀ W' H', RN K W' H' d v := by
  cases d <;> first | exact absurd f Bool.false_ne_true | exact fun _ _ => h
theorem chn_op {dr ds : D2} {ta tb tc : DE} {Qv : VK} (h : can K (dChn dr ds ta tb tc) σ H Qv) : tChain (canO K dr) (canO K ds) (can K ta) (can K tb) (can K tc) σ H Qv := by
  obtain ⟨W, P, G, Q, R, t, k⟩ := h
  refine can_bin R t fun W' G2 sa sb x y H2 l R2 s1 s2 q => ?_
  obtain ⟨d1, n1, q⟩ := R2.see s1 q
  obtain ⟨d2, n2, q⟩ := R2.see s2 q
  obtain ⟨fl, q⟩ := q
  refine ⟨W', P, G2, σ, d1, d2, _, R2, n1, n2, q, fun W3 sv v H3 l3 R3 r3 q3 => ?_⟩
  obtain ⟨c, rfl, q3⟩ := isB_of r3 q3
  refine ⟨c, rfl, ?_⟩
  cases c with
  | true =>
    rw [if_pos rfl] at q3 ⊢
    refine can_one R3 q3 fun W4 G4 sc z H4 l4 R4 s4 q4 => ?_
    obtain ⟨d4, n4, q4⟩ := R4.see s4 q4
    exact ⟨W4, P, G4, σ, d2, d4, fun r => Q r G4, R4, flat_rn fl n2 _ _, n4, q4, fun W5 sv v H5 l5 R5 r5 q5 => k W5 sv G4 v H5 (((l.trans l3).trans l4).trans l5) R5 r5 q5⟩
  | false =>
    rw [if_neg Bool.false_ne_true] at q3 ⊢
    exact k W3 (.dat (.bl false)) G2 _ H3 (l.trans l3) R3 rfl q3
theorem de_chn {op op' : CmpOp} {dr ds : D2} {ta tb tc : DE} (ho : OpR X (compareOp op) (canO X.K dr)) (ho' : OpR X (compareOp op') (canO X.K ds)) (ha : PE X a (can X.K ta)) (hb : PE X b (can X.K tb)) (hc : PE X c (can X.K tc))
    (hm : lastMarks [op, op'] [b, c] = false := by with_unfolding_all rfl) : PE X (.Compare a [op, op'] [b, c] pos) (can X.K (dChn dr ds ta tb tc)) := PE.imp (pe_chain ho ho' ha hb hc hm) fun _ _ _ => chn_op
theorem dt_chn {op op' : CmpOp} {dr ds : D2} {ta tb tc : DE} (ho : OpR X (compareOp op) (canO X.K dr)) (ho' : OpR X (compareOp op') (canO X.K ds)) (ha : PE X a (can X.K ta)) (hb : PE X b (can X.K tb)) (hc : PE X c (can X.K tc))
    (hm : lastMarks [op, op'] [b, c] = false := by with_unfolding_all rfl) : PT X (.Compare a [op, op'] [b, c] pos) (canT X.K (dTst (dChn dr ds ta tb tc))) := PT.imp (pt_chain ho ho' ha hb hc hm) fun _ _ _ h => chn_op (tst_tB h)
/-! ### argument lists, displays -/
def dNil : DA := fun G Q => Q [] G
def dCons (t : DE) (u : DA) : DA := fun G Q => t G fun s G1 => frz G1 s fun d G2 => u G2 fun ds G3 => Q (d :: ds) G3
theorem da_nil : PA X [] (canA X.K dNil) := by
  refine ⟨fun pos pins s σ H Qv I ⟨W, P, G, Q, R, t, k⟩ => pa_nil.run pos pins s σ H Qv I ?_⟩
  exact k W [] G [] H (.refl W) R rfl t
theorem da_cons {t : DE} {u : DA} (h : PE X e (can X.K t)) (h2 : PA X es (canA X.K u)) (hs : starEach (e :: es) X.env = (false, eval e X.env) :: starEach es X.env := by rfl) : PA X (e :: es) (canA X.K (dCons t u)) := by
  refine ⟨fun pos pins s σ H Qv I ⟨W, P, G, Q, R, t, k⟩ => (pa_cons h h2 hs).run pos pins s σ H Qv I ?_⟩
  refine ⟨W, P, G, _, R, t, fun W1 sv G1 v H1 l1 R1 r1 q1 => ?_⟩
  obtain ⟨W2, d, G2, l2, R2, r2, q2⟩ := R1.frz r1 q1
  exact ⟨W2, P, G2, _, R2, q2, fun W3 ds G3 vs H3 l3 R3 r3 q3 => k W3 (d :: ds) G3 (v :: vs) H3 ((l1.trans l2).trans l3) R3 ⟨v, vs, rfl, Rp.mono l3 _ _ r2, r3⟩ q3⟩
def dTup (u : DA) : DE := fun G Q => u G fun ds G1 => ds.length ≤ sizeLine ∧ Q (.dat (.tup ds)) G1
def dLst (u : DA) : DE := fun G Q => u G fun ds G1 => ds.length ≤ sizeLine ∧ Q (.new (.lst ds)) G1
theorem de_tup {u : DA} {x1} (h : PA X es (canA X.K u)) : PE X (.Tuple es x1 pos) (can X.K (dTup u)) := by
  refine PE.imp (pe_tup h) ?_
  rintro σ H Qv ⟨W, P, G, Q, R, t, k⟩
  refine ⟨W, P, G, _, R, t, fun W1 ds G1 vs H1 l R1 r1 q => ⟨by rw [r1.length]; exact q.1, fun p hp => ?_⟩⟩
  obtain ⟨W2, l2, R2, r2⟩ := R1.allocT hp r1
  exact k W2 (.dat (.tup ds)) G1 _ _ (l.trans l2) R2 r2 q.2
theorem de_lst {u : DA} (h : PA X es (canA X.K u)) : PE X (.List es pos) (can X.K (dLst u)) := by
  refine PE.imp (pe_lst h) ?_
  rintro σ H Qv ⟨W, P, G, Q, R, t, k⟩
  refine ⟨W, P, G, _, R, t, fun W1 ds G1 vs H1 l R1 r1 q => ⟨by rw [r1.length]; exact q.1, fun p hp => ?_⟩⟩
  obtain ⟨R2, r2⟩ := R1.alloc (o := .lst vs) (d := .lst ds) hp r1
  exact k W1 (.new (.lst ds)) G1 _ _ l R2 r2 q.2
/-! ### subscripts, slices -/
def atQ (o : Option D) (Q : SV → Prop) : Prop := match o with
  | some d => Q (.dat d)
  | none => False
def dIx : D2 := fun a b Q => match a with
  | .lst ds => match b with
    | .int i => atQ (atI ds i) Q
    | _ => False
  | .tup ds => match b with
    | .int i => atQ (atI ds i) Q
    | _ => False
  | .scr ns => match b with
    | .int i => atQ ((atI ns i).map D.int) Q
    | _ => False
  | .str z => match b with
    | .int i => z.length ≤ sizeLine ∧ atQ ((atI z.cps.toList i).map fun c => D.str ⟨#[c]⟩) Q
    | _ => False
  | _ => dAt b a fun o => atQ o Q
theorem atD_rp {ds : List D} {xs : List V} {i : Int} {d : D} (r : RpL K W ds xs) (e : atI ds i = some d) : ∃ v, atI xs i = some v ∧ Rp K W d v := by
  unfold atI at e ⊢
  rw [r.length]
  cases q : ixN ds.length i with
  | none => rw [q] at e; cases e
  | some j =>
    rw [q] at e
    obtain ⟨v, h1, h2⟩ := r.get (show ds[j]? = some d from e)
    exact ⟨v, h1, h2⟩
theorem atI_map {α β : Type} (f : α → β) (xs : List α) (i : Int) : atI (xs.map f) i = (atI xs i).map f := by
  unfold atI
  rw [List.length_map]
  cases ixN xs.length i with
  | none => rfl
  | some j => exact List.getElem?_map
theorem atQ_some {o : Option D} {Q : SV → Prop} (h : atQ o Q) : ∃ d, o = some d ∧ Q (.dat d) := by
  cases o with
  | none => exact False.elim h
  | some d => exact ⟨d, rfl, h⟩
theorem IxR.imp {r r' : R2} (h : IxR X r) (i : ∀ x y H Q, r' x y H Q → r x y H Q) : IxR X r' :=
  fun value slice pins s σ H x y v u Q I rx ry q hs => h value slice pins s σ H x y v u Q I rx ry (i x y H Q q) hs
def rIxDc : R2 := fun x y H Q => ∃ a v, x = .ref a ∧ DGet H a y (some v) ∧ Q v H
theorem ix_dc (hu : X.A.units + 64 < cLine) : IxR X rIxDc := by
  intro value slice pins s σ H x y v u Q I rx ry ⟨a, w, e, g, q⟩ hs
  subst e
  cases rx
  exact tail_any (dict_typeIs I g) PySem.F.slot_dict_getitem.lookup (d_getItem (by omega) I g ry fun w' s3 I3 rw' => ⟨w, H, I3, rw', q⟩) hs
theorem xd_ix (hu : X.A.units + 64 < cLine) : IxR X (canO X.K dIx) := by
  refine IxR.imp (IxR.or (IxR.or (IxR.or ix_list ix_tup) ix_str) (ix_dc hu)) ?_
  rintro x y H Qv ⟨W, P, G, σ, a, b, Q, R, ha, hb, t, r⟩
  have dict : dAt b a (fun o => atQ o Q) → rIxDc x y H Qv := fun t => by
    obtain ⟨p, o, od, rfl, g, q, h⟩ := dAt_get hb ha t
    obtain ⟨d, e, q⟩ := atQ_some q
    subst e
    rcases h with ⟨h1, _⟩ | ⟨d', v, h1, h2, h3⟩
    · cases h1
    · cases h1
      subst h2
      exact ⟨p, v, rfl, g, r.dat R h3 q⟩
  cases a with
  | lst ds =>
    obtain ⟨p, xs, rfl, s1, r1⟩ := ha
    cases b <;> first | exact False.elim t | skip
    rename_i i
    obtain rfl : y = .int i := hb
    obtain ⟨d, e, q⟩ := atQ_some t
    obtain ⟨v, e2, h⟩ := atD_rp r1 e
    exact .inl (.inl (.inl ⟨p, xs, i, v, rfl, rfl, .of s1, e2, r.dat R h q⟩))
  | tup ds =>
    obtain ⟨p, xs, rfl, s1, r1⟩ := ha
    cases b <;> first | exact False.elim t | skip
    rename_i i
    obtain rfl : y = .int i := hb
    obtain ⟨d, e, q⟩ := atQ_some t
    obtain ⟨v, e2, h⟩ := atD_rp r1 e
    exact .inl (.inl (.inr ⟨p, xs, i, v, rfl, rfl, .of s1, e2, r.dat R h q⟩))
  | scr ns =>
    obtain ⟨p, rfl, s1⟩ := ha
    cases b <;> first | exact False.elim t | skip
    rename_i i
    obtain rfl : y = .int i := hb
    obtain ⟨d, e, q⟩ := atQ_some t
    obtain ⟨n, e1, rfl⟩ := Option.map_eq_some_iff.mp e
    exact .inl (.inl (.inl ⟨p, _, i, .int n, rfl, rfl, s1, by rw [atI_map, e1]; rfl, r.int R q⟩))
  | str z =>
    obtain rfl : x = .str z := ha
    cases b <;> first | exact False.elim t | skip
    rename_i i
    obtain rfl : y = .int i := hb
    obtain ⟨hz, t⟩ := t
    obtain ⟨d, e, q⟩ := atQ_some t
    obtain ⟨n, e1, rfl⟩ := Option.map_eq_some_iff.mp e
    exact .inl (.inr ⟨z, i, n, rfl, rfl, hz, e1, r.str R q⟩)
  | _ => first | exact .inr (dict t) | exact False.elim t
theorem de_ix {ta tb : DE} (hu : X.A.units + 64 < cLine) (ha : PE X a (can X.K ta)) (hb : PE X b (can X.K tb)) (hs : PlainIx b := by intro _ _; rfl) : PE X (.Subscript a b pos) (can X.K (dBin dIx ta tb)) :=
  PE.imp (pe_ix (xd_ix hu) ha hb hs) fun _ _ _ => bin_op
/-! slices with written or reckoned ends -/
abbrev DO := Gm → (Option Int → Gm → Prop) → Prop
def canP (K : PySem.W.Frag) (t : DO) : TO := fun σ H Qv => ∃ W P G Q, Rl K W P G σ H ∧ t G Q ∧ ∀ W' b G' H', W.le W' → Rl K W' P G' σ H' → Q b G' → Qv b H'
def dNoP : DO := fun G Q => Q none G
def dPart (t : DE) : DO := fun G Q => t G fun s G1 => see G1 s fun d => match d with | .int i => Q (some i) G1 | _ => False
theorem dp_none : PO X none (canP X.K dNoP) := by
  refine ⟨fun pins s σ H Qv I ⟨W, P, G, Q, R, t, k⟩ => po_none.run pins s σ H Qv I ?_⟩
  exact k W none G H (.refl W) R t
theorem dp_some {t : DE} (h : PE X e (can X.K t)) : PO X (some e) (canP X.K (dPart t)) := by
  refine ⟨fun pins s σ H Qv I ⟨W, P, G, Q, R, t, k⟩ => (po_some h).run pins s σ H Qv I ?_⟩
  refine can_one R t fun W1 G1 sa x H1 l R1 s1 q => ?_
  obtain ⟨d, n, q⟩ := R1.see s1 q
  cases d <;> first | exact False.elim q | skip
  rename_i i
  exact ⟨i, n, k W1 (some i) G1 H1 l R1 q⟩
/-- what a slice gives -/
def dSlc (a : D) (lo hi : Option Int) (Q : SV → Prop) : Prop := match a with
  | .lst ds => Q (.new (.lst (cutV' ds lo hi)))
  | .scr ns => Q (.new (.lst (cutV' (ns.map D.int) lo hi)))
  | .str z => z.length ≤ sizeLine ∧ Q (.dat (.str (cutS z lo hi)))
  | .tup ds => ¬ (HT.sIx ds.length 0 lo = 0 ∧ HT.sIx ds.length ds.length hi = ds.length) ∧ Q (.dat (.tup (cutV' ds lo hi)))
  | _ => False
where cutV' (xs : List D) (lo hi : Option Int) : List D := (xs.drop (HT.sIx xs.length 0 lo)).take (HT.sIx xs.length xs.length hi - HT.sIx xs.length 0 lo)
def dSl (ta : DE) (tl th : DO) : DE := fun G Q => ta G fun sa G1 => tl G1 fun lo G2 => th G2 fun hi G3 => see G3 sa fun x => dSlc x lo hi fun r => Q r G3
theorem cutV_rp {ds : List D} {xs : List V} {lo hi : Option Int} (r : RpL K W ds xs) : RpL K W (dSlc.cutV' ds lo hi) (cutV xs lo hi) := by
  unfold dSlc.cutV' cutV
  rw [r.length]
  exact (r.drop _).take _
theorem SlR.imp {r r' : V → Option Int → Option Int → Hp → VK → Prop} (h : L2.SlR X r) (i : ∀ x lo hi H Q, r' x lo hi H Q → r x lo hi H Q) : L2.SlR X r' :=
  fun pins s σ H x v vl vu lo hi sl Q I rx hs pl pu q => h pins s σ H x v vl vu lo hi sl Q I rx hs pl pu (i x lo hi H Q q)
def canS3 (K : PySem.W.Frag) : V → Option Int → Option Int → Hp → VK → Prop := fun x lo hi H Qv => ∃ W P G σ a Q, Rl K W P G σ H ∧ RN K W H a x ∧ dSlc a lo hi Q ∧ Rs K W P G σ Q Qv
theorem sd_sl : L2.SlR X (canS3 X.K) := by
  refine SlR.imp (L2.SlR.or (L2.SlR.or sl_list sl_str) sl_tup) ?_
  rintro x lo hi H Qv ⟨W, P, G, σ, a, Q, R, ha, t, r⟩
  cases a <;> first | exact False.elim t | skip
  · obtain rfl : x = .str _ := ha
    exact .inl (.inr ⟨_, rfl, t.1, r.str R t.2⟩)
  · obtain ⟨p, rfl, s1⟩ := ha
    exact .inl (.inl ⟨p, _, rfl, s1, fun q hq => r.new R hq (o := .lst _) (d := .lst _) (cutV_rp (RpL.ofInts _)) t⟩)
  · obtain ⟨p, xs, rfl, s1, r1⟩ := ha
    exact .inr ⟨p, xs, rfl, .of s1, by rw [r1.length]; exact t.1, fun q hq => r.newT R hq (cutV_rp r1) t.2⟩
  · obtain ⟨p, xs, rfl, s1, r1⟩ := ha
    exact .inl (.inl ⟨p, xs, rfl, .of s1, fun q hq => r.new R hq (o := .lst _) (d := .lst _) (cutV_rp r1) t⟩)
theorem de_sl {lo hi : Option Expr} {ta : DE} {tl th : DO} {p2 : Pos} (he : PE X e (can X.K ta)) (hl : PO X lo (canP X.K tl)) (hh : PO X hi (canP X.K th)) : PE X (.Subscript e (.Slice lo hi none p2) pos) (can X.K (dSl ta tl th)) := by
  refine PE.imp (pe_slice sd_sl he hl hh) ?_
  rintro σ H Qv ⟨W, P, G, Q, R, t, k⟩
  refine can_one R t fun W1 G1 sa x H1 l R1 s1 q => ?_
  refine ⟨W1, P, G1, _, R1, q, fun W2 lo G2 H2 l2 R2 q2 => ⟨W2, P, G2, _, R2, q2, fun W3 hi G3 H3 l3 R3 q3 => ?_⟩⟩
  obtain ⟨d, n, q⟩ := R3.see (s1.mono (l2.trans l3)) q3
  exact ⟨W3, P, G3, σ, d, fun r => Q r G3, R3, n, q, fun W4 sv v H4 l4 R4 r4 q4 => k W4 sv G3 v H4 (((l.trans l2).trans l3).trans l4) R4 r4 q4⟩
end

/-! ### defs -/
/-- a def keeps a promise wherever nothing is being shown -/
structure FnG (P : Program) (w : World) (K : PySem.W.Frag) (mg : Str → Option Value) (base : Heap) (k : Nat) (f : Addr) (fd : FuncData) (ps : List Str) (sp : Sp) : Prop where
  len : ∀ vs H Q E, sp vs H Q E → vs.length = ps.length
  run : ∀ (A : Around) (outer : List Env) (s : Shared) (H : Hp) (args : Args) (us : List Value) (vs : List V) (Q : VK), A.guards = some [] → Room k A → Env0 P w K mg base A outer s H → BindsTo s fd args (ps.zip us) → Vals vs us → sp vs H Q E0 →
    codeAny (model P w) A (.call (.ref f) args) (CR CX0 outer P w H s Q E0) s
theorem FnG.mono {P : Program} {w : World} {K : PySem.W.Frag} {mg : Str → Option Value} {base : Heap} {j k : Nat} {f : Addr} {fd : FuncData} {ps : List Str} {sp : Sp} (F : FnG P w K mg base j f fd ps sp) (h : j ≤ k) : FnG P w K mg base k f fd ps sp :=
  ⟨F.len, fun A outer s H args us vs Q g hr => F.run A outer s H args us vs Q g (hr.mono h)⟩
/-- a def of the text (its positional defaults dvs) and its body -/
theorem fg_of {P : Program} {w : World} {K : PySem.W.Frag} {mg : Str → Option Value} {base : Heap} {k : Nat} {f : Addr} {x qual : Str} {st : Stmt} {dvs : List V} {fd : FuncData} {N ps : List Str} {sp : Sp}
    (F : FunD K x qual (defArgs st) (defBody st) (defScope st) dvs [] f fd) (S : FnScope N ps (defScope st)) (len : ∀ vs H Q E, sp vs H Q E → vs.length = ps.length)
    (body : ∀ (cdv : Value) (A : Around) (outer : List Env) (s : Shared) (H : Hp) (vs : List V) (Q : VK), (A.deeper (envOfC qual (defScope st) s.heap.objs.size f cdv)).guards = some [] → Room k (A.deeper (envOfC qual (defScope st) s.heap.objs.size f cdv)) → sp vs H Q E0 →
      ∃ t, PSs (cxOf CX0 P w K mg base N qual (defScope st) f cdv A outer s H E0).nox (defBody st) t ∧ t { nx := fun _ H' => Q .non H', rt := Q } (start N vs) H) : FnG P w K mg base (k + 1) f fd ps sp := by
  obtain ⟨oc, od, dV, kV, doc, pm, an, cdv, ct, osl, e, lk, hcd, _, _⟩ := F.ex
  subst e
  refine ⟨len, fun A outer s H args us vs Q g hr e0 hb r hsp => ?_⟩
  have KX : K.In s.heap := e0.mod.kin.keeps fun b o q => (e0.bs b o q).1
  have lim : s.heap.NoLimit := e0.mod.nolimit.keeps fun b o q => (e0.bs b o q).1
  have kinds : ∀ y ∈ ps.zip us, (defScope st).names.lookup y.1 = some .local ∨ ((defScope st).names.lookup y.1 = some .cell ∧ ((cellsFrom (s.heap.objs.size + 1) (defScope st).names []).lookup y.1).isSome = true) := by
    rintro ⟨n, v⟩ hy
    exact (S.par n (List.of_mem_zip hy).1).imp id fun q => ⟨q, PySem.W.cellsFrom_some _ _ _ (.inl q)⟩
  refine codeAny_call_function hr.depth (KX _ _ lk) rfl S.co S.gen rfl (PySem.W.codeRec_of KX hcd) (hb _ _ _ _ (wpAny_newFunctionEnv_cells S.kind kinds fun env he s1 x => ?_))
  subst he
  refine ⟨lim.keeps x.toInCall.keep, codeAny_func ?_⟩
  have gd : (A.deeper (envOfC qual (defScope st) s.heap.objs.size f cdv)).guards = some [] := g
  obtain ⟨t, ht, hq⟩ := body cdv A outer s H vs Q gd (hr.deeper _) hsp
  have I : Inv (cxOf CX0 P w K mg base N qual (defScope st) f cdv A outer s H E0) [] (start N vs) H s1 := inv_start S hr.hd e0 (len _ _ _ _ hsp) r x
  refine wpAny_mono (ht.nox.run [] s1 (start N vs) H _ I hq) (fun fl s' hs => ?_) fun _ _ hs => hs
  cases fl with
  | ret u => exact hs.elim fun v ⟨σ', H', J, rv, q⟩ => ⟨v, H', J.os, J.bare, J.base, J.hok, rv, q⟩
  | next => exact hs.elim fun σ' ⟨H', J, q⟩ => ⟨V.non, H', J.os, J.bare, J.base, J.hok, rfl, q⟩
  | brk => exact hs.elim fun _ ⟨_, _, q⟩ => q.elim
  | cont => exact hs.elim fun _ ⟨_, _, q⟩ => q.elim
section
variable {X : Cx} {k n : Nat} {f : Addr} {fd : FuncData} {ps ks : List Str} {sp : Sp} {x : Str} {p pos : Pos} {e : Expr} {es : List Expr} {kws : List Keyword} {t tk : TA} {g : List Value → List Value → List Value} {gV : List V → List V → List V}
/-- a call, however its arguments are bound -/
theorem run_g {pins : List (Addr × Obj)} {σ : St} {H : Hp} {s : Shared} {Q : VK} {us ws : List Value} {vs zs : List V} (F : FnG X.prog X.w X.K X.mg X.base k f fd ps sp) (gd : X.A.guards = some []) (hr : Room k X.A) (hb : KBn X.K fd ps n ks g gV)
    (I : Inv X pins σ H s) (r : Vals vs us) (rz : Vals zs ws) (h1 : vs.length = n) (h2 : zs.length = ks.length) (h : sp (gV vs zs) H Q E0) : wpAny (model X.prog X.w) X.A (call (.ref f) us (ks.zip ws)) (EP X pins σ Q) X.xe s := by
  have bd := hb.to s us ws I.kIn (r.length.symm.trans h1) (rz.length.symm.trans h2)
  refine wpAny_call (codeAny_mono (F.run X.A X.stack s H ⟨us, ks.zip ws⟩ (g us ws) (gV vs zs) Q gd hr I.env0 bd (hb.rel r rz) h) fun r s' hq => ?_)
  cases r with
  | error e => exact False.elim hq
  | ok fl =>
    cases fl with
    | ret u => exact I.after hq
    | _ => exact False.elim hq
/-- the promise, asked with the values as they are bound -/
def tCallG (n m : Nat) (sp : Sp) (gV : List V → List V → List V) (t tk : TA) : TE := fun σ H Q => t σ H fun vs H1 => tk σ H1 fun zs H2 => vs.length = n ∧ zs.length = m ∧ sp (gV vs zs) H2 Q E0
theorem pg_call (F : FnG X.prog X.w X.K X.mg X.base k f fd ps sp) (gd : X.A.guards = some []) (hr : Room k X.A) (hm : X.mg x = some (.ref f)) (hk : PySem.W.keepIn X.K (.ref f) = true) (hb : KBn X.K fd ps n [] g gV)
    (ha : PA X (e :: es) t) (hg : Gl X x := by rfl) (hdb : (x == ("__debug__" : Str)) = false := by decide) (he : starEach (e :: es) X.env = (false, eval e X.env) :: starEach es X.env := by rfl) (hpl : (backTo pos (starEach es X.env)).any (·.1) = false := by rfl) :
    PE X (.Call (.Name x p) (e :: es) [] pos) (tCallG n 0 sp gV t tNil) := by
  refine ⟨fun pins s σ H Q I h => wpAny_Call_Name_kw (ld_glob I hg hm ?_ hdb)⟩
  refine PySem.W.callWith_K (h₀ := X.base) I.ok.mod.kin hk (thn (ha.run pos pins s σ H _ I h) fun us s1 ⟨vs, H1, I1, r, h1, h2, q⟩ => ⟨I1.kIn, ?_⟩) he hpl
  exact run_g (ws := []) F gd hr hb I1 r .nil h1 rfl q
theorem pg_call0 (F : FnG X.prog X.w X.K X.mg X.base k f fd ps sp) (gd : X.A.guards = some []) (hr : Room k X.A) (hm : X.mg x = some (.ref f)) (hk : PySem.W.keepIn X.K (.ref f) = true) (hb : KBn X.K fd ps 0 [] g gV)
    (hg : Gl X x := by rfl) (hdb : (x == ("__debug__" : Str)) = false := by decide) : PE X (.Call (.Name x p) [] [] pos) (tCallG 0 0 sp gV tNil tNil) := by
  refine ⟨fun pins s σ H Q I h => wpAny_Call_Name_kw (ld_glob I hg hm ?_ hdb)⟩
  exact PySem.W.callWith_K0 I.kIn hk (run_g (us := []) (ws := []) F gd hr hb I .nil .nil rfl rfl h.2.2)
theorem pg_callK (F : FnG X.prog X.w X.K X.mg X.base k f fd ps sp) (gd : X.A.guards = some []) (hr : Room k X.A) (hm : X.mg x = some (.ref f)) (hk : PySem.W.keepIn X.K (.ref f) = true) (hb : KBn X.K fd ps n ks g gV)
    (ha : PA X (e :: es) t) (hw : PK X kws tk) (hg : Gl X x := by rfl) (hall : (backToKw pos (keywordEach kws X.env)).all (·.1.isSome) = true := by rfl) (hks : (backToKw pos (keywordEach kws X.env)).filterMap (·.1) = ks := by rfl)
    (hdb : (x == ("__debug__" : Str)) = false := by decide) (he : starEach (e :: es) X.env = (false, eval e X.env) :: starEach es X.env := by rfl)
    (hpl : ((backTo pos (starEach (e :: es) X.env)).any (·.1) || (backToKw pos (keywordEach kws X.env)).any (·.1.isNone)) = false := by rfl) : PE X (.Call (.Name x p) (e :: es) kws pos) (tCallG n ks.length sp gV t tk) := by
  refine ⟨fun pins s σ H Q I h => wpAny_Call_Name_kw (ld_glob I hg hm ?_ hdb)⟩
  refine PySem.W.callWith_KW (h₀ := X.base) I.ok.mod.kin hk hall (thn (ha.run pos pins s σ H _ I h) fun us s1 ⟨vs, H1, I1, r, q⟩ => thn (hw.run pos pins s1 σ H1 _ I1 q) fun ws s2 ⟨zs, H2, I2, rz, h1, h2, q2⟩ => ⟨I2.kIn, ?_⟩) hpl he
  rw [hks]
  exact run_g F gd hr hb I2 r rz h1 h2 q2
theorem pg_callK0 (F : FnG X.prog X.w X.K X.mg X.base k f fd ps sp) (gd : X.A.guards = some []) (hr : Room k X.A) (hm : X.mg x = some (.ref f)) (hk : PySem.W.keepIn X.K (.ref f) = true) (hb : KBn X.K fd ps 0 ks g gV)
    (hw : PK X kws tk) (hg : Gl X x := by rfl) (hall : (backToKw pos (keywordEach kws X.env)).all (·.1.isSome) = true := by rfl) (hks : (backToKw pos (keywordEach kws X.env)).filterMap (·.1) = ks := by rfl)
    (hdb : (x == ("__debug__" : Str)) = false := by decide) (hpl : ((backTo pos (starEach [] X.env)).any (·.1) || (backToKw pos (keywordEach kws X.env)).any (·.1.isNone)) = false := by rfl) : PE X (.Call (.Name x p) [] kws pos) (tCallG 0 ks.length sp gV tNil tk) := by
  refine ⟨fun pins s σ H Q I h => wpAny_Call_Name_kw (ld_glob I hg hm ?_ hdb)⟩
  refine PySem.W.callWith_KW0 (h₀ := X.base) I.ok.mod.kin hk hall (thn (hw.run pos pins s σ H _ I h) fun ws s2 ⟨zs, H2, I2, rz, h1, h2, q2⟩ => ⟨I2.kIn, ?_⟩) hpl
  rw [hks]
  exact run_g (us := []) F gd hr hb I2 .nil rz h1 h2 q2
end

/-! ### promises over data -/
/-- what a def promises of data: the bound arguments, the wanted end -/
abbrev DSp := Nat → List D → (SV → Nat → Prop) → Prop
/-- all that is tracked and neither frozen nor a source is the others' -/
def Full (W : Wd) (P H : Hp) : Prop := ∀ p o, H p = some o → W.F p = none → ¬ W.S p → (∀ xs, o ≠ .tup xs) → P p = some o
def dSp (K : PySem.W.Frag) (S : DSp) : Sp := fun vs H Q _ => ∃ W P n ds Qd, Rl K W P ⟨[], n⟩ [] H ∧ Full W P H ∧ RpL K W ds vs ∧ S n ds Qd ∧
  ∀ W' sv m v H', W.le W' → Rl K W' P ⟨[], m⟩ [] H' → RV K W' P ⟨[], m⟩ [] H' sv v → Qd sv m → Q v H'
/-- a def keeps a promise of data -/
abbrev FnD (P : Program) (w : World) (K : PySem.W.Frag) (mg : Str → Option Value) (base : Heap) (k : Nat) (f : Addr) (fd : FuncData) (ps : List Str) (S : DSp) : Prop := FnG P w K mg base k f fd ps (dSp K S)
section
variable {K : PySem.W.Frag} {W W' : Wd} {P P0 : Hp} {G : Gm} {σ : St} {H H' : Hp}
/-- what stands around a call -/
theorem Rl.enter (R : Rl K W P G σ H) : ∃ P0, Rl K W P0 ⟨[], G.c⟩ [] H ∧ Full W P0 H ∧ ∀ p o, P0 p = some o → H p = some o ∧ W.F p = none ∧ ¬ W.S p := by
  classical
  refine ⟨fun p => if W.F p = none ∧ ¬ W.S p ∧ ∀ xs, H p ≠ some (.tup xs) then H p else none, ⟨rfl, R.le, fun a h => ?_, fun p o e => ?_, fun i d e => ?_, fun i d e => ?_, fun i j d e _ h1 _ => ?_, fun p xs e => ?_⟩, fun p o e f s n => ?_, fun p o e => ?_⟩
  · obtain ⟨h1, _, h3⟩ := R.src a h
    exact ⟨h1, if_neg fun z => z.2.1 h, h3⟩
  · split at e
    · rename_i z; exact ⟨e, z.1⟩
    · cases e
  · cases e
  · cases e
  · cases h1
  · split at e
    · rename_i z; exact z.2.2 xs e
    · cases e
  · show (if W.F p = none ∧ ¬ W.S p ∧ (∀ xs, H p ≠ some (.tup xs)) then H p else none) = some o
    rw [if_pos ⟨f, s, fun xs z => n xs (by rw [e] at z; exact Option.some.inj z)⟩]; exact e
  · have e : (if W.F p = none ∧ ¬ W.S p ∧ (∀ xs, H p ≠ some (.tup xs)) then H p else none) = some o := e
    split at e
    · rename_i z; exact ⟨e, z.1, z.2.1⟩
    · cases e
theorem RO.nt {p : Addr} {o : HO} {d : D} (h : RO K W p o d) : ∀ xs, o ≠ .tup xs := fun xs z => by subst z; cases d <;> exact h
theorem Rl.leave (R : Rl K W P G σ H) (F : Full W P0 H) (hP : ∀ p o, P0 p = some o → H p = some o ∧ W.F p = none ∧ ¬ W.S p) (l : W.le W') {m : Nat} (R' : Rl K W' P0 ⟨[], m⟩ [] H') : Rl K W' P (G.at m) σ H' := by
  have pp : ∀ p o, P p = some o → P0 p = some o := fun p o e => by
    obtain ⟨h1, h2⟩ := R.prot p o e
    exact F p o h1 h2 (fun s => by have := (R.src p s).2.1; rw [e] at this; cases this) fun xs z => R.pnt p xs (by rw [e, z])
  refine ⟨R.len, R'.le, fun a h => ?_, fun p o e => R'.prot p o (pp p o e), fun i d e => ?_, fun i d e => ?_, R.sep, R.pnt⟩
  · obtain ⟨h1, h2, h3⟩ := R'.src a h
    refine ⟨h1, ?_, h3⟩
    cases q : P a with
    | none => rfl
    | some o => rw [pp a o q] at h2; cases h2
  · obtain ⟨v, h1, h2⟩ := R.dat i d e
    exact ⟨v, h1, Rp.mono l _ _ h2⟩
  · obtain ⟨p, o, h1, h2, h3⟩ := R.own i d e
    have q := F p o h2.at_ h2.f h2.s h3.nt
    obtain ⟨a1, a2⟩ := R'.prot p o q
    exact ⟨p, o, h1, ⟨a1, a2, (fun s => by have := (R'.src p s).2.1; rw [q] at this; cases this), h2.n⟩, h3.mono l⟩
theorem Rl.result (R : Rl K W P G σ H) (F : Full W P0 H) {sv : SV} {v : V} {m : Nat} (r : RV K W' P0 ⟨[], m⟩ [] H' sv v) : RV K W' P (G.at m) σ H' sv v := by
  cases sv with
  | dat d => exact r
  | bor i => obtain ⟨h, _⟩ := r; cases h
  | new d =>
    obtain ⟨p, o, rfl, pr, ro, _⟩ := r
    refine ⟨p, o, rfl, ⟨pr.at_, pr.f, pr.s, ?_⟩, ro, fun i e h1 h2 => ?_⟩
    · cases q : P p with
      | none => rfl
      | some u =>
        obtain ⟨h1, h2⟩ := R.prot p u q
        have := F p u h1 h2 (fun s => by have := (R.src p s).2.1; rw [q] at this; cases this) fun xs z => R.pnt p xs (by rw [q, z])
        rw [pr.n] at this; cases this
    · obtain ⟨q, u, h3, h4, h5⟩ := R.own i e h1
      rw [h2] at h3; cases h3
      have := F p u h4.at_ h4.f h4.s h5.nt
      rw [pr.n] at this; cases this
end
/-! ### calls -/
/-- how a call binds, over data -/
structure Bnd (K : PySem.W.Frag) (fd : FuncData) (ps : List Str) (n : Nat) (ks : List Str) (gD : List D → List D → List D) : Prop where
  ex : ∃ g gV, KBn K fd ps n ks g gV ∧ ∀ (K' : PySem.W.Frag) (W : Wd) (ds es : List D) (vs zs : List V), RpL K' W ds vs → RpL K' W es zs → RpL K' W (gD ds es) (gV vs zs)
/-- these places of a list -/
def sel {α : Type} (p : List Nat) (l : List α) : List α := p.filterMap fun i => l[i]?
theorem sel_paired {α β : Type} {R : α → β → Prop} (p : List Nat) {l : List α} {m : List β} (h : Paired R l m) : Paired R (sel p l) (sel p m) := by
  have gt : ∀ (i : Nat), (l[i]? = none ∧ m[i]? = none) ∨ ∃ a b, l[i]? = some a ∧ m[i]? = some b ∧ R a b := by
    intro i
    induction h generalizing i with
    | nil => exact .inl ⟨rfl, rfl⟩
    | cons r t ih => cases i with
      | zero => exact .inr ⟨_, _, rfl, rfl, r⟩
      | succ n => exact ih n
  induction p with
  | nil => exact .nil
  | cons i p ih =>
    unfold sel at ih ⊢
    rcases gt i with ⟨h1, h2⟩ | ⟨a, b, h1, h2, r⟩
    · rw [List.filterMap_cons, List.filterMap_cons, h1, h2]; exact ih
    · rw [List.filterMap_cons, List.filterMap_cons, h1, h2]; exact .cons r ih
theorem paired_of {K : PySem.W.Frag} {W : Wd} : ∀ {ds : List D} {vs : List V}, RpL K W ds vs → Paired (Rp K W) ds vs
  | [], _, h => by obtain rfl : _ = [] := h; exact .nil
  | d :: ds, _, h => by obtain ⟨v, r, rfl, h1, h2⟩ := h; exact .cons h1 (paired_of h2)
theorem of_paired {K : PySem.W.Frag} {W : Wd} : ∀ {ds : List D} {vs : List V}, Paired (Rp K W) ds vs → RpL K W ds vs
  | _, _, .nil => rfl
  | _, _, .cons h t => ⟨_, _, rfl, h, of_paired t⟩
theorem flats_rp {K : PySem.W.Frag} {W : Wd} : ∀ {ds : List D}, (∀ d ∈ ds, flatD d = true) → RpL K W ds (ds.map flV)
  | [], _ => rfl
  | d :: ds, f => ⟨flV d, ds.map flV, rfl, by
      have := f d List.mem_cons_self
      cases d <;> first | rfl | exact absurd this Bool.false_ne_true, flats_rp fun x hx => f x (List.mem_cons_of_mem _ hx)⟩
section
variable {K : PySem.W.Frag} {x qual : Str} {st : Stmt} {dd : List D} {f : Addr} {fd : FuncData} {ps : List Str}
/-- a def of the text; its defaults are flat data -/
abbrev FunT (K : PySem.W.Frag) (x qual : Str) (st : Stmt) (dd : List D) (f : Addr) (fd : FuncData) : Prop := FunD K x qual (defArgs st) (defBody st) (defScope st) (dd.map flV) [] f fd
/-- no defaults -/
theorem bnd_pos (F : FunT K x qual st [] f fd) (n : Nat) (hn : ps.length = n) (h : ∀ (kV doc pm : Value) (an : Option Addr) (cdv ct : Value) (us : List Value), us.length = n → bindArgs (PySem.W.fnOf x qual (defArgs st) (defBody st) (defScope st) .none kV doc pm an cdv ct) ⟨us, []⟩ = pure (ps.zip us)) :
    Bnd K fd ps n [] fun ds _ => ds := by
  refine ⟨fun us _ => us, fun vs _ => vs, ⟨fun s us ws X h1 h2 => ?_, fun r _ => r⟩, fun _ _ _ _ _ _ r _ => r⟩
  obtain rfl : ws = [] := List.length_eq_zero_iff.mp h2
  subst hn
  exact F.bindsA h s us h1
theorem bnd_key (F : FunT K x qual st [] f fd) (n : Nat) (ks : List Str) (p : List Nat) (h : ∀ (kV doc pm : Value) (an : Option Addr) (cdv ct : Value) (us ws : List Value), us.length = n → ws.length = ks.length → bindArgs (PySem.W.fnOf x qual (defArgs st) (defBody st) (defScope st) .none kV doc pm an cdv ct) ⟨us, ks.zip ws⟩ = pure (ps.zip (sel p (us ++ ws)))) :
    Bnd K fd ps n ks fun ds es => sel p (ds ++ es) := by
  refine ⟨fun us ws => sel p (us ++ ws), fun vs zs => sel p (vs ++ zs), ⟨fun s us ws X h1 h2 => ?_, fun r q => sel_paired p (Vals.append r q)⟩, fun _ _ _ _ _ _ r q => of_paired (sel_paired p (paired_of (RpL.append r q)))⟩
  obtain ⟨oc, od, dV, kV, doc, pm, an, cdv, ct, osl, rfl, lk, hcd, hD, hK⟩ := F.ex
  rcases hD with ⟨_, rfl⟩ | ⟨e, _⟩
  · exact .of_eq (h kV doc pm an cdv ct us ws h1 h2)
  · exact absurd rfl e
/-- with defaults -/
theorem bnd_def (F : FunT K x qual st dd f fd) (hd : dd ≠ []) (fl : ∀ d ∈ dd, flatD d = true) (n : Nat) (ks : List Str) (p : List Nat)
    (h : ∀ (T : Addr) (kV doc pm : Value) (an : Option Addr) (cdv ct : Value) (us ws its : List Value), us.length = n → ws.length = ks.length → its.length = dd.length →
      ∃ k, bindArgs (PySem.W.fnOf x qual (defArgs st) (defBody st) (defScope st) (.ref T) kV doc pm an cdv ct) ⟨us, ks.zip ws⟩ = seqItems? (.ref T) >>= k ∧ k (some its.toArray) = pure (ps.zip (sel p (us ++ ws ++ its)))) :
    Bnd K fd ps n ks fun ds es => sel p (ds ++ es ++ dd) := by
  obtain ⟨oc, od, dV, kV, doc, pm, an, cdv, ct, osl, rfl, lk, hcd, hD, hK⟩ := F.ex
  rcases hD with ⟨e, _⟩ | ⟨_, T, o, its, m, rfl, lT, oT, rT⟩
  · exact absurd (List.map_eq_nil_iff.mp e) hd
  · have l1 : its.length = dd.length := by rw [← rT.length, List.length_map]
    refine ⟨fun us ws => sel p (us ++ ws ++ its), fun vs zs => sel p (vs ++ zs ++ dd.map flV), ⟨fun s us ws X h1 h2 => ?_, fun r q => sel_paired p ((Vals.append r q).append rT)⟩, fun _ _ _ _ _ _ r q => of_paired (sel_paired p (paired_of (RpL.append (RpL.append r q) (flats_rp fl))))⟩
    obtain ⟨k, e1, e2⟩ := h T kV doc pm an cdv ct us ws its h1 h2 l1
    refine BindsTo.of_looks fun M => ?_
    rw [e1]
    exact looks_items X lT oT (.of_pure e2)
end
section
variable {X : Cx} {k n : Nat} {f : Addr} {fd : FuncData} {ps ks : List Str} {S : DSp} {x : Str} {p pos : Pos} {e : Expr} {es : List Expr} {kws : List Keyword} {gD : List D → List D → List D}
def dCall (n m : Nat) (S : DSp) (gD : List D → List D → List D) (t tk : DA) : DE := fun G Q => t G fun ds G1 => tk G1 fun es G2 => ds.length = n ∧ es.length = m ∧ S G2.c (gD ds es) fun r j => Q r (G2.at j)
theorem call_dat {K : PySem.W.Frag} {t tk : DA} {gV : List V → List V → List V} {σ : St} {H : Hp} {Qv : VK} (hg : ∀ (W : Wd) (ds es : List D) (vs zs : List V), RpL K W ds vs → RpL K W es zs → RpL K W (gD ds es) (gV vs zs)) (h : can K (dCall n ks.length S gD t tk) σ H Qv) :
    tCallG n ks.length (dSp K S) gV (canA K t) (canA K tk) σ H Qv := by
  obtain ⟨W, P, G, Q, R, t, kk⟩ := h
  refine ⟨W, P, G, _, R, t, fun W1 ds G1 vs H1 l1 R1 r1 q1 => ⟨W1, P, G1, _, R1, q1, fun W2 es G2 zs H2 l2 R2 r2 q2 => ?_⟩⟩
  obtain ⟨h1, h2, q⟩ := q2
  obtain ⟨P0, R0, F, hP⟩ := R2.enter
  refine ⟨by rw [r1.length]; exact h1, by rw [r2.length]; exact h2, W2, P0, _, _, _, R0, F, hg W2 ds es vs zs (RpL.mono l2 _ _ r1) r2, q, fun W3 sv j v H3 l3 R3 r3 q3 => ?_⟩
  exact kk W3 sv (G2.at j) v H3 ((l1.trans l2).trans l3) (R2.leave F hP l3 R3) (R2.result F r3) q3
theorem de_call {t : DA} (F : FnD X.prog X.w X.K X.mg X.base k f fd ps S) (gd : X.A.guards = some []) (hr : Room k X.A) (hm : X.mg x = some (.ref f)) (hk : PySem.W.keepIn X.K (.ref f) = true) (hb : Bnd X.K fd ps n [] gD)
    (ha : PA X (e :: es) (canA X.K t)) (hg : Gl X x := by rfl) (hdb : (x == ("__debug__" : Str)) = false := by decide) (he : starEach (e :: es) X.env = (false, eval e X.env) :: starEach es X.env := by rfl) (hpl : (backTo pos (starEach es X.env)).any (·.1) = false := by rfl) :
    PE X (.Call (.Name x p) (e :: es) [] pos) (can X.K (dCall n 0 S gD t dNil)) := by
  obtain ⟨g, gV, hb, hr2⟩ := hb.ex
  refine PE.imp (pg_call F gd hr hm hk hb ha hg hdb he hpl) fun σ H Q h => ?_
  have h2 : tCallG n 0 (dSp X.K S) gV (canA X.K t) (canA X.K dNil) σ H Q := call_dat (ks := []) (hr2 X.K) h
  obtain ⟨W, P, G, q, R, t, kk⟩ := h2
  refine ⟨W, P, G, q, R, t, fun W1 ds G1 vs H1 l1 R1 r1 q1 => ?_⟩
  obtain ⟨W2, P2, G2, q2, R2, t2, k2⟩ := kk W1 ds G1 vs H1 l1 R1 r1 q1
  exact k2 W2 [] G2 [] H1 (.refl W2) R2 rfl t2
theorem de_call0 (F : FnD X.prog X.w X.K X.mg X.base k f fd ps S) (gd : X.A.guards = some []) (hr : Room k X.A) (hm : X.mg x = some (.ref f)) (hk : PySem.W.keepIn X.K (.ref f) = true) (hb : Bnd X.K fd ps 0 [] gD)
    (hg : Gl X x := by rfl) (hdb : (x == ("__debug__" : Str)) = false := by decide) : PE X (.Call (.Name x p) [] [] pos) (can X.K (dCall 0 0 S gD dNil dNil)) := by
  obtain ⟨g, gV, hb, hr2⟩ := hb.ex
  refine PE.imp (pg_call0 F gd hr hm hk hb hg hdb) fun σ H Q h => ?_
  have h2 : tCallG 0 0 (dSp X.K S) gV (canA X.K dNil) (canA X.K dNil) σ H Q := call_dat (ks := []) (hr2 X.K) h
  obtain ⟨W, P, G, q, R, t, kk⟩ := h2
  obtain ⟨W2, P2, G2, q2, R2, t2, k2⟩ := kk W [] G [] H (.refl W) R rfl t
  exact k2 W2 [] G2 [] H (.refl W2) R2 rfl t2
/-- keywords' values -/
theorem dk_nil : PK X [] (canA X.K dNil) := by
  refine ⟨fun pos pins s σ H Qv I ⟨W, P, G, Q, R, t, k⟩ => pk_nil.run pos pins s σ H Qv I ?_⟩
  exact k W [] G [] H (.refl W) R rfl t
theorem dk_cons {nm : Option Str} {kpos : Pos} {t : DE} {u : DA} (h : PE X e (can X.K t)) (h2 : PK X kws (canA X.K u)) : PK X (⟨nm, e, kpos⟩ :: kws) (canA X.K (dCons t u)) := by
  refine ⟨fun pos pins s σ H Qv I ⟨W, P, G, Q, R, t, k⟩ => (pk_cons h h2).run pos pins s σ H Qv I ?_⟩
  refine ⟨W, P, G, _, R, t, fun W1 sv G1 v H1 l1 R1 r1 q1 => ?_⟩
  obtain ⟨W2, d, G2, l2, R2, r2, q2⟩ := R1.frz r1 q1
  exact ⟨W2, P, G2, _, R2, q2, fun W3 ds G3 vs H3 l3 R3 r3 q3 => k W3 (d :: ds) G3 (v :: vs) H3 ((l1.trans l2).trans l3) R3 ⟨v, vs, rfl, Rp.mono l3 _ _ r2, r3⟩ q3⟩
theorem de_callK {t tk : DA} (F : FnD X.prog X.w X.K X.mg X.base k f fd ps S) (gd : X.A.guards = some []) (hr : Room k X.A) (hm : X.mg x = some (.ref f)) (hk : PySem.W.keepIn X.K (.ref f) = true) (hb : Bnd X.K fd ps n ks gD)
    (ha : PA X (e :: es) (canA X.K t)) (hw : PK X kws (canA X.K tk)) (hg : Gl X x := by rfl) (hall : (backToKw pos (keywordEach kws X.env)).all (·.1.isSome) = true := by rfl) (hks : (backToKw pos (keywordEach kws X.env)).filterMap (·.1) = ks := by rfl)
    (hdb : (x == ("__debug__" : Str)) = false := by decide) (he : starEach (e :: es) X.env = (false, eval e X.env) :: starEach es X.env := by rfl)
    (hpl : ((backTo pos (starEach (e :: es) X.env)).any (·.1) || (backToKw pos (keywordEach kws X.env)).any (·.1.isNone)) = false := by rfl) : PE X (.Call (.Name x p) (e :: es) kws pos) (can X.K (dCall n ks.length S gD t tk)) := by
  obtain ⟨g, gV, hb, hr2⟩ := hb.ex
  exact PE.imp (pg_callK F gd hr hm hk hb ha hw hg hall hks hdb he hpl) fun σ H Q h => call_dat (hr2 X.K) h
theorem de_callK0 {tk : DA} (F : FnD X.prog X.w X.K X.mg X.base k f fd ps S) (gd : X.A.guards = some []) (hr : Room k X.A) (hm : X.mg x = some (.ref f)) (hk : PySem.W.keepIn X.K (.ref f) = true) (hb : Bnd X.K fd ps 0 ks gD)
    (hw : PK X kws (canA X.K tk)) (hg : Gl X x := by rfl) (hall : (backToKw pos (keywordEach kws X.env)).all (·.1.isSome) = true := by rfl) (hks : (backToKw pos (keywordEach kws X.env)).filterMap (·.1) = ks := by rfl)
    (hdb : (x == ("__debug__" : Str)) = false := by decide) (hpl : ((backTo pos (starEach [] X.env)).any (·.1) || (backToKw pos (keywordEach kws X.env)).any (·.1.isNone)) = false := by rfl) :
    PE X (.Call (.Name x p) [] kws pos) (can X.K (dCall 0 ks.length S gD dNil tk)) := by
  obtain ⟨g, gV, hb, hr2⟩ := hb.ex
  refine PE.imp (pg_callK0 F gd hr hm hk hb hw hg hall hks hdb hpl) fun σ H Q h => ?_
  obtain ⟨W, P, G, q, R, t, kk⟩ := call_dat (gV := gV) (hr2 X.K) h
  exact kk W [] G [] H (.refl W) R rfl t
end

/-! ### statements -/
structure DEnds where
  nx : Gm → Prop
  rt : SV → Nat → Prop
  bk : Gm → Prop := fun _ => False
  ct : Gm → Prop := fun _ => False
abbrev DS := DEnds → Gm → Prop
/-- what follows, over data, gives what follows -/
structure EndsOk (K : PySem.W.Frag) (W : Wd) (P : Hp) (E : DEnds) (D : Ends) : Prop where
  nx : ∀ W' G σ H, W.le W' → Rl K W' P G σ H → E.nx G → D.nx σ H
  bk : ∀ W' G σ H, W.le W' → Rl K W' P G σ H → E.bk G → D.bk σ H
  ct : ∀ W' G σ H, W.le W' → Rl K W' P G σ H → E.ct G → D.ct σ H
  rt : ∀ W' sv n v H, W.le W' → Rl K W' P ⟨[], n⟩ [] H → RV K W' P ⟨[], n⟩ [] H sv v → E.rt sv n → D.rt v H
theorem EndsOk.le {K : PySem.W.Frag} {W W' : Wd} {P : Hp} {E : DEnds} {D : Ends} (e : EndsOk K W P E D) (l : W.le W') : EndsOk K W' P E D :=
  ⟨fun W2 G σ H l2 => e.nx W2 G σ H (l.trans l2), fun W2 G σ H l2 => e.bk W2 G σ H (l.trans l2), fun W2 G σ H l2 => e.ct W2 G σ H (l.trans l2), fun W2 sv n v H l2 => e.rt W2 sv n v H (l.trans l2)⟩
def canS (K : PySem.W.Frag) (t : DS) : TS := fun D σ H => ∃ W P G E, Rl K W P G σ H ∧ t E G ∧ EndsOk K W P E D
section
variable {X : Cx} {K : PySem.W.Frag} {W : Wd} {P : Hp} {G : Gm} {σ : St} {H : Hp} {st : Stmt} {rst : List Stmt} {e : Expr} {pos : Pos}
theorem Rl.bare (R : Rl K W P G σ H) : Rl K W P ⟨[], G.c⟩ [] H := ⟨rfl, R.le, R.src, R.prot, fun _ _ e => (by cases e), fun _ _ e => (by cases e), fun _ _ _ _ _ e _ => (by cases e), R.pnt⟩
def dNext : DS := fun E G => E.nx G
def dSeq (t u : DS) : DS := fun E G => t { E with nx := u E } G
theorem ds_nil : PSs X [] (canS X.K dNext) := PSs.imp pss_nil fun D σ H ⟨W, P, G, E, R, t, k⟩ => k.nx W G σ H (.refl W) R t
theorem ds_cons {t u : DS} (h1 : PS X st (canS X.K t)) (h2 : PSs X rst (canS X.K u)) : PSs X (st :: rst) (canS X.K (dSeq t u)) := by
  refine PSs.imp (pss_cons h1 h2) ?_
  rintro D σ H ⟨W, P, G, E, R, t, k⟩
  exact ⟨W, P, G, _, R, t, ⟨fun W1 G1 σ1 H1 l1 R1 q => ⟨W1, P, G1, E, R1, q, k.le l1⟩, k.bk, k.ct, k.rt⟩⟩
theorem ds_one {t : DS} (h1 : PS X st (canS X.K t)) : PSs X [st] (canS X.K t) := pss_one h1
theorem ds_pass : PS X (.Pass pos) (canS X.K dNext) := PS.imp ps_pass fun D σ H ⟨W, P, G, E, R, t, k⟩ => k.nx W G σ H (.refl W) R t
def dBrk : DS := fun E G => E.bk G
def dCnt : DS := fun E G => E.ct G
theorem ds_break : PS X (.Break pos) (canS X.K dBrk) := PS.imp ps_break fun D σ H ⟨W, P, G, E, R, t, k⟩ => k.bk W G σ H (.refl W) R t
theorem ds_continue : PS X (.Continue pos) (canS X.K dCnt) := PS.imp ps_continue fun D σ H ⟨W, P, G, E, R, t, k⟩ => k.ct W G σ H (.refl W) R t
theorem ds_doc {x j pos'} : PS X (.Expr (.Constant (.str x) j pos) pos') (canS X.K dNext) := PS.imp ps_doc fun D σ H ⟨W, P, G, E, R, t, k⟩ => k.nx W G σ H (.refl W) R t
def dDrop (t : DE) : DS := fun E G => t G fun _ G1 => E.nx G1
theorem ds_expr {t : DE} (he : PE X e (can X.K t)) (hs : swapsWith e none pos.line X.env = pure false := by rfl) : PS X (.Expr e pos) (canS X.K (dDrop t)) := by
  refine PS.imp (ps_expr he hs) ?_
  rintro D σ H ⟨W, P, G, E, R, t, k⟩
  exact ⟨W, P, G, _, R, t, fun W1 sv G1 v H1 l1 R1 r1 q => k.nx W1 G1 σ H1 l1 R1 q⟩
/-- what is handed back: an own object is handed on -/
def rtS (G : Gm) (sv : SV) (k : SV → Prop) : Prop := match sv with
  | .bor i => match gg G i with | some (.own d) => k (.new d) | some (.dat d) => k (.dat d) | none => False
  | s => k s
def dRet (t : DE) : DS := fun E G => t G fun sv G1 => rtS G1 sv fun s => E.rt s G1.c
theorem rtS_ok (R : Rl K W P G σ H) {sv : SV} {v : V} {k : SV → Prop} (r : RV K W P G σ H sv v) (t : rtS G sv k) : ∃ sv', RV K W P ⟨[], G.c⟩ [] H sv' v ∧ k sv' := by
  cases sv with
  | dat d => exact ⟨.dat d, r, t⟩
  | new d =>
    obtain ⟨p, o, e, pr, ro, _⟩ := r
    exact ⟨.new d, ⟨p, o, e, pr, ro, fun i e h => (by cases h)⟩, t⟩
  | bor i =>
    obtain ⟨hv, _⟩ := r
    have t : (match gg G i with | some (.own d) => k (.new d) | some (.dat d) => k (.dat d) | none => False) := t
    cases e : gg G i with
    | none => rw [e] at t; exact t.elim
    | some x =>
      rw [e] at t
      cases x with
      | dat d =>
        obtain ⟨w, h1, h2⟩ := R.dat i d e
        rw [hv] at h1; cases h1
        exact ⟨.dat d, h2, t⟩
      | own d =>
        obtain ⟨p, o, h1, h2, h3⟩ := R.own i d e
        rw [hv] at h1; cases h1
        exact ⟨.new d, ⟨p, o, rfl, h2, h3, fun i e h => (by cases h)⟩, t⟩
theorem ds_ret {t : DE} (he : PE X e (can X.K t)) : PS X (.Return (some e) pos) (canS X.K (dRet t)) := by
  refine PS.imp (ps_ret he) ?_
  rintro D σ H ⟨W, P, G, E, R, t, k⟩
  refine ⟨W, P, G, _, R, t, fun W1 sv G1 v H1 l1 R1 r1 q => ?_⟩
  obtain ⟨sv', r', q'⟩ := rtS_ok R1 r1 q
  exact k.rt W1 sv' G1.c v H1 l1 R1.bare r' q'
def dRetN : DS := fun E G => E.rt (.dat .non) G.c
theorem ds_retN : PS X (.Return none pos) (canS X.K dRetN) := PS.imp ps_retN fun D σ H ⟨W, P, G, E, R, t, k⟩ => k.rt W (.dat .non) G.c .non H (.refl W) R.bare rfl t
def dIfS (c : DT) (t u : DS) : DS := fun E G => c G fun b G1 => if b = true then t E G1 else u E G1
theorem ds_if {c : Expr} {a b : List Stmt} {tc : DT} {t u : DS} (hc : PT X c (canT X.K tc)) (ha : PSs X a (canS X.K t)) (hb : PSs X b (canS X.K u)) : PS X (.If c a b pos) (canS X.K (dIfS tc t u)) := by
  refine PS.imp (ps_if hc ha hb) ?_
  rintro D σ H ⟨W, P, G, E, R, t, k⟩
  refine ⟨W, P, G, _, R, t, fun W1 c G1 H1 l R1 q => ?_⟩
  cases c with
  | true => rw [if_pos rfl] at q ⊢; exact ⟨W1, P, G1, E, R1, q, k.le l⟩
  | false => rw [if_neg Bool.false_ne_true] at q ⊢; exact ⟨W1, P, G1, E, R1, q, k.le l⟩
/-- never reached -/
def dNever : DS := fun _ _ => False
theorem ds_never : PS X st (canS X.K dNever) := PS.imp ps_never fun D σ H ⟨W, P, G, E, R, t, k⟩ => t
theorem dss_never : PSs X rst (canS X.K dNever) := PSs.imp pss_never fun D σ H ⟨W, P, G, E, R, t, k⟩ => t
/-! targets -/
theorem Rl.setDat (R : Rl K W P G σ H) (i : Nat) {d : D} {v : V} (r : Rp K W d v) : Rl K W P (gset G i (some (.dat d))) (σ.set i (some v)) H := by
  have key : ∀ {j : Nat} {x : SC}, gg (gset G i (some (.dat d))) j = some x → (j = i ∧ i < G.length ∧ x = .dat d) ∨ (j ≠ i ∧ gg G j = some x) := fun {j x} e => by
    by_cases hj : j = i
    · have hl : i < G.length := by have := gg_lt e; rw [gset_len] at this; omega
      rw [hj, gg_set_self _ _ _ hl] at e; cases e; exact .inl ⟨hj, hl, rfl⟩
    · rw [gg_set_ne _ _ _ _ hj] at e; exact .inr ⟨hj, e⟩
  have oth : ∀ {j : Nat}, j ≠ i → (σ.set i (some v))[j]? = σ[j]? := fun {j} h => List.getElem?_set_ne (Ne.symm h)
  refine ⟨by rw [gset_len, List.length_set]; exact R.len, R.le, R.src, R.prot, fun j x e => ?_, fun j x e => ?_, fun j k x y n h1 h2 => ?_, R.pnt⟩
  · rcases key e with ⟨hj, hl, e'⟩ | ⟨hj, e'⟩
    · cases e'; subst hj
      exact ⟨v, List.getElem?_set_self (by rw [← R.len]; exact hl), r⟩
    · rw [oth hj]; exact R.dat j x e'
  · rcases key e with ⟨_, _, e'⟩ | ⟨hj, e'⟩
    · cases e'
    · rw [oth hj]; exact R.own j x e'
  · rcases key h1 with ⟨_, _, e'⟩ | ⟨hj, e1⟩
    · cases e'
    · rcases key h2 with ⟨_, _, e'⟩ | ⟨hk, e2⟩
      · cases e'
      · rw [oth hj, oth hk]; exact R.sep j k x y n e1 e2
theorem Rl.setOwn (R : Rl K W P G σ H) (i : Nat) {d : D} {p : Addr} {o : HO} (pr : Priv W H P p o) (r : RO K W p o d) (hn : ∀ i e, gg G i = some (.own e) → σ[i]? ≠ some (some (.ref p))) : Rl K W P (gset G i (some (.own d))) (σ.set i (some (.ref p))) H := by
  have key : ∀ {j : Nat} {x : SC}, gg (gset G i (some (.own d))) j = some x → (j = i ∧ i < G.length ∧ x = .own d) ∨ (j ≠ i ∧ gg G j = some x) := fun {j x} e => by
    by_cases hj : j = i
    · have hl : i < G.length := by have := gg_lt e; rw [gset_len] at this; omega
      rw [hj, gg_set_self _ _ _ hl] at e; cases e; exact .inl ⟨hj, hl, rfl⟩
    · rw [gg_set_ne _ _ _ _ hj] at e; exact .inr ⟨hj, e⟩
  have oth : ∀ {j : Nat}, j ≠ i → (σ.set i (some (V.ref p)))[j]? = σ[j]? := fun {j} h => List.getElem?_set_ne (Ne.symm h)
  have slf : i < G.length → (σ.set i (some (V.ref p)))[i]? = some (some (V.ref p)) := fun h => List.getElem?_set_self (by rw [← R.len]; exact h)
  refine ⟨by rw [gset_len, List.length_set]; exact R.len, R.le, R.src, R.prot, fun j x e => ?_, fun j x e => ?_, fun j k x y n h1 h2 => ?_, R.pnt⟩
  · rcases key e with ⟨_, _, e'⟩ | ⟨hj, e'⟩
    · cases e'
    · rw [oth hj]; exact R.dat j x e'
  · rcases key e with ⟨hj, hl, e'⟩ | ⟨hj, e'⟩
    · cases e'; subst hj
      exact ⟨p, o, slf hl, pr, r⟩
    · rw [oth hj]; exact R.own j x e'
  · rcases key h1 with ⟨hj, hl, _⟩ | ⟨hj, e1⟩
    · rcases key h2 with ⟨hk, _, _⟩ | ⟨hk, e2⟩
      · exact absurd (hj.trans hk.symm) n
      · subst hj; rw [slf hl, oth hk]; exact fun z => hn k y e2 z.symm
    · rcases key h2 with ⟨hk, hl, _⟩ | ⟨hk, e2⟩
      · subst hk; rw [slf hl, oth hj]; exact hn j x e1
      · rw [oth hj, oth hk]; exact R.sep j k x y n e1 e2
/-- a value comes to rest in a slot -/
def rest1 (G : Gm) (sv : SV) (k : SC → Gm → Prop) : Prop := match sv with
  | .dat d => k (.dat d) G
  | .new d => k (.own d) G
  | .bor i => match gg G i with | some (.own d) => k (.dat d) (gset G i (some (.dat d))) | some (.dat d) => k (.dat d) G | none => False
theorem Rl.rest (R : Rl K W P G σ H) {sv : SV} {v : V} {i : Nat} {k : SC → Gm → Prop} (r : RV K W P G σ H sv v) (t : rest1 G sv k) : ∃ W' c G', W.le W' ∧ Rl K W' P (gset G' i (some c)) (σ.set i (some v)) H ∧ k c G' := by
  cases sv with
  | dat d => exact ⟨W, .dat d, G, .refl W, R.setDat i r, t⟩
  | new d =>
    obtain ⟨p, o, rfl, pr, ro, hn⟩ := r
    exact ⟨W, .own d, G, .refl W, R.setOwn i pr ro hn, t⟩
  | bor j =>
    have t : LD.frz G (SV.bor j) fun d G1 => k (.dat d) G1 := t
    obtain ⟨W', d, G', l, R', r', q⟩ := R.frz r t
    exact ⟨W', .dat d, G', l, R'.setDat i r', q⟩
abbrev DG := SV → Gm → (Gm → Prop) → Prop
abbrev DGs := List D → Gm → (Gm → Prop) → Prop
/-- but for the slots vs all stand as before -/
def But (vs : List Nat) (σ σ' : St) : Prop := σ'.length = σ.length ∧ ∀ j, j ∉ vs → σ'[j]? = σ[j]?
theorem But.refl (vs : List Nat) (σ : St) : But vs σ σ := ⟨rfl, fun _ _ => rfl⟩
theorem But.trans {vs : List Nat} {a b c : St} (h : But vs a b) (g : But vs b c) : But vs a c := ⟨g.1.trans h.1, fun j hj => (g.2 j hj).trans (h.2 j hj)⟩
theorem But.set {vs : List Nat} {σ : St} {i : Nat} (h : i ∈ vs) (x : Option V) : But vs σ (σ.set i x) := ⟨List.length_set, fun j hj => List.getElem?_set_ne (show i ≠ j from fun e => hj (by rw [← e]; exact h))⟩
def canG (K : PySem.W.Frag) (vs : List Nat) (t : DG) : TG := fun v σ H Qs => ∃ W P G sv Q, Rl K W P G σ H ∧ RV K W P G σ H sv v ∧ t sv G Q ∧ ∀ W' G' σ' H', W.le W' → Rl K W' P G' σ' H' → But vs σ σ' → Q G' → Qs σ' H'
def canGs (K : PySem.W.Frag) (ws : List Nat) (t : DGs) : TGs := fun vs σ H Qs => ∃ W P G ds Q, Rl K W P G σ H ∧ RpL K W ds vs ∧ t ds G Q ∧ ∀ W' G' σ' H', W.le W' → Rl K W' P G' σ' H' → But ws σ σ' → Q G' → Qs σ' H'
theorem PG.imp {t u : TG} (h : PG X e t) (i : ∀ v σ H Q, u v σ H Q → t v σ H Q) : PG X e u := ⟨fun pins s σ H v x Q I r q => h.run pins s σ H v x Q I r (i v σ H Q q)⟩
theorem PGs.imp {es : List Expr} {t u : TGs} (h : PGs X es t) (i : ∀ v σ H Q, u v σ H Q → t v σ H Q) : PGs X es u := ⟨fun pins s σ H v x Q I r q => h.run pins s σ H v x Q I r (i v σ H Q q)⟩
def dgName (i : Nat) : DG := fun sv G Q => rest1 G sv fun c G1 => Q (gset G1 i (some c))
theorem dg_name {x : Str} {ws : List Nat} (i : Nat) (hN : X.N.Nodup) (hw : i ∈ ws := by decide) (hi : X.N[i]? = some x := by rfl) (hx : Loc X.env.scope x := by first | exact Or.inl rfl | exact Or.inr rfl) (hf : X.fn x = true ∨ X.env.scope.names.lookup x = some .local := by first | exact .inl rfl | exact .inr rfl) : PG X (.Name x pos) (canG X.K ws (dgName i)) := by
  refine PG.imp (pg_name hN hi hx hf) ?_
  rintro v σ H Qs ⟨W, P, G, sv, Q, R, r, t, k⟩
  obtain ⟨W', c, G', l, R', q⟩ := R.rest (i := i) r t
  exact k W' _ _ H l R' (But.set hw _) q
def dgNil : DGs := fun ds G Q => ds = [] ∧ Q G
def dgCons (t : DG) (u : DGs) : DGs := fun ds G Q => match ds with
  | d :: r => t (.dat d) G fun G1 => u r G1 Q
  | [] => False
theorem dgs_nil {ws : List Nat} : PGs X [] (canGs X.K ws dgNil) := by
  refine PGs.imp pgs_nil ?_
  rintro vs σ H Qs ⟨W, P, G, ds, Q, R, r, ⟨e, t⟩, k⟩
  subst e
  exact ⟨r, k W G σ H (.refl W) R (.refl _ _) t⟩
theorem dgs_cons {es : List Expr} {t : DG} {u : DGs} {ws : List Nat} (h1 : PG X e (canG X.K ws t)) (h2 : PGs X es (canGs X.K ws u)) (hs : (assignEach (e :: es) X.env).map (·.2) = assign e X.env :: (assignEach es X.env).map (·.2) := by rfl) : PGs X (e :: es) (canGs X.K ws (dgCons t u)) := by
  refine PGs.imp (pgs_cons h1 h2 hs) ?_
  rintro vs σ H Qs ⟨W, P, G, ds, Q, R, r, t, k⟩
  cases ds with
  | nil => exact False.elim t
  | cons d r' =>
    obtain ⟨v, w, rfl, h1, h2⟩ := r
    exact ⟨v, w, rfl, W, P, G, .dat d, _, R, h1, t, fun W1 G1 σ1 H1 l R1 b1 q => ⟨W1, P, G1, r', Q, R1, RpL.mono l _ _ h2, q, fun W2 G2 σ2 H2 l2 R2 b2 q2 => k W2 G2 σ2 H2 (l.trans l2) R2 (b1.trans b2) q2⟩⟩
/-- a, b = a tuple -/
def dgTup (n : Nat) (t : DGs) : DG := fun sv G Q => match sv with
  | .dat (.tup ds) => ds.length = n ∧ t ds G Q
  | _ => False
theorem dg_tup {es : List Expr} {k : Nat} {t : DGs} {n : Nat} {ws : List Nat} (h : PGs X es (canGs X.K ws t)) (hc : X.calm = true := by rfl) (hn : (assignEach es X.env).length = n := by rfl) (hst : (assignEach es X.env).findIdx? (·.1) = none := by rfl) : PG X (.Tuple es k pos) (canG X.K ws (dgTup n t)) := by
  refine PG.imp (pg_tup hc h hn hst) ?_
  rintro v σ H Qs ⟨W, P, G, sv, Q, R, r, t, k⟩
  cases sv <;> first | exact False.elim t | skip
  rename_i d
  cases d <;> first | exact False.elim t | skip
  obtain ⟨a, xs, rfl, e, r⟩ := r
  exact ⟨a, xs, rfl, .of (R.le _ _ e), by rw [r.length]; exact t.1, W, P, G, _, Q, R, r, t.2, k⟩
def dAsg (t : DE) (g : DG) : DS := fun E G => t G fun sv G1 => g sv G1 E.nx
theorem asg_ok {t : DE} {g : DG} {D : Ends} {ws : List Nat} (h : canS K (dAsg t g) D σ H) : tAsg (can K t) (canG K ws g) D σ H := by
  obtain ⟨W, P, G, E, R, t, k⟩ := h
  exact ⟨W, P, G, _, R, t, fun W1 sv G1 v H1 l1 R1 r1 q => ⟨W1, P, G1, sv, _, R1, r1, q, fun W2 G2 σ2 H2 l2 R2 _ q2 => k.nx W2 G2 σ2 H2 (l1.trans l2) R2 q2⟩⟩
theorem ds_asg {tg : Expr} {t : DE} {g : DG} {ws : List Nat} (he : PE X e (can X.K t)) (hg : PG X tg (canG X.K ws g)) (hs : swapsWithSole [tg] e pos.line X.env = pure false := by rfl) (hw : swappedStores [tg] e X.env = pure none := by rfl)
    (h1 : (assignEach [tg] X.env).map (·.2) = [assign tg X.env] := by rfl) : PS X (.Assign [tg] e pos) (canS X.K (dAsg t g)) := PS.imp (ps_asg he hg hs hw h1) fun _ _ _ h => asg_ok h
theorem ds_set {x : Str} (i : Nat) {t : DE} {pos' : Pos} (hN : X.N.Nodup) (he : PE X e (can X.K t)) (hi : X.N[i]? = some x := by rfl) (hx : Loc X.env.scope x := by first | exact Or.inl rfl | exact Or.inr rfl)
    (hs : swapsWith e (some (.Name x pos')) pos.line X.env = pure false := by rfl) (hf : X.fn x = true ∨ X.env.scope.names.lookup x = some .local := by first | exact .inl rfl | exact .inr rfl) :
    PS X (.Assign [.Name x pos'] e pos) (canS X.K (dAsg t (dgName i))) := by
  refine PS.imp (ps_set hN hi hx he hs hf) fun D σ H h => ?_
  obtain ⟨W, P, G, Q, R, t, k⟩ := asg_ok (ws := [i]) h
  refine ⟨W, P, G, Q, R, t, fun W1 sv G1 v H1 l1 R1 r1 q => ?_⟩
  obtain ⟨W2, P2, G2, sv2, Q2, R2, r2, t2, k2⟩ := k W1 sv G1 v H1 l1 R1 r1 q
  obtain ⟨W', c, G', l, R', q⟩ := R2.rest (i := i) r2 t2
  exact k2 W' _ _ H1 l R' (But.set (by simp) _) q
/-- a, b = x, y -/
def dPar (i j : Nat) (t : DA) : DS := fun E G => t G fun ds G1 => match ds with
  | a :: b :: r => r = [] ∧ E.nx (gset (gset G1 i (some (.dat a))) j (some (.dat b)))
  | _ => False
theorem ds_par {x y : Str} {a b : Expr} (i j : Nat) {t : DA} {px py pt : Pos} {kt k2 pt2} (hN : X.N.Nodup) (ha : PA X [a, b] (canA X.K t)) (hc : X.calm = true := by rfl) (hi : X.N[i]? = some x := by rfl) (hj : X.N[j]? = some y := by rfl) (hij : i ≠ j := by decide)
    (hx : X.env.scope.names.lookup x = some .local := by rfl) (hy : X.env.scope.names.lookup y = some .local := by rfl)
    (hw : swappedStores [.Tuple [.Name x px, .Name y py] kt pt] (.Tuple [a, b] k2 pt2) X.env = pure (some [x, y]) := by rfl)
    (hs : swapsWithSole [.Tuple [.Name x px, .Name y py] kt pt] (.Tuple [a, b] k2 pt2) pos.line X.env = pure false := by rfl) :
    PS X (.Assign [.Tuple [.Name x px, .Name y py] kt pt] (.Tuple [a, b] k2 pt2) pos) (canS X.K (dPar i j t)) := by
  refine PS.imp (ps_par hc hN hi hj hij hx hy ha hw hs) ?_
  rintro D σ H ⟨W, P, G, E, R, t, k⟩
  refine ⟨W, P, G, _, R, t, fun W1 ds G1 vs H1 l R1 r1 q => ?_⟩
  cases ds with
  | nil => exact False.elim q
  | cons a r => cases r with
    | nil => exact False.elim q
    | cons b r =>
      obtain ⟨e, q⟩ := q
      subst e
      obtain ⟨v, r, rfl, h1, w, r', rfl, h2, h3⟩ := r1
      obtain rfl : r' = [] := h3
      exact ⟨v, w, rfl, k.nx W1 _ _ H1 l ((R1.setDat i h1).setDat j h2) q⟩
/-- name op= e -/
def dAug (i : Nat) (dr : D2) (t : DE) : DS := fun E G => match gg G i with
  | some (.dat a) => t G fun sv G1 => see G1 sv fun b => flatD a = true ∧ dr a b fun r => rest1 G1 r fun c G2 => E.nx (gset G2 i (some c))
  | _ => False
theorem ds_aug {x : Str} {op : Operator} {dr : D2} {pos' : Pos} (i : Nat) {t : DE} (hN : X.N.Nodup) (ho : OpR X (inplaceOp op) (canO X.K dr)) (he : PE X e (can X.K t)) (hi : X.N[i]? = some x := by rfl) (hx : Loc X.env.scope x := by first | exact Or.inl rfl | exact Or.inr rfl)
    (hf : X.fn x = true ∨ X.env.scope.names.lookup x = some .local := by first | exact .inl rfl | exact .inr rfl) : PS X (.AugAssign (.Name x pos') op e pos) (canS X.K (dAug i dr t)) := by
  refine PS.imp (ps_aug hN hi hx he (ti := canO X.K dr) ho hf) ?_
  rintro D σ H ⟨W, P, G, E, R, tt, k⟩
  have tt : (match gg G i with | some (.dat a) => t G fun sv G1 => see G1 sv fun b => flatD a = true ∧ dr a b fun r => rest1 G1 r fun c G2 => E.nx (gset G2 i (some c)) | _ => False) := tt
  split at tt
  · rename_i a e
    obtain ⟨v, h1, h2⟩ := R.dat i a e
    refine ⟨v, h1, can_one R tt fun W1 G1 sa y H1 l R1 s1 q => ?_⟩
    obtain ⟨d, n, fl, q⟩ := R1.see s1 q
    refine ⟨W1, P, G1, σ, a, d, _, R1, R1.rn (Rp.mono l _ _ h2), n, q, fun W2 sv z H2 l2 R2 r2 q2 => ?_⟩
    obtain ⟨W3, c, G3, l3, R3, q3⟩ := R2.rest (i := i) r2 q2
    exact k.nx W3 _ _ H2 ((l.trans l2).trans l3) R3 q3
  · exact tt.elim
def dIAdd : D2 := fun a b Q => match a, b with | .int i, .int j => Q (.dat (.int (i + j))) | _, _ => False
theorem od_iadd : OpR X (inplaceOp .Add) (canO X.K dIAdd) := by
  refine OpR.imp (iop_add (X := X)) ?_
  rintro x y H Qv ⟨W, P, G, σ, a, b, Q, R, ha, hb, t, r⟩
  cases a <;> first | exact False.elim t | skip
  rename_i i
  obtain rfl : x = .int i := ha
  cases b <;> first | exact False.elim t | skip
  rename_i j
  obtain rfl : y = .int j := hb
  exact ⟨i, j, rfl, rfl, r.int R t⟩
theorem od_isub : OpR X (inplaceOp .Sub) (canO X.K dSub) := by
  refine OpR.imp (iop_sub (X := X)) ?_
  rintro x y H Qv ⟨W, P, G, σ, a, b, Q, R, ha, hb, t, r⟩
  cases a <;> first | exact False.elim t | skip
  rename_i i
  obtain rfl : x = .int i := ha
  cases b <;> first | exact False.elim t | skip
  rename_i j
  obtain rfl : y = .int j := hb
  exact ⟨i, j, rfl, rfl, r.int R t⟩
end

/-! ### what is walked -/
def Walks (K : PySem.W.Frag) (W0 : Wd) (J : It) (ds : List D) : Prop := ∀ W P G σ H i, W0.le W → Rl K W P G σ H →
  (∀ d, ds[i]? = some d → J.go i H ∧ ∀ x H', J.yld i H x H' → ∃ W', W.le W' ∧ Rl K W' P G σ H' ∧ Rp K W' d x) ∧ (ds.length ≤ i → J.stop i H)
abbrev DI := Gm → (List D → Gm → Prop) → Prop
def canI (K : PySem.W.Frag) (t : DI) : TI := fun σ H R => ∃ W P G Q, Rl K W P G σ H ∧ t G Q ∧ ∀ W' ds G' J H', W.le W' → Rl K W' P G' σ H' → Walks K W' J ds → Q ds G' → R J H'
section
variable {X : Cx} {K : PySem.W.Frag} {W : Wd} {P : Hp} {G : Gm} {σ : St} {H : Hp} {e a b tg iter : Expr} {pos : Pos}
theorem PI.imp {t u : TI} (h : PI X tg e t) (i : ∀ σ H R, u σ H R → t σ H R) : PI X tg e u := ⟨fun pins s σ H R I q => h.run pins s σ H R I (i σ H R q)⟩
theorem walks_list {p : Addr} {xs : List V} {ds : List D} (e : W.F p = some (.lst xs)) (r : RpL K W ds xs) : Walks K W (Itl K p) ds := by
  intro W' P G σ H i l R
  have e' : H p = some (.lst xs) := R.le _ _ (l.f _ _ e)
  refine ⟨fun d hd => ?_, fun hi => ⟨xs, .of e', by rw [r.length]; exact hi⟩⟩
  obtain ⟨v, hv, rv⟩ := r.get hd
  refine ⟨⟨xs, v, .of e', hv⟩, fun x H' ⟨h1, h2⟩ => ?_⟩
  subst h1
  have := h2 xs (.of e')
  rw [hv] at this; cases this
  exact ⟨W', .refl W', R, Rp.mono l _ _ rv⟩
theorem walks_tup {p : Addr} {xs : List V} {ds : List D} (e : W.F p = some (.tup xs)) (r : RpL K W ds xs) : Walks K W (Itt K p) ds := by
  intro W' P G σ H i l R
  have e' : H p = some (.tup xs) := R.le _ _ (l.f _ _ e)
  refine ⟨fun d hd => ?_, fun hi => ⟨xs, .of e', by rw [r.length]; exact hi⟩⟩
  obtain ⟨v, hv, rv⟩ := r.get hd
  refine ⟨⟨xs, v, .of e', hv⟩, fun x H' ⟨h1, h2⟩ => ?_⟩
  subst h1
  have := h2 xs (.of e')
  rw [hv] at this; cases this
  exact ⟨W', .refl W', R, Rp.mono l _ _ rv⟩
def rangeD (lo : Int) : Nat → List D
  | 0 => []
  | n + 1 => .int lo :: rangeD (lo + 1) n
theorem rangeD_get : ∀ (n : Nat) (lo : Int) (i : Nat), (rangeD lo n)[i]? = if i < n then some (.int (lo + i)) else none
  | 0, lo, i => by simp [rangeD]
  | n + 1, lo, 0 => by simp [rangeD]
  | n + 1, lo, i + 1 => by
    show (rangeD (lo + 1) n)[i]? = _
    rw [rangeD_get n]
    by_cases h : i < n
    · rw [if_pos h, if_pos (by omega)]; congr 2; omega
    · rw [if_neg h, if_neg (by omega)]
theorem rangeD_len : ∀ (n : Nat) (lo : Int), (rangeD lo n).length = n
  | 0, _ => rfl
  | n + 1, lo => congrArg Nat.succ (rangeD_len n (lo + 1))
theorem walks_range (lo : Int) (n : Nat) : Walks K W (Itr lo n) (rangeD lo n) := by
  intro W' P G σ H i l R
  refine ⟨fun d hd => ?_, fun hi => by rw [rangeD_len] at hi; exact hi⟩
  rw [rangeD_get] at hd
  by_cases h : i < n
  · rw [if_pos h] at hd; cases hd
    refine ⟨h, fun x H' ⟨h1, h2⟩ => ?_⟩
    subst h1 h2
    exact ⟨W', .refl W', R, rfl⟩
  · rw [if_neg h] at hd; cases hd
def enumD : Int → List D → List D
  | _, [] => []
  | i, d :: r => .tup [.int i, d] :: enumD (i + 1) r
theorem enumD_get : ∀ (ds : List D) (k : Int) (i : Nat), (enumD k ds)[i]? = (ds[i]?).map fun d => .tup [.int (k + i), d]
  | [], _, _ => by simp [enumD]
  | d :: r, k, 0 => by simp [enumD]
  | d :: r, k, i + 1 => by
    show (enumD (k + 1) r)[i]? = _
    rw [enumD_get r]
    show _ = (r[i]?).map _
    congr 1; funext x; congr 3; omega
theorem enumD_len : ∀ (ds : List D) (k : Int), (enumD k ds).length = ds.length
  | [], _ => rfl
  | d :: r, k => congrArg Nat.succ (enumD_len r (k + 1))
def zipD : List D → List D → List D
  | a :: r, b :: s => .tup [a, b] :: zipD r s
  | _, _ => []
theorem zipD_get : ∀ (ds es : List D) (i : Nat) (d : D), (zipD ds es)[i]? = some d → ∃ a b, ds[i]? = some a ∧ es[i]? = some b ∧ d = .tup [a, b]
  | a :: r, b :: s, 0, d, h => by cases h; exact ⟨a, b, rfl, rfl, rfl⟩
  | a :: r, b :: s, i + 1, d, h => zipD_get r s i d h
  | [], _, _, _, h => by simp [zipD] at h
  | _ :: _, [], _, _, h => by simp [zipD] at h
theorem zipD_end : ∀ (ds es : List D) (i : Nat), (zipD ds es).length ≤ i → ds.length ≤ i ∨ es.length ≤ i
  | a :: r, b :: s, 0, h => by simp [zipD] at h
  | a :: r, b :: s, i + 1, h => by
    have := zipD_end r s i (by simpa [zipD] using h)
    simpa using this
  | [], _, _, _ => .inl (Nat.zero_le _)
  | _ :: _, [], _, _ => .inr (Nat.zero_le _)
/-- a list, or a tuple, or the script -/
def asL (d : D) (k : List D → Prop) : Prop := match d with
  | .lst ds => k ds
  | .tup ds => k ds
  | .scr ns => k (ns.map D.int)
  | _ => False
def dWalk (t : DE) : DI := fun G Q => t G fun sv G1 => frz G1 sv fun d G2 => asL d fun ds => Q ds G2
def iAny (K : PySem.W.Frag) (tl : TE) : TI := fun σ H R => tl σ H fun x H1 => ∃ a, x = .ref a ∧ (((∃ xs, SqL K H1 a xs) ∧ R (Itl K a) H1) ∨ ((∃ xs, SqT K H1 a xs) ∧ R (Itt K a) H1))
theorem pi_any {tl : TE} (hl : PE X e tl) : PI X tg e (iAny X.K tl) := by
  refine ⟨fun pins s σ H R I h => thn (hl.run pins s σ H _ I h) fun v s1 ⟨x, H1, I1, r1, p, ex, q1⟩ => ?_⟩
  subst ex
  cases r1
  have I2 : ∀ o : Obj, Inv X pins σ H1 { s1 with heap := s1.heap.push o } := fun o => I1.kept (t' := s1.toks) fun b u z => Heap.get?_push_of_some _ z
  have new : ∀ b ∈ [s1.heap.objs.size], FpOk X pins H1 b := fun b hb => by
    obtain rfl := List.mem_singleton.mp hb
    exact I1.fpOk (Nat.le_refl _) (I1.hok.fresh (Nat.le_refl _))
  rcases q1 with ⟨⟨xs, hq⟩, q⟩ | ⟨⟨xs, hq⟩, q⟩
  · obtain ⟨its, _, pl, _⟩ := I1.list hq
    exact wpAny_pyIter_list pl.isList ⟨s1.heap.objs.size, _, _, _, H1, rfl, I2 _, turn_list p _, ⟨_, Heap.get?_push_size _ rfl, rfl, rfl⟩, new, q⟩
  · obtain ⟨its, _, pl, _⟩ := I1.tuple hq
    exact wpAny_pyIter_tuple (show s1.heap.IsTuple p its.toArray from pl) ⟨s1.heap.objs.size, _, _, _, H1, rfl, I2 _, turn_tuple p _, ⟨_, Heap.get?_push_size _ rfl, rfl, rfl⟩, new, q⟩
theorem walks_scr {p : Addr} {ns : List Int} (e : SqL K W.F p (ns.map V.int)) : Walks K W (Itl K p) (ns.map D.int) := by
  intro W' P G σ H i l R
  have e' : SqL K H p (ns.map V.int) := R.sqL (sqL_le l e)
  refine ⟨fun d hd => ?_, fun hi => ⟨_, e', by rw [List.length_map] at hi ⊢; exact hi⟩⟩
  rw [List.getElem?_map] at hd
  obtain ⟨n, hn, rfl⟩ := Option.map_eq_some_iff.mp hd
  have hv : (ns.map V.int)[i]? = some (.int n) := by rw [List.getElem?_map, hn]; rfl
  refine ⟨⟨_, .int n, e', hv⟩, fun x H' ⟨h1, h2⟩ => ?_⟩
  subst h1
  have := h2 _ e'
  rw [hv] at this; cases this
  exact ⟨W', .refl W', R, rfl⟩
theorem asL_ok (R : Rl K W P G σ H) {d : D} {x : V} {k : List D → Prop} (r : Rp K W d x) (t : asL d k) : ∃ p xs ds, x = .ref p ∧ k ds ∧ RpL K W ds xs ∧ ((SqL K W.F p xs ∧ Walks K W (Itl K p) ds) ∨ (SqT K W.F p xs ∧ Walks K W (Itt K p) ds)) := by
  cases d <;> first | exact False.elim t | skip
  · obtain ⟨p, rfl, s⟩ := r
    exact ⟨p, _, _, rfl, t, RpL.ofInts _, .inl ⟨s, walks_scr s⟩⟩
  · obtain ⟨p, xs, rfl, s, r⟩ := r
    exact ⟨p, xs, _, rfl, t, r, .inr ⟨.of s, walks_tup s r⟩⟩
  · obtain ⟨p, xs, rfl, s, r⟩ := r
    exact ⟨p, xs, _, rfl, t, r, .inl ⟨.of s, walks_list s r⟩⟩
theorem di_walk {t : DE} (h : PE X e (can X.K t)) : PI X tg e (canI X.K (dWalk t)) := by
  refine PI.imp (pi_any h) ?_
  rintro σ H R0 ⟨W, P, G, Q, R, t, k⟩
  refine ⟨W, P, G, _, R, t, fun W1 sv G1 v H1 l1 R1 r1 q1 => ?_⟩
  obtain ⟨W2, d, G2, l2, R2, r2, q2⟩ := R1.frz r1 q1
  obtain ⟨p, xs, ds, rfl, q, _, w⟩ := asL_ok R2 r2 q2
  refine ⟨p, rfl, ?_⟩
  rcases w with ⟨s, w⟩ | ⟨s, w⟩
  · exact .inl ⟨⟨xs, R2.sqL s⟩, k W2 ds G2 _ H1 (l1.trans l2) R2 w q⟩
  · exact .inr ⟨⟨xs, R2.sqT s⟩, k W2 ds G2 _ H1 (l1.trans l2) R2 w q⟩
def dRng1 (t : DA) : DI := fun G Q => t G fun ds G1 => match ds with
  | .int j :: _ => (-(2 ^ 62) ≤ j ∧ j < 2 ^ 62) ∧ ds.length = 1 ∧ Q (rangeD 0 j.toNat) G1
  | _ => False
def dRng2 (t : DA) : DI := fun G Q => t G fun ds G1 => match ds with
  | .int i :: .int j :: _ => (-(2 ^ 62) ≤ i ∧ i < 2 ^ 62 ∧ -(2 ^ 62) ≤ j ∧ j < 2 ^ 62) ∧ ds.length = 2 ∧ Q (rangeD i (j - i).toNat) G1
  | _ => False
theorem di_range1 {t : DA} {p : Pos} (hm : X.mg "range" = none) (ha : PA X [a] (canA X.K t)) (hg : Gl X "range" := by rfl) (hs : starEach [a] X.env = [(false, eval a X.env)] := by rfl) : PI X tg (.Call (.Name "range" p) [a] [] pos) (canI X.K (dRng1 t)) := by
  refine PI.imp (pi_range1 hg hm ha hs) ?_
  rintro σ H R0 ⟨W, P, G, Q, R, t, k⟩
  refine ⟨W, P, G, _, R, t, fun W1 ds G1 vs H1 l1 R1 r1 q1 => ?_⟩
  cases ds with
  | nil => exact False.elim q1
  | cons d r =>
    cases d <;> first | exact False.elim q1 | skip
    rename_i j
    obtain ⟨⟨h1, h2⟩, hl, q⟩ := q1
    obtain ⟨v, w, rfl, rfl, r2⟩ := r1
    have : r = [] := List.length_eq_zero_iff.mp (Nat.succ.inj hl)
    subst this
    obtain rfl : w = [] := r2
    exact ⟨j, rfl, h1, h2, k W1 _ G1 _ H1 l1 R1 (walks_range 0 _) q⟩
theorem di_range2 {t : DA} {p : Pos} (hm : X.mg "range" = none) (ha : PA X [a, b] (canA X.K t)) (hg : Gl X "range" := by rfl) (hs : starEach [a, b] X.env = [(false, eval a X.env), (false, eval b X.env)] := by rfl) (hs2 : starEach [b] X.env = [(false, eval b X.env)] := by rfl) :
    PI X tg (.Call (.Name "range" p) [a, b] [] pos) (canI X.K (dRng2 t)) := by
  refine PI.imp (pi_range2 hg hm ha hs hs2) ?_
  rintro σ H R0 ⟨W, P, G, Q, R, t, k⟩
  refine ⟨W, P, G, _, R, t, fun W1 ds G1 vs H1 l1 R1 r1 q1 => ?_⟩
  cases ds with
  | nil => exact False.elim q1
  | cons d r =>
    cases d <;> first | exact False.elim q1 | skip
    rename_i i
    cases r with
    | nil => exact False.elim q1
    | cons d r =>
      cases d <;> first | exact False.elim q1 | skip
      rename_i j
      obtain ⟨hh, hl, q⟩ := q1
      obtain ⟨v, w, rfl, rfl, v2, w2, rfl, rfl, r2⟩ := r1
      have : r = [] := List.length_eq_zero_iff.mp (Nat.succ.inj (Nat.succ.inj hl))
      subst this
      obtain rfl : w2 = [] := r2
      exact ⟨i, j, rfl, hh, k W1 _ G1 _ H1 l1 R1 (walks_range i _) q⟩
def dEnum (t : DA) : DI := fun G Q => t G fun ds G1 => match ds with
  | d :: r => r = [] ∧ asLs d fun es => Q (enumD 0 es) G1
  | _ => False
where asLs (d : D) (k : List D → Prop) : Prop := match d with
  | .lst ds => k ds
  | .scr ns => k (ns.map D.int)
  | _ => False
theorem asLs_ok {d : D} {x : V} {k : List D → Prop} (r : Rp K W d x) (t : dEnum.asLs d k) : ∃ p xs ds, x = .ref p ∧ k ds ∧ RpL K W ds xs ∧ SqL K W.F p xs := by
  cases d <;> first | exact False.elim t | skip
  · obtain ⟨p, rfl, s⟩ := r
    exact ⟨p, _, _, rfl, t, RpL.ofInts _, s⟩
  · obtain ⟨p, xs, rfl, s, r⟩ := r
    exact ⟨p, xs, _, rfl, t, r, .of s⟩
theorem walks_enum {p : Addr} {xs : List V} {ds : List D} (e : SqL K W.F p xs) (r : RpL K W ds xs) : Walks K W (Ite K p) (enumD 0 ds) := by
  intro W' P G σ H i l R
  have e' : SqL K H p xs := R.sqL (sqL_le l e)
  refine ⟨fun d hd => ?_, fun hi => ⟨xs, e', by rw [r.length]; rw [enumD_len] at hi; exact hi⟩⟩
  rw [enumD_get] at hd
  obtain ⟨x0, hx, rfl⟩ := Option.map_eq_some_iff.mp hd
  obtain ⟨v, hv, rv⟩ := r.get hx
  refine ⟨⟨xs, v, e', hv⟩, fun x H' ⟨T, y, h1, h2, h3, h4⟩ => ?_⟩
  subst h1 h3
  have := h4 xs e'
  rw [hv] at this; cases this
  obtain ⟨W2, l2, R2, r2⟩ := R.allocT (ds := [.int (i : Nat), x0]) h2 ⟨_, _, rfl, rfl, _, _, rfl, Rp.mono l _ _ rv, rfl⟩
  exact ⟨W2, l2, R2, by rw [show (0 : Int) + (i : Nat) = (i : Nat) by omega]; exact r2⟩
theorem di_enum {t : DA} {p : Pos} {elts : List Expr} {kk : Nat} {tpos : Pos} (hm : X.mg "enumerate" = none) (ha : PA X [e] (canA X.K t)) (hg : Gl X "enumerate" := by rfl) (hs : starEach [e] X.env = [(false, eval e X.env)] := by rfl) : PI X (.Tuple elts kk tpos) (.Call (.Name "enumerate" p) [e] [] pos) (canI X.K (dEnum t)) := by
  refine PI.imp (pi_enum hg hm ha hs) ?_
  rintro σ H R0 ⟨W, P, G, Q, R, t, k⟩
  refine ⟨W, P, G, _, R, t, fun W1 ds G1 vs H1 l1 R1 r1 q1 => ?_⟩
  cases ds with
  | nil => exact False.elim q1
  | cons d r =>
    obtain ⟨e, q⟩ := q1
    subst e
    obtain ⟨v, w, rfl, r1, r2⟩ := r1
    obtain rfl : w = [] := r2
    obtain ⟨p, xs, ds, rfl, q, rr, s⟩ := asLs_ok r1 q
    exact ⟨p, xs, rfl, R1.sqL s, k W1 _ G1 _ H1 l1 R1 (walks_enum s rr) q⟩
def dZip (t : DA) : DI := fun G Q => t G fun ds G1 => match ds with
  | d :: e :: r => r = [] ∧ dEnum.asLs d fun es => dEnum.asLs e fun fs => Q (zipD es fs) G1
  | _ => False
theorem walks_zip {p q : Addr} {xs ys : List V} {ds es : List D} (e : SqL K W.F p xs) (r : RpL K W ds xs) (e2 : SqL K W.F q ys) (r2 : RpL K W es ys) : Walks K W (Itz K p q) (zipD ds es) := by
  intro W' P G σ H i l R
  have e' : SqL K H p xs := R.sqL (sqL_le l e)
  have e2' : SqL K H q ys := R.sqL (sqL_le l e2)
  refine ⟨fun d hd => ?_, fun hi => ⟨xs, ys, e', e2', by rw [r.length, r2.length]; exact zipD_end ds es i hi⟩⟩
  obtain ⟨x0, y0, hx, hy, rfl⟩ := zipD_get ds es i d hd
  obtain ⟨v, hv, rv⟩ := r.get hx
  obtain ⟨w, hw, rw'⟩ := r2.get hy
  refine ⟨⟨xs, ys, v, w, e', e2', hv, hw⟩, fun x H' ⟨T, y, z, h1, h2, h3, h4, h5⟩ => ?_⟩
  subst h1 h3
  have a1 := h4 xs e'
  have a2 := h5 ys e2'
  rw [hv] at a1; cases a1
  rw [hw] at a2; cases a2
  exact R.allocT (ds := [x0, y0]) h2 ⟨_, _, rfl, Rp.mono l _ _ rv, _, _, rfl, Rp.mono l _ _ rw', rfl⟩
theorem di_zip {t : DA} {p : Pos} {e2 : Expr} {elts : List Expr} {kk : Nat} {tpos : Pos} (hm : X.mg "zip" = none) (ha : PA X [e, e2] (canA X.K t)) (hg : Gl X "zip" := by rfl) (hs : starEach [e, e2] X.env = (false, eval e X.env) :: starEach [e2] X.env := by rfl) (hpl : (backTo pos (starEach [e2] X.env)).any (·.1) = false := by rfl) :
    PI X (.Tuple elts kk tpos) (.Call (.Name "zip" p) [e, e2] [] pos) (canI X.K (dZip t)) := by
  refine PI.imp (pi_zip hg hm ha hs hpl) ?_
  rintro σ H R0 ⟨W, P, G, Q, R, t, k⟩
  refine ⟨W, P, G, _, R, t, fun W1 ds G1 vs H1 l1 R1 r1 q1 => ?_⟩
  cases ds with
  | nil => exact False.elim q1
  | cons d r =>
    cases r with
    | nil => exact False.elim q1
    | cons e r =>
      obtain ⟨e0, q⟩ := q1
      subst e0
      obtain ⟨v, w, rfl, r1, v2, w2, rfl, r2, r3⟩ := r1
      obtain rfl : w2 = [] := r3
      obtain ⟨p, xs, ds, rfl, q, rr, s⟩ := asLs_ok r1 q
      obtain ⟨p2, ys, es, rfl, q, rr2, s2⟩ := asLs_ok r2 q
      exact ⟨p, p2, xs, ys, rfl, R1.sqL s, R1.sqL s2, k W1 _ G1 _ H1 l1 R1 (walks_zip s rr s2 rr2) q⟩
/-! ### for, while -/
def forL (g : DG) (tb : DS) (E : DEnds) : List D → Gm → Prop
  | [], G => E.nx G
  | d :: r, G => g (.dat d) G fun G1 => tb { E with nx := forL g tb E r, ct := forL g tb E r, bk := E.nx } G1
def dFor (t : DI) (g : DG) (tb : DS) : DS := fun E G => t G fun ds G1 => forL g tb E ds G1
/-- what a for asks of the walk J -/
def ForB (g : TG) (tb : TS) (D : Ends) (σ : St) (J : It) (H1 : Hp) : Prop := ∃ W : Nat → Nat → St → Hp → Prop, (∃ m, W 0 m σ H1) ∧ ∀ i m σ H, W i m σ H →
  (J.stop i H ∧ D.nx σ H) ∨ (J.go i H ∧ ∃ N : St → Hp → Prop, (∀ σ' H', N σ' H' → ∃ m', m' < m ∧ W (i + 1) m' σ' H') ∧ ∀ x H', J.yld i H x H' → g x σ H' fun σ2 H2 => tb { D with nx := N, ct := N, bk := D.nx } σ2 H2)
theorem for_J {g : DG} {tb : DS} {ws : List Nat} {E : DEnds} {W1 : Wd} {G1 : Gm} {H1 : Hp} {J : It} {ds : List D} {D : Ends} (R1 : Rl K W1 P G1 σ H1) (w : Walks K W1 J ds) (q : forL g tb E ds G1) (k : EndsOk K W1 P E D) : ForB (canG K ws g) (canS K tb) D σ J H1 := by
  refine ⟨fun i m σ H => ∃ W2 G2, W1.le W2 ∧ Rl K W2 P G2 σ H ∧ i + m = ds.length ∧ forL g tb E (ds.drop i) G2, ⟨ds.length, W1, G1, .refl W1, R1, by omega, q⟩, ?_⟩
  rintro i m σ H ⟨W2, G2, l2, R2, hm, q2⟩
  obtain ⟨w1, w2⟩ := w W2 P G2 σ H i l2 R2
  by_cases hi : i < ds.length
  · obtain ⟨hgo, hy⟩ := w1 ds[i] (List.getElem?_eq_getElem hi)
    rw [List.drop_eq_getElem_cons hi] at q2
    refine .inr ⟨hgo, fun σ' H' => ∃ W3 G3, W1.le W3 ∧ Rl K W3 P G3 σ' H' ∧ forL g tb E (ds.drop (i + 1)) G3, fun σ' H' ⟨W3, G3, l3, R3, q3⟩ => ⟨m - 1, by omega, W3, G3, l3, R3, by omega, q3⟩, fun x H' hx => ?_⟩
    obtain ⟨W3, l3, R3, r3⟩ := hy x H' hx
    refine ⟨W3, P, G2, .dat ds[i], _, R3, r3, q2, fun W4 G4 σ4 H4 l4 R4 _ q4 => ?_⟩
    have l5 : W1.le W4 := (l2.trans l3).trans l4
    exact ⟨W4, P, G4, _, R4, q4, ⟨fun W6 G6 σ6 H6 l6 R6 q6 => ⟨W6, G6, l5.trans l6, R6, q6⟩, fun W6 G6 σ6 H6 l6 R6 q6 => k.nx W6 G6 σ6 H6 (l5.trans l6) R6 q6,
      fun W6 G6 σ6 H6 l6 R6 q6 => ⟨W6, G6, l5.trans l6, R6, q6⟩, fun W6 sv n v H6 l6 => k.rt W6 sv n v H6 (l5.trans l6)⟩⟩
  · rw [List.drop_eq_nil_of_le (by omega)] at q2
    exact .inl ⟨w2 (by omega), k.nx W2 G2 σ H l2 R2 q2⟩
theorem ds_for {body : List Stmt} {t : DI} {g : DG} {tb : DS} {ws : List Nat} (hp : PassesOwn (model X.prog X.w) X.A X.env X.xe) (hi : PI X tg iter (canI X.K t)) (hg : PG X tg (canG X.K ws g)) (hb : PSs X body (canS X.K tb)) (hc : X.calm = true := by rfl)
    (hs : ∀ x, foldedSetIterable iter X.env x = pure x := by intro _; rfl) : PS X (.For tg iter body [] pos) (canS X.K (dFor t g tb)) := by
  refine PS.imp (ps_for hp hc hi hg hb hs) ?_
  rintro D σ H ⟨W, P, G, E, R, t, k⟩
  exact ⟨W, P, G, _, R, t, fun W1 ds G1 J H1 l1 R1 w q => for_J R1 w q (k.le l1)⟩
def whN (c : DT) (tb : DS) (E : DEnds) : Nat → Gm → Prop
  | 0, _ => False
  | n + 1, G => c G fun b G1 => if b = true then tb { E with nx := whN c tb E n, ct := whN c tb E n, bk := E.nx } G1 else E.nx G1
def dWhile (c : DT) (tb : DS) : DS := fun E G => ∃ n, whN c tb E n G
theorem ds_while {c : Expr} {body : List Stmt} {tc : DT} {tb : DS} (hp : PassesOwn (model X.prog X.w) X.A X.env X.xe) (hc : PT X c (canT X.K tc)) (hb : PSs X body (canS X.K tb)) : PS X (.While c body [] pos) (canS X.K (dWhile tc tb)) := by
  refine PS.imp (ps_while hp hc hb) ?_
  rintro D σ H ⟨W, P, G, E, R, ⟨n, t⟩, k⟩
  refine ⟨fun m σ H => ∃ W2 G2, W.le W2 ∧ Rl X.K W2 P G2 σ H ∧ whN tc tb E m G2, ⟨n, W, G, .refl W, R, t⟩, ?_⟩
  rintro m σ H ⟨W2, G2, l2, R2, q2⟩
  cases m with
  | zero => exact False.elim q2
  | succ m =>
    refine ⟨W2, P, G2, _, R2, q2, fun W3 b G3 H3 l3 R3 q3 => ?_⟩
    cases b with
    | true =>
      rw [if_pos rfl] at q3 ⊢
      refine ⟨fun σ' H' => ∃ W4 G4, W.le W4 ∧ Rl X.K W4 P G4 σ' H' ∧ whN tc tb E m G4, fun σ' H' ⟨W4, G4, l4, R4, q4⟩ => ⟨m, Nat.lt_succ_self _, W4, G4, l4, R4, q4⟩, ?_⟩
      have l5 : W.le W3 := l2.trans l3
      exact ⟨W3, P, G3, _, R3, q3, ⟨fun W6 G6 σ6 H6 l6 R6 q6 => ⟨W6, G6, l5.trans l6, R6, q6⟩, fun W6 G6 σ6 H6 l6 R6 q6 => k.nx W6 G6 σ6 H6 (l5.trans l6) R6 q6,
        fun W6 G6 σ6 H6 l6 R6 q6 => ⟨W6, G6, l5.trans l6, R6, q6⟩, fun W6 sv n v H6 l6 => k.rt W6 sv n v H6 (l5.trans l6)⟩⟩
    | false =>
      rw [if_neg Bool.false_ne_true] at q3 ⊢
      exact k.nx W3 G3 σ H3 (l2.trans l3) R3 q3
end

/-! ### comprehensions -/
def wipeG : List Nat → Gm → Gm
  | [], G => G
  | i :: vs, G => gset (wipeG vs G) i none
def datO : Option SC → Option SC
  | some (.dat d) => some (.dat d)
  | _ => none
/-- the block's own slots as they stood ahead of it -/
def backG : List Nat → Gm → Gm → Gm
  | [], _, G => G
  | i :: vs, G0, G => gset (backG vs G0 G) i (datO (gg G0 i))
theorem wipeG_len : ∀ (vs : List Nat) (G : Gm), (wipeG vs G).length = G.length
  | [], _ => rfl
  | i :: vs, G => by rw [wipeG, gset_len, wipeG_len vs G]
theorem backG_len : ∀ (vs : List Nat) (G0 G : Gm), (backG vs G0 G).length = G.length
  | [], _, _ => rfl
  | i :: vs, G0, G => by rw [backG, gset_len, backG_len vs G0 G]
theorem wipeG_c : ∀ (vs : List Nat) (G : Gm), (wipeG vs G).c = G.c
  | [], _ => rfl
  | i :: vs, G => by rw [wipeG]; exact wipeG_c vs G
theorem backG_c : ∀ (vs : List Nat) (G0 G : Gm), (backG vs G0 G).c = G.c
  | [], _, _ => rfl
  | i :: vs, G0, G => by rw [backG]; exact backG_c vs G0 G
theorem gg_none {G : Gm} {n : Nat} (h : G.length ≤ n) : gg G n = none := by
  cases e : gg G n with
  | none => rfl
  | some x => exact absurd (gg_lt e) (by omega)
theorem gg_wipe : ∀ (vs : List Nat) (G : Gm) (j : Nat), gg (wipeG vs G) j = if j ∈ vs then none else gg G j
  | [], _, _ => by simp [wipeG]
  | i :: vs, G, j => by
    rw [wipeG]
    by_cases h : j = i
    · subst h
      rw [if_pos List.mem_cons_self]
      by_cases hl : j < (wipeG vs G).length
      · exact gg_set_self _ _ _ hl
      · exact gg_none (by rw [gset_len]; omega)
    · rw [gg_set_ne _ _ _ _ h, gg_wipe vs G j]
      simp [h]
theorem gg_back : ∀ (vs : List Nat) (G0 G : Gm) (j : Nat), G.length = G0.length → gg (backG vs G0 G) j = if j ∈ vs then datO (gg G0 j) else gg G j
  | [], _, _, _, _ => by simp [backG]
  | i :: vs, G0, G, j, hl => by
    rw [backG]
    by_cases h : j = i
    · subst h
      rw [if_pos List.mem_cons_self]
      by_cases hj : j < (backG vs G0 G).length
      · exact gg_set_self _ _ _ hj
      · rw [gg_none (by rw [gset_len]; omega), gg_none (G := G0) (by rw [← hl, ← backG_len vs G0 G]; omega)]; rfl
    · rw [gg_set_ne _ _ _ _ h, gg_back vs G0 G j hl]
      simp [h]
theorem wipe_get : ∀ (vs : List Nat) (σ : St) (j : Nat), (wipe σ vs)[j]? = if j ∈ vs then (σ[j]?).map (fun _ => none) else σ[j]?
  | [], _, _ => by simp [wipe]
  | i :: vs, σ, j => by
    rw [wipe]
    by_cases h : j = i
    · subst h
      rw [if_pos List.mem_cons_self]
      by_cases hl : j < (wipe σ vs).length
      · rw [List.getElem?_set_self hl, List.getElem?_eq_getElem (by rw [wipe_length] at hl; exact hl)]; rfl
      · rw [List.getElem?_eq_none (by rw [List.length_set]; omega), List.getElem?_eq_none (by rw [wipe_length] at hl; omega)]; rfl
    · rw [List.getElem?_set_ne (Ne.symm h), wipe_get vs σ j]
      simp [h]
theorem But.wipe {vs : List Nat} {σ σ' : St} (h : But vs σ σ') : L2.wipe σ' vs = L2.wipe σ vs := by
  apply List.ext_getElem?
  intro j
  rw [wipe_get, wipe_get]
  by_cases hj : j ∈ vs
  · rw [if_pos hj, if_pos hj]
    by_cases hl : j < σ.length
    · rw [List.getElem?_eq_getElem hl, List.getElem?_eq_getElem (by rw [h.1]; exact hl)]; rfl
    · rw [List.getElem?_eq_none (l := σ) (by omega), List.getElem?_eq_none (l := σ') (by rw [h.1]; omega)]
  · rw [if_neg hj, if_neg hj, h.2 j hj]
theorem But.of_wipe {vs : List Nat} {σ σ' : St} (h : But vs (L2.wipe σ vs) σ') : L2.wipe σ' vs = L2.wipe σ vs := by
  rw [h.wipe]
  apply List.ext_getElem?
  intro j
  rw [wipe_get, wipe_get]
  by_cases hj : j ∈ vs
  · rw [if_pos hj, if_pos hj]; cases σ[j]? <;> rfl
  · rw [if_neg hj, if_neg hj]
section
variable {X : Cx} {K : PySem.W.Frag} {W : Wd} {P : Hp} {G G0 : Gm} {σ : St} {H : Hp} {e a b tg iter elt : Expr} {pos : Pos}
theorem Rl.wipe (R : Rl K W P G σ H) (vs : List Nat) : Rl K W P (wipeG vs G) (L2.wipe σ vs) H := by
  have key : ∀ {j : Nat} {x : SC}, gg (wipeG vs G) j = some x → j ∉ vs ∧ gg G j = some x := fun {j x} e => by
    rw [gg_wipe] at e
    by_cases h : j ∈ vs
    · rw [if_pos h] at e; cases e
    · rw [if_neg h] at e; exact ⟨h, e⟩
  have oth : ∀ {j : Nat}, j ∉ vs → (L2.wipe σ vs)[j]? = σ[j]? := fun {j} h => by rw [wipe_get, if_neg h]
  refine ⟨by rw [wipeG_len, wipe_length]; exact R.len, R.le, by rw [wipeG_c]; exact R.src, R.prot, fun i d e => ?_, fun i d e => ?_, fun i j d e n h1 h2 => ?_, R.pnt⟩
  · obtain ⟨h, e⟩ := key e; rw [oth h]; exact R.dat i d e
  · obtain ⟨h, e⟩ := key e; rw [oth h]; exact R.own i d e
  · obtain ⟨a1, e1⟩ := key h1; obtain ⟨a2, e2⟩ := key h2
    rw [oth a1, oth a2]; exact R.sep i j d e n e1 e2
/-- behind the block -/
theorem Rl.back {W0 : Wd} {P0 H0 : Hp} {vs : List Nat} (R : Rl K W P (wipeG vs G) (L2.wipe σ vs) H) (l : W0.le W) (R0 : Rl K W0 P0 G0 σ H0) : Rl K W P (backG vs G0 G) σ H := by
  have hl : G.length = G0.length := by
    have h1 := R.len
    rw [wipeG_len, wipe_length] at h1
    exact h1.trans R0.len.symm
  have key : ∀ {j : Nat} {x : SC}, gg (backG vs G0 G) j = some x → (j ∈ vs ∧ ∃ d, x = .dat d ∧ gg G0 j = some (.dat d)) ∨ (j ∉ vs ∧ gg (wipeG vs G) j = some x) := fun {j x} e => by
    rw [gg_back _ _ _ _ hl] at e
    by_cases h : j ∈ vs
    · rw [if_pos h] at e
      cases q : gg G0 j with
      | none => rw [q] at e; cases e
      | some y =>
        rw [q] at e
        cases y with
        | own d => cases e
        | dat d => cases e; exact .inl ⟨h, d, rfl, rfl⟩
    · rw [if_neg h] at e; exact .inr ⟨h, by rw [gg_wipe, if_neg h]; exact e⟩
  have oth : ∀ {j : Nat}, j ∉ vs → (L2.wipe σ vs)[j]? = σ[j]? := fun {j} h => by rw [wipe_get, if_neg h]
  refine ⟨by rw [backG_len, hl]; exact R0.len, R.le, by have := R.src; rw [wipeG_c] at this; rw [backG_c]; exact this, R.prot, fun i d e => ?_, fun i d e => ?_, fun i j d e n h1 h2 => ?_, R.pnt⟩
  · rcases key e with ⟨_, d', e1, e2⟩ | ⟨h, e1⟩
    · cases e1
      obtain ⟨v, h1, h2⟩ := R0.dat i d e2
      exact ⟨v, h1, Rp.mono l _ _ h2⟩
    · rw [← oth h]; exact R.dat i d e1
  · rcases key e with ⟨_, d', e1, _⟩ | ⟨h, e1⟩
    · cases e1
    · rw [← oth h]; exact R.own i d e1
  · rcases key h1 with ⟨_, d', e1, _⟩ | ⟨a1, e1⟩
    · cases e1
    · rcases key h2 with ⟨_, d', e2, _⟩ | ⟨a2, e2⟩
      · cases e2
      · rw [← oth a1, ← oth a2]; exact R.sep i j d e n e1 e2
theorem pnt_upd {p : Addr} {o : HO} (h : ∀ p xs, P p ≠ some (.tup xs)) (no : ∀ xs, o ≠ .tup xs) : ∀ q xs, upd P p o q ≠ some (.tup xs) := fun q xs e => by
  by_cases hq : q = p
  · subst hq; rw [upd_same] at e; exact no xs (Option.some.inj e)
  · rw [upd_ne hq] at e; exact h q xs e
/-- a new object as one of the others' -/
theorem Rl.guard (R : Rl K W P G σ H) {p : Addr} {o : HO} (hp : H p = none) (no : ∀ xs, o ≠ .tup xs := by intro _ z; cases z) : P p = none ∧ W.F p = none ∧ Rl K W (upd P p o) G σ (upd H p o) := by
  have nF : W.F p = none := by
    cases e : W.F p with
    | none => rfl
    | some u => rw [R.le _ _ e] at hp; cases hp
  have nP : P p = none := by
    cases e : P p with
    | none => rfl
    | some u => rw [(R.prot _ _ e).1] at hp; cases hp
  have old : ∀ b u, H b = some u → upd H p o b = some u := fun b u e => by rw [upd_ne (ne_of_none e hp)]; exact e
  refine ⟨nP, nF, R.len, fun b u e => old b u (R.le b u e), fun a h => ?_, fun q u e => ?_, R.dat, fun i x e => ?_, R.sep, pnt_upd R.pnt no⟩
  · obtain ⟨h1, h2, x, y, z, e, h3⟩ := R.src a h
    exact ⟨h1, by rw [upd_ne (ne_of_none e hp)]; exact h2, x, y, z, old _ _ e, h3⟩
  · by_cases hq : q = p
    · subst hq; rw [upd_same] at e ⊢; exact ⟨e, nF⟩
    · rw [upd_ne hq] at e
      obtain ⟨h1, h2⟩ := R.prot q u e
      exact ⟨old _ _ h1, h2⟩
  · obtain ⟨q, u, h1, h2, h3⟩ := R.own i x e
    exact ⟨q, u, h1, ⟨old _ _ h2.at_, h2.f, h2.s, by rw [upd_ne (ne_of_none h2.at_ hp)]; exact h2.n⟩, h3⟩
theorem Rl.reguard {p : Addr} {o o' : HO} (R : Rl K W (upd P p o) G σ H) (no : ∀ xs, o' ≠ .tup xs := by intro _ z; cases z) : H p = some o ∧ Rl K W (upd P p o') G σ (upd H p o') := by
  obtain ⟨hp, nF⟩ := R.prot p o upd_same
  refine ⟨hp, R.len, fun b u e => ?_, fun a h => ?_, fun q u e => ?_, R.dat, fun i x e => ?_, R.sep, fun q xs e => ?_⟩
  · rw [upd_ne (fun z => by rw [z, nF] at e; cases e)]; exact R.le b u e
  · obtain ⟨h1, h2, x, y, z, e, h3⟩ := R.src a h
    have na : a ≠ p := fun q => by subst q; rw [upd_same] at h2; cases h2
    rw [upd_ne na] at h2
    exact ⟨h1, by rw [upd_ne na]; exact h2, x, y, z, by rw [upd_ne na]; exact e, h3⟩
  · by_cases hq : q = p
    · subst hq; rw [upd_same] at e ⊢; exact ⟨e, nF⟩
    · rw [upd_ne hq] at e ⊢
      exact R.prot q u (by rw [upd_ne hq]; exact e)
  · obtain ⟨q, u, h1, h2, h3⟩ := R.own i x e
    have nq : q ≠ p := fun z => by have := h2.n; rw [z, upd_same] at this; cases this
    refine ⟨q, u, h1, ⟨by rw [upd_ne nq]; exact h2.at_, h2.f, h2.s, ?_⟩, h3⟩
    have := h2.n
    rw [upd_ne nq] at this ⊢; exact this
  · by_cases hq : q = p
    · subst hq; rw [upd_same] at e; exact no xs (Option.some.inj e)
    · rw [upd_ne hq] at e; exact R.pnt q xs (by rw [upd_ne hq]; exact e)
theorem Rl.unguard {p : Addr} {o : HO} {d : D} (nP : P p = none) (r : RO K W p o d) (R : Rl K W (upd P p o) G σ H) : Rl K W P G σ H ∧ RV K W P G σ H (.new d) (.ref p) := by
  obtain ⟨hp, nF⟩ := R.prot p o upd_same
  have nS : ¬ W.S p := fun h => by have := (R.src p h).2.1; rw [upd_same] at this; cases this
  have sub : ∀ q, upd P p o q = none → P q = none := fun q e => by
    by_cases hq : q = p
    · subst hq; exact nP
    · rw [upd_ne hq] at e; exact e
  refine ⟨⟨R.len, R.le, fun a h => ?_, fun q u e => R.prot q u ?_, R.dat, fun i x e => ?_, R.sep, fun q xs e => R.pnt q xs (by rw [upd_ne (fun z => by rw [z, nP] at e; cases e)]; exact e)⟩, p, o, rfl, ⟨hp, nF, nS, nP⟩, r, fun i e h1 h2 => ?_⟩
  · obtain ⟨h1, h2, h3⟩ := R.src a h
    exact ⟨h1, sub a h2, h3⟩
  · rw [upd_ne (fun z => by rw [z, nP] at e; cases e)]; exact e
  · obtain ⟨q, u, h1, h2, h3⟩ := R.own i x e
    exact ⟨q, u, h1, ⟨h2.at_, h2.f, h2.s, sub q h2.n⟩, h3⟩
  · obtain ⟨q, u, h3, h4, _⟩ := R.own i e h1
    rw [h2] at h3; cases h3
    have := h4.n
    rw [upd_same] at this; cases this
/-- a clause's tests -/
def dYes : DT := fun G Q => Q true G
theorem dts_nil : PTs X [] (canT X.K dYes) := ⟨fun pins s σ H Qv I ⟨W, P, G, Q, R, t, k⟩ => pts_nil.run pins s σ H Qv I (k W true G H (.refl W) R t)⟩
theorem dts_one {c : Expr} {t : DT} (h : PT X c (canT X.K t)) : PTs X [c] (canT X.K t) := pts_one h
/-- turn by turn, the new list grown -/
def lcL (vs : List Nat) (g : DG) (tt : DT) (te : DE) (Qe : List D → Gm → Prop) : List D → List D → Gm → Prop
  | [], acc, G => Qe acc G
  | d :: r, acc, G => g (.dat d) G fun G1 => tt G1 fun b G2 => if b = true then te G2 fun sv G3 => frz G3 sv fun y G4 => lcL vs g tt te Qe r (acc ++ [y]) (wipeG vs G4) else lcL vs g tt te Qe r acc (wipeG vs G2)
def dLc (vs : List Nat) (t : DI) (g : DG) (tt : DT) (te : DE) : DE := fun G Q => t G fun ds G1 => ds.length ≤ sizeLine ∧ lcL vs g tt te (fun acc G2 => Q (.new (.lst acc)) (backG vs G1 G2)) ds [] (wipeG vs G1)
theorem sl_ext : ∀ {A B : List (Option SC)}, A.length = B.length → (∀ j, ggl A j = ggl B j) → A = B := by
  intro A
  induction A with
  | nil => intro B h _; exact (List.length_eq_zero_iff.mp h.symm).symm
  | cons x r ih =>
    intro B h f
    cases B with
    | nil => cases h
    | cons y s =>
      have : x = y := f 0
      rw [this, ih (Nat.succ.inj h) fun j => f (j + 1)]
theorem gm_ext {A B : Gm} (c : A.c = B.c) (h : A.length = B.length) (f : ∀ j, gg A j = gg B j) : A = B := by
  obtain ⟨a, n⟩ := A
  obtain ⟨b, m⟩ := B
  cases (c : n = m)
  rw [sl_ext (A := a) (B := b) h f]
theorem wipeG_wipe (vs : List Nat) (G : Gm) : wipeG vs (wipeG vs G) = wipeG vs G := by
  refine gm_ext (by rw [wipeG_c]) (by rw [wipeG_len]) fun j => ?_
  rw [gg_wipe, gg_wipe]
  by_cases h : j ∈ vs
  · rw [if_pos h, if_pos h]
  · rw [if_neg h]
/-- what a comprehension asks of the walk J -/
def LcB (g : TG) (tt : TT) (te : TE) (vs : List Nat) (σ : St) (Q : VK) (J : It) (H1 : Hp) : Prop := ∀ D, H1 D = none → ∃ W : Nat → Nat → Hp → Prop, (∃ m, W 0 m (upd H1 D (.lst []))) ∧ ∀ i m H, W i m H →
  (J.stop i H ∧ Q (.ref D) H) ∨ (J.go i H ∧ ∃ Nx : Hp → Prop, (∀ H', Nx H' → ∃ m', m' < m ∧ W (i + 1) m' H') ∧ ∀ x H', J.yld i H x H' → g x (L2.wipe σ vs) H' fun σ2 H2 => L2.wipe σ2 vs = L2.wipe σ vs ∧ tt σ2 H2 fun b H3 =>
    if b = true then te σ2 H3 fun y H4 => ∃ acc, H4 D = some (.lst acc) ∧ acc.length < sizeLine ∧ Nx (upd H4 D (.lst (acc ++ [y]))) else Nx H3)
theorem lc_J {vs : List Nat} {g : DG} {tt : DT} {te : DE} {Q : DQ} {Qv : VK} {W1 : Wd} {G1 : Gm} {H1 : Hp} {J : It} {ds : List D} (R1 : Rl K W1 P G1 σ H1) (w : Walks K W1 J ds) (hz : ds.length ≤ sizeLine)
    (q : lcL vs g tt te (fun acc G2 => Q (.new (.lst acc)) (backG vs G1 G2)) ds [] (wipeG vs G1)) (k : ∀ W' sv G' v H', W1.le W' → Rl K W' P G' σ H' → RV K W' P G' σ H' sv v → Q sv G' → Qv v H') :
    LcB (canG K vs g) (canT K tt) (can K te) vs σ Qv J H1 := by
  intro D hD
  obtain ⟨nP, nF, Rg⟩ := R1.guard (o := .lst []) hD
  have Rw := Rg.wipe vs
  refine ⟨fun i m H => ∃ W2 G2 accD accV, W1.le W2 ∧ Rl K W2 (upd P D (.lst accV)) (wipeG vs G2) (L2.wipe σ vs) H ∧ RpL K W2 accD accV ∧ accV.length ≤ i ∧ i + m = ds.length ∧
    lcL vs g tt te (fun acc G2 => Q (.new (.lst acc)) (backG vs G1 G2)) (ds.drop i) accD (wipeG vs G2), ⟨ds.length, W1, G1, [], [], .refl W1, Rw, rfl, Nat.le_refl _, by omega, q⟩, ?_⟩
  rintro i m H ⟨W2, G2, accD, accV, l2, R2, ra, hal, hm, q2⟩
  obtain ⟨w1, w2⟩ := w W2 _ _ _ H i l2 R2
  by_cases hi : i < ds.length
  · obtain ⟨hgo, hy⟩ := w1 ds[i] (List.getElem?_eq_getElem hi)
    rw [List.drop_eq_getElem_cons hi] at q2
    refine .inr ⟨hgo, fun H' => ∃ W3 G3 accD accV, W1.le W3 ∧ Rl K W3 (upd P D (.lst accV)) (wipeG vs G3) (L2.wipe σ vs) H' ∧ RpL K W3 accD accV ∧ accV.length ≤ i + 1 ∧
      lcL vs g tt te (fun acc G2 => Q (.new (.lst acc)) (backG vs G1 G2)) (ds.drop (i + 1)) accD (wipeG vs G3), fun H' ⟨W3, G3, aD, aV, l3, R3, r3, h3, q3⟩ => ⟨m - 1, by omega, W3, G3, aD, aV, l3, R3, r3, h3, by omega, q3⟩, fun x H' hx => ?_⟩
    obtain ⟨W3, l3, R3, r3⟩ := hy x H' hx
    refine ⟨W3, _, wipeG vs G2, .dat ds[i], _, R3, r3, q2, fun W4 G4 σ4 H4 l4 R4 b4 q4 => ?_⟩
    have ew : L2.wipe σ4 vs = L2.wipe σ vs := b4.of_wipe
    refine ⟨ew, W4, _, G4, _, R4, q4, fun W5 b G5 H5 l5 R5 q5 => ?_⟩
    have l45 : W1.le W5 := ((l2.trans l3).trans l4).trans l5
    cases b with
    | false =>
      rw [if_neg Bool.false_ne_true] at q5
      refine iteF ?_
      have R6 := R5.wipe vs
      rw [ew] at R6
      exact ⟨W5, G5, accD, accV, l45, R6, RpL.mono ((l3.trans l4).trans l5) _ _ ra, by omega, q5⟩
    | true =>
      rw [if_pos rfl] at q5
      refine iteT ?_
      refine ⟨W5, _, G5, _, R5, q5, fun W6 sv G6 y H6 l6 R6 r6 q6 => ?_⟩
      obtain ⟨W7, d, G7, l7, R7, r7, q7⟩ := R6.frz r6 q6
      obtain ⟨hD7, R8⟩ := R7.reguard (o' := .lst (accV ++ [y]))
      have R9 := R8.wipe vs
      rw [ew] at R9
      refine ⟨accV, hD7, by omega, W7, G7, accD ++ [d], accV ++ [y], (l45.trans l6).trans l7, R9, RpL.append (RpL.mono ((((l3.trans l4).trans l5).trans l6).trans l7) _ _ ra) ⟨y, [], rfl, r7, rfl⟩, by rw [List.length_append]; simpa using Nat.succ_le_succ hal, q7⟩
  · rw [List.drop_eq_nil_of_le (by omega)] at q2
    refine .inl ⟨w2 (by omega), ?_⟩
    obtain ⟨R4, r4⟩ := R2.unguard (o := HO.lst accV) (d := .lst accD) nP ra
    have R5 := R4.back l2 R1
    obtain ⟨p, o, e1, pr, ro, _⟩ := r4
    have hl : G2.length = G1.length := by
      have h1 := R4.len
      rw [wipeG_len, wipe_length] at h1
      exact h1.trans R1.len.symm
    have ebk : backG vs G1 (wipeG vs G2) = backG vs G1 G2 := by
      refine gm_ext (by rw [backG_c, backG_c, wipeG_c]) (by rw [backG_len, backG_len, wipeG_len]) fun j => ?_
      rw [gg_back _ _ _ _ (by rw [wipeG_len]; exact hl), gg_back _ _ _ _ hl, gg_wipe]
      by_cases h : j ∈ vs
      · rw [if_pos h, if_pos h]
      · rw [if_neg h, if_neg h, if_neg h]
    have q2 : Q (.new (.lst accD)) (backG vs G1 (wipeG vs G2)) := q2
    rw [ebk] at q2
    refine k W2 (.new (.lst accD)) _ _ H l2 R5 ⟨p, o, e1, pr, ro, fun i e h1 h2 => ?_⟩ q2
    obtain ⟨p', o', h3, h4, _⟩ := R5.own i e h1
    rw [h2] at h3; cases h3
    cases e1
    -- the new list is no slot's own: it was not there ahead of the block
    rw [gg_back _ _ _ _ hl] at h1
    by_cases hv : i ∈ vs
    · rw [if_pos hv] at h1
      cases q : gg G1 i with
      | none => rw [q] at h1; cases h1
      | some y => rw [q] at h1; cases y <;> cases h1
    · rw [if_neg hv] at h1
      obtain ⟨q, u, h5, h6, _⟩ := R2.own i e (by rw [gg_wipe, if_neg hv]; exact h1)
      rw [wipe_get, if_neg hv, h2] at h5; cases h5
      have := h6.n
      rw [upd_same] at this; cases this
theorem lc_ok {vs : List Nat} {t : DI} {g : DG} {tt : DT} {te : DE} {Qv : VK} (h : can K (dLc vs t g tt te) σ H Qv) : tLc (canI K t) (canG K vs g) (canT K tt) (can K te) vs σ H Qv := by
  obtain ⟨W, P, G, Q, R, t, k⟩ := h
  exact ⟨W, P, G, _, R, t, fun W1 ds G1 J H1 l1 R1 w ⟨hz, q⟩ => lc_J R1 w hz q fun W' sv G' v H' l => k W' sv G' v H' (l1.trans l)⟩
/-- a list comprehension, one clause -/
theorem de_lc {ifs : List Expr} {scope : Scope} {own : List (Str × Nat)} {t : DI} {g : DG} {tt : DT} {te : DE} (hN : X.N.Nodup) (hi : PI X tg iter (canI X.K t)) (ok : BlkOk X.N X.env.scope scope own)
    (hg : ∀ (s : Shared) (H : Hp) (C : Addr) (cl : List (Str × Addr)) (fp : List Addr), PG (X.blk s H scope (compEnvC scope cl C X.env) fp) tg (canG X.K (own.map (·.2)) g))
    (ht : ∀ (s : Shared) (H : Hp) (C : Addr) (cl : List (Str × Addr)) (fp : List Addr), PTs (X.blk s H scope (compEnvC scope cl C X.env) fp) ifs (canT X.K tt))
    (he : ∀ (s : Shared) (H : Hp) (C : Addr) (cl : List (Str × Addr)) (fp : List Addr), PE (X.blk s H scope (compEnvC scope cl C X.env) fp) elt (can X.K te)) (hc : X.calm = true := by rfl) (hs : ∀ x, foldedSetIterable iter X.env x = pure x := by intro _; rfl) :
    PE X (.ListComp elt [⟨tg, iter, ifs, 0⟩] scope pos) (can X.K (dLc (own.map (·.2)) t g tt te)) := PE.imp (pe_lc hc hN hi ok hg ht he hs) fun _ _ _ => lc_ok
/-- name = [..] on one line -/
theorem ds_setLc {y : Str} {py spos : Pos} (i : Nat) {ifs : List Expr} {scope : Scope} {own : List (Str × Nat)} {t : DI} {g : DG} {tt : DT} {te : DE} (hN : X.N.Nodup) (hi : PI X tg iter (canI X.K t)) (ok : BlkOk X.N X.env.scope scope own)
    (hg : ∀ (s : Shared) (H : Hp) (C : Addr) (cl : List (Str × Addr)) (fp : List Addr), PG (X.blk s H scope (compEnvC scope cl C X.env) fp) tg (canG X.K (own.map (·.2)) g))
    (ht : ∀ (s : Shared) (H : Hp) (C : Addr) (cl : List (Str × Addr)) (fp : List Addr), PTs (X.blk s H scope (compEnvC scope cl C X.env) fp) ifs (canT X.K tt))
    (he : ∀ (s : Shared) (H : Hp) (C : Addr) (cl : List (Str × Addr)) (fp : List Addr), PE (X.blk s H scope (compEnvC scope cl C X.env) fp) elt (can X.K te))
    (hsw : swapsWith (.ListComp elt [⟨tg, iter, ifs, 0⟩] scope pos) (some (.Name y py)) spos.line X.env = pure true) (hy : X.N[i]? = some y := by rfl) (hyl : X.env.scope.names.lookup y = some .local := by rfl) (hc : X.calm = true := by rfl) (hs : ∀ x, foldedSetIterable iter X.env x = pure x := by intro _; rfl) :
    PS X (.Assign [.Name y py] (.ListComp elt [⟨tg, iter, ifs, 0⟩] scope pos) spos) (canS X.K (dAsg (dLc (own.map (·.2)) t g tt te) (dgName i))) := by
  refine PS.imp (ps_setLc hc hN hy hyl hsw hi ok hg ht he hs) fun D σ H h => ?_
  obtain ⟨W, P, G, Q, R, t, k⟩ := asg_ok (ws := [i]) h
  have hh : can X.K (dLc (own.map (·.2)) _ g tt te) σ H fun v H1 => D.nx (σ.set i (some v)) H1 := ⟨W, P, G, Q, R, t, fun W1 sv G1 v H1 l1 R1 r1 q => by
    obtain ⟨W2, P2, G2, sv2, Q2, R2, r2, t2, k2⟩ := k W1 sv G1 v H1 l1 R1 r1 q
    obtain ⟨W', c, G', l, R', q⟩ := R2.rest (i := i) r2 t2
    exact k2 W' _ _ H1 l R' (But.set (by simp) _) q⟩
  exact lc_ok hh
end

/-! ### built-in functions -/
def canB (K : PySem.W.Frag) (t : D1) : List V → Hp → VK → Prop := fun vs H Qv => ∃ W P G σ v d Q, vs = [v] ∧ Rl K W P G σ H ∧ RN K W H d v ∧ t d Q ∧ Rs K W P G σ Q Qv
def canC (K : PySem.W.Frag) (t : List D → (SV → Prop) → Prop) : List V → Hp → VK → Prop := fun vs H Qv => ∃ W P G σ ds Q, Rl K W P G σ H ∧ RpL K W ds vs ∧ t ds Q ∧ Rs K W P G σ Q Qv
section
variable {X : Cx} {K : PySem.W.Frag} {W : Wd} {P : Hp} {G : Gm} {σ : St} {H : Hp} {e : Expr} {es : List Expr} {pos p : Pos} {x : Str} {id T : String}
theorem b1_ok {t : D1} {ta : DE} {Qv : VK} (h : can K (dUn t ta) σ H Qv) : tCB (canB K t) (tCons (can K ta) tNil) σ H Qv := by
  obtain ⟨W, P, G, Q, R, t, k⟩ := h
  refine can_one R t fun W1 G1 sa v H1 l R1 s1 q => ?_
  obtain ⟨d, n, q⟩ := R1.see s1 q
  exact ⟨W1, P, G1, σ, v, d, fun r => Q r G1, rfl, R1, n, q, fun W3 sv u H3 l3 R3 r3 q3 => k W3 sv G1 u H3 (l.trans l3) R3 r3 q3⟩
theorem de_b1 {t : D1} {ta : DE} (hc : CallR X (.builtin id) (canB X.K t)) (hm : X.mg x = none) (hv : bootBuiltins x = some (.builtin id)) (he : PE X e (can X.K ta)) (hg : Gl X x := by rfl) (hn : x ≠ "__name__" := by decide) (hdb : (x == ("__debug__" : Str)) = false := by decide)
    (hs : starEach (e :: []) X.env = (false, eval e X.env) :: starEach [] X.env := by rfl) (hpl : (backTo pos (starEach [] X.env)).any (·.1) = false := by rfl) : PE X (.Call (.Name x p) [e] [] pos) (can X.K (dUn t ta)) :=
  PE.imp (pe_callB hc hg hm hv (pa_cons he pa_nil hs) hn hdb hs hpl) fun _ _ _ => b1_ok
theorem de_t1 {t : D1} {ta : DE} (hc : CallR X (.type T) (canB X.K t)) (hm : X.mg x = none) (hv : bootBuiltins x = some (.type T)) (he : PE X e (can X.K ta)) (hg : Gl X x := by rfl) (hn : x ≠ "__name__" := by decide) (hdb : (x == ("__debug__" : Str)) = false := by decide)
    (hs : starEach (e :: []) X.env = (false, eval e X.env) :: starEach [] X.env := by rfl) (hpl : (backTo pos (starEach [] X.env)).any (·.1) = false := by rfl) : PE X (.Call (.Name x p) [e] [] pos) (can X.K (dUn t ta)) :=
  PE.imp (pe_callTy hc hg hm hv (pa_cons he pa_nil hs) hn hdb hs hpl) fun _ _ _ => b1_ok
def dBn (t : List D → (SV → Prop) → Prop) (ta : DA) : DE := fun G Q => ta G fun ds G1 => t ds fun r => Q r G1
theorem bn_ok {t : List D → (SV → Prop) → Prop} {ta : DA} {Qv : VK} (h : can K (dBn t ta) σ H Qv) : tCB (canC K t) (canA K ta) σ H Qv := by
  obtain ⟨W, P, G, Q, R, t, k⟩ := h
  exact ⟨W, P, G, _, R, t, fun W1 ds G1 vs H1 l1 R1 r1 q => ⟨W1, P, G1, σ, ds, fun r => Q r G1, R1, r1, q, fun W3 sv u H3 l3 R3 r3 q3 => k W3 sv G1 u H3 (l1.trans l3) R3 r3 q3⟩⟩
theorem de_bn {t : List D → (SV → Prop) → Prop} {ta : DA} (hc : CallR X (.builtin id) (canC X.K t)) (hm : X.mg x = none) (hv : bootBuiltins x = some (.builtin id)) (ha : PA X (e :: es) (canA X.K ta)) (hg : Gl X x := by rfl) (hn : x ≠ "__name__" := by decide) (hdb : (x == ("__debug__" : Str)) = false := by decide)
    (hs : starEach (e :: es) X.env = (false, eval e X.env) :: starEach es X.env := by rfl) (hpl : (backTo pos (starEach es X.env)).any (·.1) = false := by rfl) : PE X (.Call (.Name x p) (e :: es) [] pos) (can X.K (dBn t ta)) :=
  PE.imp (pe_callB hc hg hm hv ha hn hdb hs hpl) fun _ _ _ => bn_ok
/-! one by one -/
def dAbs : D1
  | .int i, Q => Q (.dat (.int (if i < 0 then -i else i)))
  | _, _ => False
theorem cd_abs : CallR X (.builtin "abs") (canB X.K dAbs) := by
  refine CallR.imp (call_abs (X := X)) ?_
  rintro vs H Qv ⟨W, P, G, σ, v, d, Q, rfl, R, n, t, r⟩
  cases d <;> first | exact False.elim t | skip
  obtain rfl : v = .int _ := n
  exact ⟨_, rfl, r.int R t⟩
theorem RpT.length {K : PySem.W.Frag} {W : Wd} : ∀ {a : List (List Key × D)} {x : List (List Key × V)}, RpT K W a x → x.length = a.length
  | [], _, h => by rw [show _ = [] from h]; rfl
  | (_, _) :: ds, _, h => by obtain ⟨v, r, rfl, _, t⟩ := h; exact congrArg Nat.succ (RpT.length t)
theorem RpK.length {K : PySem.W.Frag} {W : Wd} : ∀ {a : List (Key × D)} {x : List (Key × V)}, RpK K W a x → x.length = a.length
  | [], _, h => by rw [show _ = [] from h]; rfl
  | (_, _) :: ds, _, h => by obtain ⟨v, r, rfl, _, t⟩ := h; exact congrArg Nat.succ (RpK.length t)
theorem call_lenDd : CallR X (.builtin "len") (fun xs H Q => ∃ p : Addr, xs = [.ref p] ∧ ((∃ kvs : List (List Key × V), Rd H p (.dT kvs) ∧ Q (.int ((kvs.length : Nat) : Int)) H) ∨ ∃ kvs : List (Key × V), Rd H p (.dK kvs) ∧ Q (.int ((kvs.length : Nat) : Int)) H)) := by
  intro pins s σ H xs us Q I r h
  obtain ⟨p, rfl, h⟩ := h
  rw [Vals.ref1 r]
  rcases h with ⟨kvs, e, q⟩ | ⟨kvs, e, q⟩
  · obtain ⟨z, hd, ys, rel, dd⟩ := dt_rd I.hok e
    have hl : kvs.length = ys.length := Paired.length rel
    refine call_len_dictH hd dd (by rw [← hl]; rw [sizeLine_eq] at z; omega) ?_
    rw [← hl]
    exact ⟨.int ((kvs.length : Nat) : Int), H, I.tok _, ⟨_, rfl⟩, q⟩
  · exact d_len I e fun t s' I' => ⟨.int ((kvs.length : Nat) : Int), H, I', ⟨t, rfl⟩, q⟩
def dLen : D1
  | .lst ds, Q => Q (.dat (.int ds.length))
  | .tup ds, Q => Q (.dat (.int ds.length))
  | .scr ns, Q => Q (.dat (.int ns.length))
  | .str z, Q => z.length ≤ sizeLine ∧ Q (.dat (.int z.length))
  | .dT es, Q => Q (.dat (.int es.length))
  | .dK es, Q => Q (.dat (.int es.length))
  | _, _ => False
theorem cd_len : CallR X (.builtin "len") (canB X.K dLen) := by
  refine CallR.imp (CallR.or (CallR.or (call_len_seq (X := X)) call_len_str) call_lenDd) ?_
  rintro vs H Qv ⟨W, P, G, σ, v, d, Q, rfl, R, n, t, r⟩
  cases d <;> first | exact False.elim t | skip
  · obtain rfl : v = .str _ := n
    exact .inl (.inr ⟨_, rfl, t.1, r.int R t.2⟩)
  · obtain ⟨p, rfl, s⟩ := n
    exact .inl (.inl ⟨p, _, rfl, .inl s, by rw [List.length_map]; exact r.int R t⟩)
  · obtain ⟨p, xs, rfl, s, q⟩ := n
    exact .inl (.inl ⟨p, xs, rfl, .inr (.of s), by rw [q.length]; exact r.int R t⟩)
  · obtain ⟨p, xs, rfl, s, q⟩ := n
    exact .inl (.inl ⟨p, xs, rfl, .inl (.of s), by rw [q.length]; exact r.int R t⟩)
  · obtain ⟨p, kvs, rfl, s, q⟩ := n
    exact .inr ⟨p, rfl, .inl ⟨kvs, s, by rw [q.length]; exact r.int R t⟩⟩
  · obtain ⟨p, kvs, rfl, s, q⟩ := n
    exact .inr ⟨p, rfl, .inr ⟨kvs, s, by rw [q.length]; exact r.int R t⟩⟩
def dInt : D1
  | .int i, Q => Q (.dat (.int i))
  | .bl b, Q => Q (.dat (.int (if b then 1 else 0)))
  | _, _ => False
theorem cd_int : CallR X (.type "int") (canB X.K dInt) := by
  refine CallR.imp (call_int1 (X := X)) ?_
  rintro vs H Qv ⟨W, P, G, σ, v, d, Q, rfl, R, n, t, r⟩
  cases d <;> first | exact False.elim t | skip
  · obtain rfl : v = .bl _ := n
    exact .inr ⟨_, rfl, r.int R t⟩
  · obtain rfl : v = .int _ := n
    exact .inl ⟨_, rfl, r.int R t⟩
def intsOf : List D → Option (List Int)
  | [] => some []
  | .int i :: r => match intsOf r with | some ns => some (i :: ns) | none => none
  | _ :: _ => none
theorem intsOf_eq : ∀ {ds : List D} {ns : List Int}, intsOf ds = some ns → ds = ns.map D.int
  | [], _, h => by cases h; rfl
  | d :: ds, ns, h => by
    cases d <;> first | (cases h; done) | skip
    rename_i i
    have h : (match intsOf ds with | some ns => some (i :: ns) | none => none) = some ns := h
    cases e : intsOf ds with
    | none => rw [e] at h; cases h
    | some ms =>
      rw [e] at h; cases h
      rw [intsOf_eq e]; rfl
theorem intsOf_map : ∀ ns : List Int, intsOf (ns.map D.int) = some ns
  | [] => rfl
  | n :: ns => by show (match intsOf (ns.map D.int) with | some ns => some (n :: ns) | none => none) = _; rw [intsOf_map ns]
theorem intsOf_fn {α : Type} (f : α → Int) (xs : List α) : intsOf (xs.map fun x => D.int (f x)) = some (xs.map f) := by
  rw [← intsOf_map (xs.map f), List.map_map]; rfl
/-- the ints of a list -/
def ofInts (d : D) (k : List Int → Prop) : Prop := match d with
  | .lst ds => match intsOf ds with | some ns => k ns | none => False
  | .scr ns => k ns
  | _ => False
theorem ofInts_ok {d : D} {v : V} {k : List Int → Prop} (n : RN K W H d v) (t : ofInts d k) : ∃ p ns, v = .ref p ∧ SqL K H p (ns.map V.int) ∧ k ns := by
  cases d <;> first | exact False.elim t | skip
  · obtain ⟨p, rfl, s⟩ := n
    exact ⟨p, _, rfl, s, t⟩
  · rename_i ds
    obtain ⟨p, xs, rfl, s, q⟩ := n
    have t : (match intsOf ds with | some ns => k ns | none => False) := t
    cases e : intsOf ds with
    | none => rw [e] at t; exact t.elim
    | some ns =>
      rw [e] at t
      rw [intsOf_eq e] at q
      rw [RpL.ints q] at s
      exact ⟨p, ns, rfl, .of s, t⟩
def dSum : D1 := fun d Q => ofInts d fun ns => Q (.dat (.int ns.sum))
theorem cd_sum (hc : X.calm = true) : CallR X (.builtin "sum") (canB X.K dSum) := by
  refine CallR.imp (cr_sum hc) ?_
  rintro vs H Qv ⟨W, P, G, σ, v, d, Q, rfl, R, n, t, r⟩
  obtain ⟨p, ns, rfl, s, q⟩ := ofInts_ok n t
  exact ⟨p, ns, rfl, s, r.int R q⟩
def dMaxL : D1 := fun d Q => ofInts d fun ns => 0 < ns.length ∧ ∀ m, m ∈ ns → (∀ y, y ∈ ns → y ≤ m) → Q (.dat (.int m))
def dMinL : D1 := fun d Q => ofInts d fun ns => 0 < ns.length ∧ ∀ m, m ∈ ns → (∀ y, y ∈ ns → m ≤ y) → Q (.dat (.int m))
theorem cd_maxL (hc : X.calm = true) : CallR X (.builtin "max") (canB X.K dMaxL) := by
  refine CallR.imp (cr_max hc) ?_
  rintro vs H Qv ⟨W, P, G, σ, v, d, Q, rfl, R, n, t, r⟩
  obtain ⟨p, ns, rfl, s, h, q⟩ := ofInts_ok n t
  exact ⟨p, ns, rfl, s, h, fun m h1 h2 => r.int R (q m h1 h2)⟩
theorem cd_minL (hc : X.calm = true) : CallR X (.builtin "min") (canB X.K dMinL) := by
  refine CallR.imp (cr_min hc) ?_
  rintro vs H Qv ⟨W, P, G, σ, v, d, Q, rfl, R, n, t, r⟩
  obtain ⟨p, ns, rfl, s, h, q⟩ := ofInts_ok n t
  exact ⟨p, ns, rfl, s, h, fun m h1 h2 => r.int R (q m h1 h2)⟩
def blsOf : List D → Option (List Bool)
  | [] => some []
  | .bl i :: r => match blsOf r with | some ns => some (i :: ns) | none => none
  | _ :: _ => none
theorem blsOf_eq : ∀ {ds : List D} {ns : List Bool}, blsOf ds = some ns → ds = ns.map D.bl
  | [], _, h => by cases h; rfl
  | d :: ds, ns, h => by
    cases d <;> first | (cases h; done) | skip
    rename_i i
    have h : (match blsOf ds with | some ns => some (i :: ns) | none => none) = some ns := h
    cases e : blsOf ds with
    | none => rw [e] at h; cases h
    | some ms =>
      rw [e] at h; cases h
      rw [blsOf_eq e]; rfl
theorem blsOf_map : ∀ ns : List Bool, blsOf (ns.map D.bl) = some ns
  | [] => rfl
  | n :: ns => by show (match blsOf (ns.map D.bl) with | some ns => some (n :: ns) | none => none) = _; rw [blsOf_map ns]
theorem blsOf_fn {α : Type} (f : α → Bool) (xs : List α) : blsOf (xs.map fun x => D.bl (f x)) = some (xs.map f) := by
  rw [← blsOf_map (xs.map f), List.map_map]; rfl
def ofBls (d : D) (k : List Bool → Prop) : Prop := match d with
  | .lst ds => match blsOf ds with | some ns => k ns | none => False
  | _ => False
theorem ofBls_ok {d : D} {v : V} {k : List Bool → Prop} (n : RN K W H d v) (t : ofBls d k) : ∃ p ns, v = .ref p ∧ SqL K H p (ns.map V.bl) ∧ k ns := by
  cases d <;> first | exact False.elim t | skip
  rename_i ds
  obtain ⟨p, xs, rfl, s, q⟩ := n
  have t : (match blsOf ds with | some ns => k ns | none => False) := t
  cases e : blsOf ds with
  | none => rw [e] at t; exact t.elim
  | some ns =>
    rw [e] at t
    rw [blsOf_eq e] at q
    rw [RpL.bls q] at s
    exact ⟨p, ns, rfl, .of s, t⟩
def dAll : D1 := fun d Q => ofBls d fun ns => Q (.dat (.bl (ns.all fun b => b)))
def dAny : D1 := fun d Q => ofBls d fun ns => Q (.dat (.bl (ns.any fun b => b)))
theorem cd_all (hc : X.calm = true) : CallR X (.builtin "all") (canB X.K dAll) := by
  refine CallR.imp (cr_all hc) ?_
  rintro vs H Qv ⟨W, P, G, σ, v, d, Q, rfl, R, n, t, r⟩
  obtain ⟨p, ns, rfl, s, q⟩ := ofBls_ok n t
  exact ⟨p, ns, rfl, s, r.bl R q⟩
theorem cd_any (hc : X.calm = true) : CallR X (.builtin "any") (canB X.K dAny) := by
  refine CallR.imp (cr_any hc) ?_
  rintro vs H Qv ⟨W, P, G, σ, v, d, Q, rfl, R, n, t, r⟩
  obtain ⟨p, ns, rfl, s, q⟩ := ofBls_ok n t
  exact ⟨p, ns, rfl, s, r.bl R q⟩
def dList : D1
  | .lst ds, Q => Q (.new (.lst ds))
  | .tup ds, Q => Q (.new (.lst ds))
  | .scr ns, Q => Q (.new (.lst (ns.map D.int)))
  | _, _ => False
theorem cd_list : CallR X (.type "list") (canB X.K dList) := by
  refine CallR.imp (call_list_of (X := X)) ?_
  rintro vs H Qv ⟨W, P, G, σ, v, d, Q, rfl, R, n, t, r⟩
  cases d <;> first | exact False.elim t | skip
  · obtain ⟨p, rfl, s⟩ := n
    exact ⟨p, _, rfl, .inl s, fun l hl => r.new R hl (o := .lst _) (d := .lst _) (RpL.ofInts _) t⟩
  · obtain ⟨p, xs, rfl, s, q⟩ := n
    exact ⟨p, _, rfl, .inr (.of s), fun l hl => r.new R hl (o := .lst _) (d := .lst _) q t⟩
  · obtain ⟨p, xs, rfl, s, q⟩ := n
    exact ⟨p, _, rfl, .inl (.of s), fun l hl => r.new R hl (o := .lst _) (d := .lst _) q t⟩
def dTuple : D1
  | .lst ds, Q => Q (.dat (.tup ds))
  | _, _ => False
theorem cd_tuple : CallR X (.type "tuple") (canB X.K dTuple) := by
  refine CallR.imp (call_tuple_of (X := X)) ?_
  rintro vs H Qv ⟨W, P, G, σ, v, d, Q, rfl, R, n, t, r⟩
  cases d <;> first | exact False.elim t | skip
  obtain ⟨p, xs, rfl, s, q⟩ := n
  exact ⟨p, _, rfl, .inl ⟨.of s, fun l hl => r.newT R hl q t⟩⟩
/-- repr: the text that data show -/
def shownD (d : D) : Str := (toPy d).shown
def dRepr : D1 := fun d Q => Pd 20 d ∧ (toPy d).showable = true ∧ (shownD d).length ≤ sizeLine ∧ Q (.dat (.str (shownD d)))
/-- what a text of a value needs: all that it reads, none of it read within itself -/
def Txts (X : Cx) (s : Shared) (u : Value) (p : PyData) : Prop := ∃ as bs, Reads s.heap u p as ∧ ReadAtMost s.heap p.depth bs ∧ ReprK X.prog X.w bs s.heap p.depth u p.shown
def TxtsAll (X : Cx) (s : Shared) (us : List Value) (ps : List PyData) : Prop := ∃ as bs, ReadsAll s.heap us ps as ∧ ReadAtMost s.heap (PyData.depthAll ps) bs ∧ ReprAllK X.prog X.w bs s.heap (PyData.depthAll ps) us (PyData.shownAll ps)
section
variable {pins : List (Addr × Obj)} {s : Shared} {σ' : St}
theorem txts_all {n : Nat} (I : Inv X pins σ' H s) (one : ∀ {d : D} {v : V} {u : Value}, Pd n d → Rp X.K ⟨H, W.S⟩ d v → RelV v u → (toPy d).showable = true → (toPy d).shown.length ≤ sizeLine → Txts X s u (toPy d)) :
    ∀ {ds : List D} {xs : List V} {us : List Value}, (∀ d ∈ ds, Pd n d) → RpL X.K ⟨H, W.S⟩ ds xs → Vals xs us → PyData.showableAll (toPys ds) = true → (∀ t ∈ PyData.shownAll (toPys ds), t.length ≤ sizeLine) → TxtsAll X s us (toPys ds)
  | [], _, us, _, h, r, _, _ => by
    obtain rfl : _ = [] := h
    cases r
    exact ⟨[], [], .nil, fun _ z => (by cases z), .nil⟩
  | d :: ds, _, us, hp, h, r, hs, hl => by
    obtain ⟨v, xs, rfl, h1, h2⟩ := h
    cases r with
    | cons r1 r2 =>
      simp only [toPys, PyData.showableAll, Bool.and_eq_true] at hs
      simp only [toPys, PyData.shownAll, List.mem_cons, forall_eq_or_imp] at hl
      obtain ⟨as1, bs1, q1, q2, q3⟩ := one (hp d List.mem_cons_self) h1 r1 hs.1 hl.1
      obtain ⟨as2, bs2, p1, p2, p3⟩ := txts_all I one (fun x hx => hp x (List.mem_cons_of_mem _ hx)) h2 r2 hs.2 hl.2
      have w1 : (toPy d).depth ≤ PyData.depthAll (toPys (d :: ds)) := by simp only [toPys, PyData.depthAll]; omega
      have w2 : PyData.depthAll (toPys ds) ≤ PyData.depthAll (toPys (d :: ds)) := by simp only [toPys, PyData.depthAll]; omega
      refine ⟨_, bs1 ++ bs2, ReadsAll.cons q1 p1, (q2.mono w1).append (p2.mono w2), ?_⟩
      exact ReprAllK.cons ((q3.more fun b z => List.mem_append.mpr (.inl z)).level_le w1) (p3.more_le (fun b z => List.mem_append.mpr (.inr z)) w2)
theorem key_txts (I : Inv X pins σ' H s) {k : Key} {u : Value} (h : keyIs k u = true) (hs : (keyPy k).showable = true) (hl : (keyPy k).shown.length ≤ sizeLine) : Txts X s u (keyPy k) := by
  rcases keyIs_shape h with ⟨i, t, rfl, rfl⟩ | ⟨x, t, rfl, rfl⟩
  · refine ⟨_, [], Reads.int i t, fun _ z => (by cases z), ?_⟩
    unfold keyPy; simp only [PyData.shown]
    exact ReprK.of_is (ReprIs.int t (by simpa [keyPy, PyData.showable] using hs)) _ _ _
  · refine ⟨_, [], Reads.str x t, fun _ z => (by cases z), ?_⟩
    unfold keyPy; simp only [PyData.shown]
    exact ReprK.of_is (ReprIs.str x t (by simpa only [keyPy, PyData.shown] using hl)) _ _ _
/-- the keys and the values of a dict's entries -/
theorem pairs_txts {n : Nat} (I : Inv X pins σ' H s) (one : ∀ {d : D} {v : V} {u : Value}, Pd n d → Rp X.K ⟨H, W.S⟩ d v → RelV v u → (toPy d).showable = true → (toPy d).shown.length ≤ sizeLine → Txts X s u (toPy d)) :
    ∀ {es : List (Key × D)} {kvs : List (Key × V)} {vs : List (Key × Value)} {en : List DictEntry}, (∀ e ∈ es, Pd n e.2) → RpK X.K ⟨H, W.S⟩ es kvs → KV kvs vs → Pairs (mixKind X.prog X.w) en vs → PyData.showableKv (toKv es) = true → (∀ t ∈ PyData.shownKv (toKv es), t.length ≤ sizeLine) →
      TxtsAll X s (en.map (·.key)) ((toKv es).map (·.1)) ∧ TxtsAll X s (en.map (·.val)) ((toKv es).map (·.2))
  | [], _, _, _, _, h, r, p, _, _ => by
    obtain rfl : _ = [] := h
    cases r
    cases p
    exact ⟨⟨[], [], .nil, fun _ z => (by cases z), .nil⟩, ⟨[], [], .nil, fun _ z => (by cases z), .nil⟩⟩
  | (k, d) :: es, _, _, _, hp, h, r, p, hs, hl => by
    obtain ⟨v, xs, rfl, h1, h2⟩ := h
    cases r with
    | cons r1 r2 =>
      cases p with
      | cons p1 p2 p3 =>
        rename_i q en e vs
        obtain ⟨e1, e2⟩ := r1
        rw [toKv_cons] at hs hl ⊢
        simp only [PyData.showableKv, Bool.and_eq_true] at hs
        simp only [PyData.shownKv, List.mem_cons, forall_eq_or_imp] at hl
        have l1 : (keyPy k).shown.length ≤ sizeLine := by have := hl.1; rw [strLen_append, strLen_append] at this; omega
        have l2 : (toPy d).shown.length ≤ sizeLine := by have := hl.1; rw [strLen_append, strLen_append] at this; omega
        obtain ⟨t1, t2⟩ := pairs_txts I one (fun x hx => hp x (List.mem_cons_of_mem _ hx)) h2 r2 p3 hs.2 hl.2
        have e1 : k = q.1 := e1
        have a1 : Txts X s e.key (keyPy k) := key_txts I (by rw [e1]; exact p1) hs.1.1 l1
        have a2 : Txts X s e.val (toPy d) := one (hp (k, d) List.mem_cons_self) h1 (by rw [p2]; exact e2) hs.1.2 l2
        have glue : ∀ {u : Value} {us : List Value} {p : PyData} {ps : List PyData}, Txts X s u p → TxtsAll X s us ps → TxtsAll X s (u :: us) (p :: ps) := fun {u us p ps} ⟨as1, bs1, q1, q2, q3⟩ ⟨as2, bs2, g1, g2, g3⟩ => by
          have w1 : p.depth ≤ PyData.depthAll (p :: ps) := by simp only [PyData.depthAll]; omega
          have w2 : PyData.depthAll ps ≤ PyData.depthAll (p :: ps) := by simp only [PyData.depthAll]; omega
          refine ⟨_, bs1 ++ bs2, ReadsAll.cons q1 g1, (q2.mono w1).append (g2.mono w2), ?_⟩
          exact ReprAllK.cons ((q3.more fun b z => List.mem_append.mpr (.inl z)).level_le w1) (g3.more_le (fun b z => List.mem_append.mpr (.inr z)) w2)
        exact ⟨glue a1 t1, glue a2 t2⟩
/-- all a text's making asks, of a list, a tuple, a dict: by their kinds -/
theorem txts_of (I : Inv X pins σ' H s) : ∀ (n : Nat) {d : D} {v : V} {u : Value}, Pd n d → Rp X.K ⟨H, W.S⟩ d v → RelV v u → (toPy d).showable = true → (toPy d).shown.length ≤ sizeLine → Txts X s u (toPy d) := by
  have base : ∀ {d : D} {v : V} {u : Value}, Pd 0 d → Rp X.K ⟨H, W.S⟩ d v → RelV v u → (toPy d).showable = true → (toPy d).shown.length ≤ sizeLine → Txts X s u (toPy d) := fun {d v u} hp h r hs hl => by
    cases d <;> first | exact False.elim hp | skip
    · obtain rfl : v = .non := h
      cases r
      exact ⟨_, [], Reads.none, fun _ z => (by cases z), by simp only [toPy, PyData.shown]; exact ReprK.of_is ReprIs.none _ _ _⟩
    · rename_i b
      obtain rfl : v = .bl b := h
      cases r
      exact ⟨_, [], Reads.bool b, fun _ z => (by cases z), by simp only [toPy, PyData.shown]; exact ReprK.of_is (ReprIs.bool b) _ _ _⟩
    · rename_i i
      obtain rfl : v = .int i := h
      obtain ⟨t, rfl⟩ := r
      exact ⟨_, [], Reads.int i t, fun _ z => (by cases z), by simp only [toPy, PyData.shown]; exact ReprK.of_is (ReprIs.int t (by simpa [toPy, PyData.showable] using hs)) _ _ _⟩
    · rename_i x
      obtain rfl : v = .str x := h
      obtain ⟨t, rfl⟩ := r
      exact ⟨_, [], Reads.str x t, fun _ z => (by cases z), by simp only [toPy, PyData.shown]; exact ReprK.of_is (ReprIs.str x t (by simpa only [toPy, PyData.shown] using hl)) _ _ _⟩
  intro n
  induction n with
  | zero => exact fun hp h r hs hl => base hp h r hs hl
  | succ n ih =>
    intro d v u hp h r hs hl
    cases d with
    | tup ds =>
      obtain ⟨a, xs, rfl, e, rl⟩ := h
      cases r
      obtain ⟨its, rv, ⟨o, ho, hc, m, hd⟩, _⟩ := I.tuple (.of e)
      simp only [toPy, PyData.showable] at hs
      simp only [toPy, PyData.shown] at hl
      obtain ⟨as, bs, q1, q2, q3⟩ := txts_all I (fun a b c d e => ih a b c d e) hp rl rv hs fun t ht => Nat.le_trans (tupleText_mem_le ht) hl
      have rd : Reads s.heap (.ref a) (.tuple (toPys ds)) as := Reads.tuple ho hc hd q1
      have na : a ∉ bs := not_mem_of_deeper rd (by simp only [PyData.depth]; omega) q2
      refine ⟨as, a :: bs, by simp only [toPy]; exact rd, by simp only [toPy]; exact ReadAtMost.cons rd (by simp only [PyData.depth]; omega) q2, ?_⟩
      simp only [toPy, PyData.depth, PyData.shown]
      exact ReprK.tuple ho hc hd na q3
    | lst ds =>
      obtain ⟨a, xs, rfl, e, rl⟩ := h
      cases r
      obtain ⟨its, rv, ⟨o, m, ho, hc, _, hd⟩, _⟩ := I.list (.of e)
      simp only [toPy, PyData.showable] at hs
      simp only [toPy, PyData.shown] at hl
      obtain ⟨as, bs, q1, q2, q3⟩ := txts_all I (fun a b c d e => ih a b c d e) hp rl rv hs fun t ht => Nat.le_trans (listText_mem_le ht) hl
      have rd : Reads s.heap (.ref a) (.list (toPys ds)) (a :: as) := Reads.list ho hc hd q1
      have na : a ∉ bs := not_mem_of_deeper rd (by simp only [PyData.depth]; omega) q2
      refine ⟨a :: as, a :: bs, by simp only [toPy]; exact rd, by simp only [toPy]; exact ReadAtMost.cons rd (by simp only [PyData.depth]; omega) q2, ?_⟩
      simp only [toPy, PyData.depth, PyData.shown]
      cases its with
      | nil =>
        have hn : toPys ds = [] := by
          have := q3.length_eq
          cases z : toPys ds with
          | nil => rfl
          | cons p ps => rw [z] at this; simp [PyData.shownAll] at this
        rw [hn]
        simp only [PyData.shownAll, listText_nil]
        exact ReprK.listEmpty ho hc hd
      | cons x l => exact ReprK.list ho hc hd na (by simpa using q3.length_eq) fun i y ey => q3.item i y (by simpa using ey)
    | dK es =>
      obtain ⟨a, kvs, rfl, e, rk⟩ := h
      cases r
      obtain ⟨_, hsy, vs, kv, o, en, ep, ho, ⟨hc, _, _⟩, hd, _, pr, _⟩ := dk_rd I.hok e
      simp only [toPy, PyData.showable] at hs
      simp only [toPy, PyData.shown] at hl
      obtain ⟨⟨as1, bs1, q1, q2, q3⟩, ⟨as2, bs2, p1, p2, p3⟩⟩ := pairs_txts I (fun a b c d e => ih a b c d e) hp rk kv pr hs fun t ht => Nat.le_trans (dictText_mem_le ht) hl
      have rd : Reads s.heap (.ref a) (.dict (toKv es)) (a :: as1 ++ as2) := Reads.dict ho hc hd q1 p1
      have w1 := PyData.depthAll_keys_le (toKv es)
      have w2 := PyData.depthAll_vals_le (toKv es)
      have low := (q2.mono w1).append (p2.mono w2)
      have na : a ∉ bs1 ++ bs2 := not_mem_of_deeper rd (by simp only [PyData.depth]; omega) low
      refine ⟨_, a :: (bs1 ++ bs2), by simp only [toPy]; exact rd, by simp only [toPy]; exact ReadAtMost.cons rd (by simp only [PyData.depth]; omega) low, ?_⟩
      simp only [toPy, PyData.depth, PyData.shown, PyData.shownKv_eq]
      refine ReprK.dict ho hc hd hsy na (ReprEntriesK.of_two en.toList _ _ (q3.more_le (fun b z => List.mem_append.mpr (.inl z)) w1) (p3.more_le (fun b z => List.mem_append.mpr (.inr z)) w2))
    | _ => first | exact False.elim hp | exact base hp h r hs hl
end
theorem PD_depth {n : Nat} : ∀ {d : D}, Pd n d → (toPy d).depth ≤ n + 1 := by
  have al : ∀ {m : Nat} {ps : List PyData}, (∀ p ∈ ps, p.depth ≤ m) → PyData.depthAll ps ≤ m := fun {m ps} h => by
    induction ps with
    | nil => simp [PyData.depthAll]
    | cons p ps ih =>
      have h1 := h p List.mem_cons_self
      have h2 := ih fun x hx => h x (List.mem_cons_of_mem _ hx)
      simp only [PyData.depthAll]; omega
  have kv : ∀ {m : Nat} {es : List (Key × D)}, (∀ e ∈ es, (toPy e.2).depth ≤ m + 1) → PyData.depthKv (toKv es) ≤ m + 1 := fun {m es} h => by
    induction es with
    | nil => simp [toKv, PyData.depthKv]
    | cons e es ih =>
      obtain ⟨k, d⟩ := e
      have h1 := h (k, d) List.mem_cons_self
      have h2 := ih fun x hx => h x (List.mem_cons_of_mem _ hx)
      have h3 : (keyPy k).depth ≤ m + 1 := by cases k <;> simp [keyPy, PyData.depth]
      rw [toKv_cons]
      simp only [PyData.depthKv]
      simp only at h1
      omega
  induction n with
  | zero => intro d p; cases d <;> first | exact False.elim p | simp [toPy, PyData.depth]
  | succ n ih =>
    intro d p
    cases d with
    | tup ds =>
      have := al (m := n + 1) (ps := toPys ds) (by rw [toPys_map]; intro q hq; obtain ⟨d, hd, rfl⟩ := List.mem_map.mp hq; exact ih (p d hd))
      simp only [toPy, PyData.depth]; omega
    | lst ds =>
      have := al (m := n + 1) (ps := toPys ds) (by rw [toPys_map]; intro q hq; obtain ⟨d, hd, rfl⟩ := List.mem_map.mp hq; exact ih (p d hd))
      simp only [toPy, PyData.depth]; omega
    | dK es =>
      have := kv (m := n) fun e he => ih (p e he)
      simp only [toPy, PyData.depth]; omega
    | _ => first | exact False.elim p | simp [toPy, PyData.depth]
/-- of a value as all stands now -/
def canN (K : PySem.W.Frag) (t : D1) : List V → Hp → VK → Prop := fun vs H Qv => ∃ W P G σ v d Q, vs = [v] ∧ Rl K W P G σ H ∧ Rp K (nowW W H) d v ∧ t d Q ∧ Rs K W P G σ Q Qv
theorem cd_reprN (gd : X.A.guards = some []) (hu : X.A.units + 64 < cLine) : CallR X (.builtin "repr") (canN X.K dRepr) := by
  intro pins s σ' H vs us Qv I rv ⟨W, P, G, σ, v, d, Q, e, R, n, ⟨pl, sh, ln, t⟩, r⟩
  subst e
  obtain ⟨u, rfl, ru⟩ := vals1 rv
  have q := r.str R t
  have dep := PD_depth pl
  have rp : Rp X.K ⟨H, W.S⟩ d v := n
  have fin : ∀ (h' : Heap) (t : Tok) (tk : Nat), (∀ b o, s.heap.get? b = some o → h'.get? b = some o) → EP X pins σ' Qv (Value.str (toPy d).shown t) { s with heap := h', toks := tk } := fun h' t tk hk => ⟨.str _, H, I.kept hk, ⟨t, rfl⟩, q⟩
  have nest : ∀ {d : D} {v : V} {u : Value}, Pd 19 d → Rp X.K ⟨H, W.S⟩ d v → RelV v u → (toPy d).showable = true → (toPy d).shown.length ≤ sizeLine → Txts X s u (toPy d) := fun a b c d e => txts_of I 19 a b c d e
  have hl : (toPy d).shown.length ≤ sizeLine := ln
  cases d with
  | non => obtain rfl : v = .non := n; cases ru; exact PySem.P.repr_of_none (fin s.heap _ _ fun _ _ e => e)
  | bl b => obtain rfl : v = .bl b := n; cases ru; exact PySem.P.repr_of_bool (fin s.heap _ _ fun _ _ e => e)
  | int i => obtain rfl : v = .int i := n; obtain ⟨t, rfl⟩ := ru; exact PySem.P.repr_of_int (by simpa [toPy, PyData.showable] using sh) (fin s.heap _ _ fun _ _ e => e)
  | str z => obtain rfl : v = .str z := n; obtain ⟨t, rfl⟩ := ru; exact PySem.P.repr_of_str (fin s.heap _ _ fun _ _ e => e) ln
  | tup ds =>
    obtain ⟨a, xs, rfl, e, rl⟩ := rp
    cases ru
    obtain ⟨its, rv, ⟨o, ho, hc, m, hd⟩, _⟩ := I.tuple (.of e)
    simp only [toPy, PyData.showable] at sh
    simp only [toPy, PyData.shown] at hl fin
    simp only [toPy, PyData.depth] at dep
    obtain ⟨as, bs, q1, q2, q3⟩ := txts_all I nest pl rl rv sh fun t ht => Nat.le_trans (tupleText_mem_le ht) hl
    have na : a ∉ bs := not_mem_of_deeper (Reads.tuple ho hc hd q1) (by simp only [PyData.depth]; omega) q2
    have cl : ∀ b ∈ a :: bs, Clear [] b := fun b _ => Clear.nil b
    exact call_repr_slot (by omega) ⟨o, ho, hc⟩ F.slot_tuple_repr (call_tuple_reprK ho hc hd na q3 (show X.A.in1.guards = some [] from gd) cl (by show X.A.units + 1 + _ < cLine; omega) (fun _ _ e => e) (fun h' t tk hk => ⟨_, _, rfl, fin h' t tk hk⟩) hl)
  | lst ds =>
    obtain ⟨a, xs, rfl, e, rl⟩ := rp
    cases ru
    obtain ⟨its, rv, ⟨o, m, ho, hc, _, hd⟩, _⟩ := I.list (.of e)
    simp only [toPy, PyData.showable] at sh
    simp only [toPy, PyData.shown] at hl fin
    simp only [toPy, PyData.depth] at dep
    obtain ⟨as, bs, q1, q2, q3⟩ := txts_all I nest pl rl rv sh fun t ht => Nat.le_trans (listText_mem_le ht) hl
    have na : a ∉ bs := not_mem_of_deeper (Reads.list ho hc hd q1) (by simp only [PyData.depth]; omega) q2
    have cl : ∀ b ∈ a :: bs, Clear [] b := fun b _ => Clear.nil b
    cases its with
    | nil =>
      have hn : toPys ds = [] := by
        have := q3.length_eq
        cases z : toPys ds with
        | nil => rfl
        | cons p ps => rw [z] at this; simp [PyData.shownAll] at this
      rw [hn] at fin
      simp only [PyData.shownAll, listText_nil] at fin
      exact call_repr_slot (by omega) ⟨o, ho, hc⟩ F.slot_list_repr.toG (call_list_repr_empty ⟨o, ho, hc⟩ ho hd ⟨_, _, rfl, fin s.heap _ _ fun _ _ e => e⟩)
    | cons x l =>
      exact call_repr_slot (by omega) ⟨o, ho, hc⟩ F.slot_list_repr.toG (call_list_reprK ho hc hd na (by simpa using q3.length_eq) (fun i y ey => q3.item i y (by simpa using ey)) (show X.A.in1.guards = some [] from gd) cl (by show X.A.units + 1 + _ < cLine; omega) (fun _ _ e => e) (fun h' t tk hk => ⟨_, _, rfl, fin h' t tk hk⟩) hl)
  | dK es =>
    obtain ⟨a, kvs, rfl, e, rk⟩ := rp
    cases ru
    obtain ⟨_, hsy, vs, kv, o, en, ep, ho, ⟨hc, _, _⟩, hd, _, pr, _⟩ := dk_rd I.hok e
    simp only [toPy, PyData.showable] at sh
    simp only [toPy, PyData.shown] at hl fin
    simp only [toPy, PyData.depth] at dep
    obtain ⟨⟨as1, bs1, q1, q2, q3⟩, ⟨as2, bs2, p1, p2, p3⟩⟩ := pairs_txts I nest pl rk kv pr sh fun t ht => Nat.le_trans (dictText_mem_le ht) hl
    have w1 := PyData.depthAll_keys_le (toKv es)
    have w2 := PyData.depthAll_vals_le (toKv es)
    have na : a ∉ bs1 ++ bs2 := not_mem_of_deeper (Reads.dict ho hc hd q1 p1) (by simp only [PyData.depth]; omega) ((q2.mono w1).append (p2.mono w2))
    have cl : ∀ b ∈ a :: (bs1 ++ bs2), Clear [] b := fun b _ => Clear.nil b
    rw [PyData.shownKv_eq] at fin hl
    exact call_repr_slot (by omega) ⟨o, ho, hc⟩ F.slot_dict_repr (call_dict_reprK ho hc hd hsy na (ReprEntriesK.of_two en.toList _ _ (q3.more_le (fun b z => List.mem_append.mpr (.inl z)) w1) (p3.more_le (fun b z => List.mem_append.mpr (.inr z)) w2)) (show X.A.in1.guards = some [] from gd) cl (by show X.A.units + 1 + _ < cLine; omega) (fun _ _ e => e) (fun h' t tk hk => ⟨_, _, rfl, fin h' t tk hk⟩) hl)
  | _ => exact False.elim pl
theorem cd_repr (gd : X.A.guards = some []) (hu : X.A.units + 64 < cLine) : CallR X (.builtin "repr") (canB X.K dRepr) :=
  CallR.imp (cd_reprN gd hu) fun _ _ _ ⟨W, P, G, σ, v, d, Q, e, R, n, t, r⟩ => ⟨W, P, G, σ, v, d, Q, e, R, R.rnow n, t, r⟩
/-- sorted: of ints; of pairs of ints -/
def prsOf : List D → Option (List (Int × Int))
  | [] => some []
  | .tup [.int i, .int j] :: r => match prsOf r with | some ns => some ((i, j) :: ns) | none => none
  | _ :: _ => none
def prD (p : Int × Int) : D := .tup [.int p.1, .int p.2]
theorem prsOf_cons {d : D} {ds : List D} {ps : List (Int × Int)} (h : prsOf (d :: ds) = some ps) : ∃ p r, d = prD p ∧ prsOf ds = some r ∧ ps = p :: r := by
  unfold prsOf at h
  split at h
  · rename_i e; cases e
  · rename_i _ i j r' e
    cases e
    cases q : prsOf ds with
    | none => rw [q] at h; cases h
    | some ms => rw [q] at h; cases h; exact ⟨(i, j), ms, rfl, rfl, rfl⟩
  · cases h
theorem prsOf_eq : ∀ {ds : List D} {ps : List (Int × Int)}, prsOf ds = some ps → ds = ps.map prD
  | [], _, h => by cases h; rfl
  | d :: ds, ps, h => by
    obtain ⟨p, r, rfl, h2, rfl⟩ := prsOf_cons h
    rw [prsOf_eq h2]; rfl
theorem prsOf_map : ∀ ps : List (Int × Int), prsOf (ps.map prD) = some ps
  | [] => rfl
  | p :: ps => by show (match prsOf (ps.map prD) with | some ns => some ((p.1, p.2) :: ns) | none => none) = _; rw [prsOf_map ps]
/-- ascending, equal ones allowed -/
def prLe (a b : Int × Int) : Prop := a.1 < b.1 ∨ (a.1 = b.1 ∧ a.2 ≤ b.2)
def dSorted : D1 := fun d Q => match d with
  | .lst ds => match prsOf ds with
    | some ps => ∀ qs : List (Int × Int), qs.Perm ps → qs.Pairwise prLe → Q (.new (.lst (qs.map prD)))
    | none => match intsOf ds with
      | some ns => ∀ ms : List Int, ms.Perm ns → ms.Pairwise (· ≤ ·) → Q (.new (.lst (ms.map D.int)))
      | none => False
  | _ => False
def prAt (H : Hp) : V → Int × Int
  | .ref t => match H t with | some (.tup [.int i, .int j]) => (i, j) | _ => (0, 0)
  | _ => (0, 0)
theorem prs_at (R : Rl K W P G σ H) : ∀ {ps : List (Int × Int)} {xs : List V}, RpL K W (ps.map prD) xs → xs.map (prAt H) = ps ∧ ∀ x ∈ xs, Rp K W (prD (prAt H x)) x ∧ ∃ t, x = .ref t ∧ H t = some (.tup [.int (prAt H x).1, .int (prAt H x).2])
  | [], _, h => by obtain rfl : _ = [] := h; exact ⟨rfl, fun _ h => (by cases h)⟩
  | p :: ps, _, h => by
    obtain ⟨v, r, rfl, h1, h2⟩ := h
    obtain ⟨e1, e2⟩ := prs_at R h2
    have h1c := h1
    obtain ⟨t, ys, rfl, hF, a, b, e, ha, c, d, e', hb, hc⟩ := h1
    obtain rfl : a = .int p.1 := ha
    obtain rfl : c = .int p.2 := hb
    obtain rfl : d = [] := hc
    subst e' e
    have hH := R.le _ _ hF
    have hp : prAt H (.ref t) = p := by show (match H t with | some (.tup [.int i, .int j]) => (i, j) | _ => (0, 0)) = p; rw [hH]
    refine ⟨by rw [List.map_cons, e1, hp], fun x hx => ?_⟩
    rcases List.mem_cons.mp hx with rfl | hx
    · rw [hp]; exact ⟨h1c, t, rfl, hH⟩
    · exact e2 x hx
theorem rpl_of {f : V → D} : ∀ {xs : List V}, (∀ x ∈ xs, Rp K W (f x) x) → RpL K W (xs.map f) xs
  | [], _ => rfl
  | x :: xs, h => ⟨x, xs, rfl, h x List.mem_cons_self, rpl_of fun y hy => h y (List.mem_cons_of_mem _ hy)⟩
theorem cd_sorted : CallR X (.builtin "sorted") (canB X.K dSorted) := by
  refine CallR.imp (CallR.or (cr_sortedPO (X := X)) cr_sortedI) ?_
  rintro vs H Qv ⟨W, P, G, σ, v, d, Q, rfl, R, n, t, r⟩
  cases d <;> first | exact False.elim t | skip
  rename_i ds
  obtain ⟨p, xs, rfl, s, q⟩ := n
  have t : (match prsOf ds with
    | some ps => ∀ qs : List (Int × Int), qs.Perm ps → qs.Pairwise prLe → Q (.new (.lst (qs.map prD)))
    | none => match intsOf ds with
      | some ns => ∀ ms : List Int, ms.Perm ns → ms.Pairwise (· ≤ ·) → Q (.new (.lst (ms.map D.int)))
      | none => False) := t
  cases e : prsOf ds with
  | some ps =>
    rw [e] at t
    rw [prsOf_eq e] at q
    obtain ⟨e1, e2⟩ := prs_at R q
    refine .inl ⟨p, xs, prAt H, rfl, .of s, fun x hx => (e2 x hx).2, fun ys l hs hst hl => ?_⟩
    have hm : ∀ y ∈ ys, y ∈ xs := fun y hy => hst.perm.mem_iff.mp hy
    refine r.new R hl (o := .lst ys) (d := .lst ((ys.map (prAt H)).map prD)) ?_ (t _ (by rw [← e1]; exact hst.perm.map _) ?_)
    · show RpL X.K W _ ys
      rw [List.map_map]
      exact rpl_of fun y hy => (e2 y (hm y hy)).1
    · refine List.pairwise_map.mpr (List.Pairwise.imp (fun {a b} h => ?_) hs)
      have := SrtO.lexB_no.mp h
      unfold prLe
      omega
  | none =>
    rw [e] at t
    simp only at t
    cases e2 : intsOf ds with
    | none => rw [e2] at t; exact t.elim
    | some ns =>
      rw [e2] at t
      rw [intsOf_eq e2] at q
      rw [RpL.ints q] at s
      exact .inr ⟨p, ns, rfl, .of s, fun ms l h1 h2 hl => r.new R hl (o := .lst _) (d := .lst (ms.map D.int)) (RpL.ofInts ms) (t ms h1 h2)⟩
/-! of two values -/
def on2 (t : Int → Int → Prop) : List D → Prop
  | .int i :: .int j :: r => r = [] ∧ t i j
  | _ => False
def dMax2 : List D → (SV → Prop) → Prop := fun ds Q => on2 (fun i j => Q (.dat (.int (if j > i then j else i)))) ds
def dMin2 : List D → (SV → Prop) → Prop := fun ds Q => on2 (fun i j => Q (.dat (.int (if j < i then j else i)))) ds
theorem two_ints {t : Int → Int → Prop} {ds : List D} {vs : List V} (h : RpL K W ds vs) (q : on2 t ds) : ∃ i j, vs = [.int i, .int j] ∧ t i j := by
  cases ds with
  | nil => exact False.elim q
  | cons a ds =>
    cases a <;> first | exact False.elim q | skip
    cases ds with
    | nil => exact False.elim q
    | cons b ds =>
      cases b <;> first | exact False.elim q | skip
      obtain ⟨e, q⟩ := q
      subst e
      obtain ⟨v, r, rfl, h1, w, r2, rfl, h2, h3⟩ := h
      obtain rfl : v = .int _ := h1
      obtain rfl : w = .int _ := h2
      obtain rfl : r2 = [] := h3
      exact ⟨_, _, rfl, q⟩
theorem cd_max2 (hc : X.calm = true) : CallR X (.builtin "max") (canC X.K dMax2) := by
  refine CallR.imp (call_max2 hc) ?_
  rintro vs H Qv ⟨W, P, G, σ, ds, Q, R, n, t, r⟩
  obtain ⟨i, j, rfl, q⟩ := two_ints n t
  exact ⟨i, j, rfl, r.int R q⟩
theorem cd_min2 (hc : X.calm = true) : CallR X (.builtin "min") (canC X.K dMin2) := by
  refine CallR.imp (call_min2 hc) ?_
  rintro vs H Qv ⟨W, P, G, σ, ds, Q, R, n, t, r⟩
  obtain ⟨i, j, rfl, q⟩ := two_ints n t
  exact ⟨i, j, rfl, r.int R q⟩
theorem call_divmodW : CallR X (.builtin "divmod") (fun xs H Q => ∃ i j, xs = [.int i, .int j] ∧ (0 < j ∧ j.natAbs.log2 < 9000) ∧ ∀ p, H p = none → Q (.ref p) (upd H p (.tup [.int (i / j), .int (i % j)]))) := by
  intro pins s σ H xs us Q I r h
  obtain ⟨i, j, rfl, ⟨h1, h2⟩, q⟩ := h
  obtain ⟨u, w', rfl, ⟨t, rfl⟩, ⟨t', rfl⟩⟩ := vals2 r
  refine divmod_int (by omega) ?_ (.inl (PyProof.noPylong_of_log2 h2))
  rw [Int.fdiv_eq_ediv_of_nonneg i (by omega), Int.fmod_eq_emod_of_nonneg i (by omega)]
  have hn : H s.heap.objs.size = none := I.hok.fresh (Nat.le_refl _)
  refine ⟨.ref s.heap.objs.size, _, ?_, rfl, q _ hn⟩
  refine I.laid (fun b o e => Heap.get?_push_of_some _ e) (Nat.le_refl _) ⟨by simp only [List.length_cons, List.length_nil]; rw [sizeLine_eq]; decide, [.int (i / j) s.toks, .int (i % j) (s.toks + 1)], .cons ⟨_, rfl⟩ (.cons ⟨_, rfl⟩ .nil), ?_⟩
  exact ⟨_, Heap.get?_push_size s.heap rfl, rfl, 0, rfl⟩
def dDivmod : List D → (SV → Prop) → Prop := fun ds Q => on2 (fun i j => (0 < j ∧ j.natAbs.log2 < 9000) ∧ Q (.dat (.tup [.int (i / j), .int (i % j)]))) ds
theorem cd_divmod : CallR X (.builtin "divmod") (canC X.K dDivmod) := by
  refine CallR.imp (call_divmodW (X := X)) ?_
  rintro vs H Qv ⟨W, P, G, σ, ds, Q, R, n, t, r⟩
  obtain ⟨i, j, rfl, h, q⟩ := two_ints n t
  exact ⟨i, j, rfl, h, fun p hp => r.newT R hp (ds := [.int (i / j), .int (i % j)]) ⟨_, _, rfl, rfl, _, _, rfl, rfl, rfl⟩ q⟩
/-- isinstance against a built-in class -/
def clsD : D → Option String
  | .non => some "NoneType"
  | .bl _ => some "bool"
  | .int _ => some "int"
  | .str _ => some "str"
  | .tup _ => some "tuple"
  | .lst _ => some "list"
  | .dK _ => some "dict"
  | _ => none
theorem clsD_ty {d : D} {v : V} {T : String} (e : clsD d = some T) (h : Rp K W d v) (R : Rl K W P G σ H) : TyX K H v (.type T) := by
  cases d <;> first | (cases e; done) | skip
  · obtain rfl : v = .non := h; cases e; exact .base .non
  · obtain rfl : v = .bl _ := h; cases e; exact .base (.bl _)
  · obtain rfl : v = .int _ := h; cases e; exact .base (.int _)
  · obtain rfl : v = .str _ := h; cases e; exact .base (.str _)
  · obtain ⟨a, xs, rfl, s, _⟩ := h; cases e; exact .base (.tup (R.le _ _ s))
  · obtain ⟨a, xs, rfl, s, _⟩ := h; cases e; exact .base (.lst (R.le _ _ s))
  · obtain ⟨a, xs, rfl, s, _⟩ := h; cases e
    rcases R.rdL s with s | ⟨_, s⟩
    · exact .base (.dK s)
    · exact .fDict s
/-- a class T is of a class U -/
def kits : List String := ["int", "bool", "str", "list", "tuple", "dict"]
def isT (T U : String) : Bool := T == U || (T == "bool" && U == "int")
theorem kit_all : ∀ T ∈ "NoneType" :: kits, ∀ U ∈ kits, ∀ K, PySem.W.kitOne K (.type T) (.type U) = some (isT T U) := by
  intro T hT U hU K
  refine kit_ty ?_
  revert T U
  decide +kernel
def dIsi : List D → (SV → Prop) → Prop
  | d :: .ty U :: r, Q => r = [] ∧ U ∈ kits ∧ match clsD d with | some T => Q (.dat (.bl (isT T U))) | none => False
  | _, _ => False
theorem clsD_in {d : D} {T : String} (e : clsD d = some T) : T ∈ "NoneType" :: kits := by
  cases d <;> first | (cases e; done) | (cases e; decide)
theorem cd_isi : CallR X (.builtin "isinstance") (canC X.K dIsi) := by
  refine CallR.imp (call_isi (X := X)) ?_
  rintro vs H Qv ⟨W, P, G, σ, ds, Q, R, n, t, r⟩
  cases ds with
  | nil => exact False.elim t
  | cons a ds =>
    cases ds with
    | nil => exact False.elim t
    | cons b ds =>
      cases b <;> first | exact False.elim t | skip
      rename_i U
      obtain ⟨e, hU, q⟩ := t
      subst e
      obtain ⟨v, r', rfl, h1, w, r2, rfl, h2, h3⟩ := n
      obtain rfl : w = .ty U := h2
      obtain rfl : r2 = [] := h3
      cases ec : clsD a with
      | none => rw [ec] at q; exact q.elim
      | some T =>
        rw [ec] at q
        exact ⟨v, .ty U, .type T, .type U, _, rfl, .ty U, clsD_ty ec h1 R, kit_all T (clsD_in ec) U hU _, r.bl R q⟩
end

/-! ### a def of the text, from its derivation and the plain law -/
def startG (n : Nat) (N : List Str) (ds : List D) : Gm := ⟨ds.map (fun d => some (.dat d)) ++ List.replicate (N.length - ds.length) none, n⟩
def defE (Q : SV → Nat → Prop) : DEnds := { nx := fun G => Q (.dat .non) G.c, rt := Q }
theorem ggl_get : ∀ (L : List (Option SC)) (i : Nat) (x : SC), ggl L i = some x ↔ L[i]? = some (some x)
  | [], i, x => by simp [ggl]
  | y :: r, 0, x => by simp [ggl]
  | y :: r, i + 1, x => by rw [List.getElem?_cons_succ]; exact ggl_get r i x
theorem start_dat {n : Nat} {N : List Str} {ds : List D} {i : Nat} {x : SC} (h : gg (startG n N ds) i = some x) : ∃ d, x = .dat d ∧ ds[i]? = some d := by
  have h : (ds.map (fun d => some (SC.dat d)) ++ List.replicate (N.length - ds.length) none)[i]? = some (some x) := (ggl_get _ _ _).mp h
  by_cases hi : i < ds.length
  · rw [List.getElem?_append_left (by rw [List.length_map]; exact hi), List.getElem?_map] at h
    rw [List.getElem?_eq_getElem hi] at h ⊢
    cases h; exact ⟨_, rfl, rfl⟩
  · rw [List.getElem?_append_right (by rw [List.length_map]; omega)] at h
    rw [List.getElem?_replicate] at h
    split at h <;> cases h
theorem Rl.start {K : PySem.W.Frag} {W : Wd} {P : Hp} {n : Nat} {H : Hp} {ds : List D} {vs : List V} (R : Rl K W P ⟨[], n⟩ [] H) (r : RpL K W ds vs) (N : List Str) : Rl K W P (startG n N ds) (L2.start N vs) H := by
  refine ⟨?_, R.le, R.src, R.prot, fun i d e => ?_, fun i d e => ?_, fun i j d e _ h1 _ => ?_, R.pnt⟩
  · show (ds.map _ ++ List.replicate _ none).length = (vs.map some ++ List.replicate _ none).length
    simp only [List.length_append, List.length_map, List.length_replicate, r.length]
  · obtain ⟨d', e1, e2⟩ := start_dat e
    cases e1
    obtain ⟨v, h1, h2⟩ := r.get e2
    refine ⟨v, ?_, h2⟩
    have hl := (List.getElem?_eq_some_iff.mp h1).1
    show (vs.map some ++ List.replicate _ none)[i]? = _
    rw [List.getElem?_append_left (by rw [List.length_map]; exact hl), List.getElem?_map, h1]; rfl
  · obtain ⟨_, e1, _⟩ := start_dat e; cases e1
  · obtain ⟨_, e1, _⟩ := start_dat h1; cases e1
theorem fd_of {P : Program} {w : World} {K : PySem.W.Frag} {mg : Str → Option Value} {base : Heap} {k : Nat} {f : Addr} {x qual : Str} {st : Stmt} {dd : List D} {fd : FuncData} {N ps : List Str} {S : DSp} {t : DS}
    (F : FunT K x qual st dd f fd) (C : FnScope N ps (defScope st))
    (der : ∀ (cdv : Value) (A : Around) (outer : List Env) (s : Shared) (H : Hp), (A.deeper (envOfC qual (defScope st) s.heap.objs.size f cdv)).guards = some [] → Room k (A.deeper (envOfC qual (defScope st) s.heap.objs.size f cdv)) →
      PSs (cxOf CX0 P w K mg base N qual (defScope st) f cdv A outer s H E0).nox (defBody st) (canS K t))
    (len : ∀ n ds Q, S n ds Q → ds.length = ps.length) (law : ∀ n ds Q, S n ds Q → t (defE Q) (startG n N ds)) : FnD P w K mg base (k + 1) f fd ps S := by
  refine fg_of F C (fun vs H Q E h => ?_) fun cdv A outer s H vs Q gd hr h => ?_
  · obtain ⟨W, P0, n, ds, Qd, _, _, r, q, _⟩ := h
    rw [r.length]; exact len _ _ _ q
  · obtain ⟨W, P0, n, ds, Qd, R, _, r, q, kk⟩ := h
    refine ⟨_, der cdv A outer s H gd hr, W, P0, startG n N ds, defE Qd, R.start r N, law _ _ _ q, fun W' G σ H' l R' q => ?_, fun _ _ _ _ _ _ q => q.elim, fun _ _ _ _ _ _ q => q.elim, fun W' sv m v H' l R' rv q => ?_⟩
    · exact kk W' (.dat .non) G.c .non H' l R'.bare rfl q
    · exact kk W' sv m v H' l R' rv q
/-! ### sources -/
section
variable {X : Cx} {K : PySem.W.Frag} {W : Wd} {P : Hp} {G : Gm} {σ : St} {H : Hp} {e a : Expr} {pos : Pos}
/-- a new list becomes a source -/
def dSrcE (t : DE) : DE := fun G Q => t G fun sv G1 => ∃ x y z : Int, sv = .new (.lst [.int x, .int y, .int z]) ∧ 0 ≤ y ∧ y < 10 ^ 50 ∧ 0 ≤ z ∧ z ≤ G1.c ∧ Q (.dat .src) G1
theorem ints3 {x y z : Int} {xs : List V} (h : RpL K W [.int x, .int y, .int z] xs) : xs = [.int x, .int y, .int z] := by
  obtain ⟨a, r, rfl, h1, h⟩ := h
  obtain ⟨b, r, rfl, h2, h⟩ := h
  obtain ⟨c, r, rfl, h3, h⟩ := h
  cases h1; cases h2; cases h3; cases h; rfl
theorem de_src {t : DE} (h : PE X e (can X.K t)) : PE X e (can X.K (dSrcE t)) := by
  refine PE.imp h fun σ H Qv h => ?_
  obtain ⟨W, P, G, Q, R, t, k⟩ := h
  refine ⟨W, P, G, _, R, t, fun W1 sv G1 v H1 l1 R1 r1 q1 => ?_⟩
  obtain ⟨x, y, z, rfl, y1, y2, z1, z2, q⟩ := q1
  obtain ⟨p, o, rfl, pr, ro, hn⟩ := r1
  cases o <;> try exact False.elim ro
  rename_i xs
  have e1 := ints3 ro
  subst e1
  have l2 : W1.le ⟨W1.F, fun a => W1.S a ∨ a = p⟩ := ⟨fun _ _ e => e, fun _ h => .inl h⟩
  refine k ⟨W1.F, fun a => W1.S a ∨ a = p⟩ (.dat .src) G1 _ H1 (l1.trans l2) ⟨R1.len, R1.le, fun a h => ?_, R1.prot, fun i d e => ?_, fun i d e => ?_, R1.sep, R1.pnt⟩ ⟨p, rfl, .inr rfl⟩ q
  · rcases h with h | rfl
    · exact R1.src a h
    · exact ⟨pr.f, pr.n, x, y, z, pr.at_, y1, y2, z1, z2⟩
  · obtain ⟨v, h1, h2⟩ := R1.dat i d e
    exact ⟨v, h1, Rp.mono l2 _ _ h2⟩
  · obtain ⟨q, o, h1, h2, h3⟩ := R1.own i d e
    refine ⟨q, o, h1, ⟨h2.at_, h2.f, fun z => ?_, h2.n⟩, h3.mono l2⟩
    rcases z with z | rfl
    · exact h2.s z
    · exact hn i d e h1
/-- to read a source -/
def dSrcIx (i k : Nat) : DE := fun G Q => gg G i = some (.dat .src) ∧ k < 3 ∧ ∀ v : Int, (k = 1 → 0 ≤ v ∧ v < 10 ^ 50) → (k = 2 → 0 ≤ v ∧ v ≤ G.c) → Q (.dat (.int v)) G
theorem Rl.srcAt (R : Rl K W P G σ H) {i : Nat} (h : gg G i = some (.dat .src)) : ∃ a, σ[i]? = some (some (.ref a)) ∧ W.S a := by
  obtain ⟨v, h1, a, rfl, h2⟩ := R.dat i _ h
  exact ⟨a, h1, h2⟩
theorem de_ixSrc {x : Str} {px pk : Pos} {j} (i : Nat) (k : Nat) (hN : X.N[i]? = some x := by rfl) (hv : Vis X.env.scope x := by first | exact Or.inl rfl | exact Or.inr (Or.inl rfl) | exact Or.inr (Or.inr rfl)) (hd : (x == ("__debug__" : Str)) = false := by decide)
    (hcd : (x == ("__classdict__" : Str)) = false := by decide) : PE X (.Subscript (.Name x px) (.Constant (.int (k : Int)) j pk) pos) (can X.K (dSrcIx i k)) := by
  refine PE.imp (pe_ix ix_list (pe_var hN hv hd hcd) pe_int (fun _ _ => rfl)) ?_
  rintro σ H Qv ⟨W, P, G, Q, R, ⟨hg, hk, t⟩, kk⟩
  obtain ⟨a, h1, h2⟩ := R.srcAt hg
  obtain ⟨_, _, x, y, z, h3, y1, y2, z1, z2⟩ := R.src a h2
  have fin : ∀ v : Int, atI [V.int x, .int y, .int z] (k : Int) = some (.int v) → (k = 1 → 0 ≤ v ∧ v < 10 ^ 50) → (k = 2 → 0 ≤ v ∧ v ≤ G.c) → tOp (rIxL X.K) (tVar i) (tC (V.int (k : Int))) σ H Qv := fun v e c1 c2 => ⟨V.ref a, h1, a, _, (k : Int), V.int v, rfl, rfl, .inl (.inl h3), e, kk W (.dat (.int v)) G (.int v) H (.refl W) R rfl (t v c1 c2)⟩
  match k, hk with
  | 0, _ => exact fin x rfl (fun h => by cases h) (fun h => by cases h)
  | 1, _ => exact fin y rfl (fun _ => ⟨y1, y2⟩) (fun h => by cases h)
  | 2, _ => exact fin z rfl (fun h => by cases h) (fun _ => ⟨z1, z2⟩)
theorem Rl.srcSet (R : Rl K W P G σ H) {a : Addr} (h : W.S a) {x y z : Int} (m : Nat) (hm : G.c ≤ m) (y1 : 0 ≤ y) (y2 : y < 10 ^ 50) (z1 : 0 ≤ z) (z2 : z ≤ m) : Rl K W P (G.at m) σ (upd H a (.lst [.int x, .int y, .int z])) := by
  obtain ⟨f, n, _⟩ := R.src a h
  refine ⟨R.len, fun b o e => ?_, fun b hb => ?_, fun p o e => ?_, R.dat, fun i d e => ?_, R.sep, R.pnt⟩
  · rw [upd_ne (fun q => by rw [q, f] at e; cases e)]; exact R.le b o e
  · obtain ⟨f', n', x', y', z', e, a1, a2, a3, a4⟩ := R.src b hb
    refine ⟨f', n', ?_⟩
    by_cases q : b = a
    · subst q; exact ⟨x, y, z, upd_same, y1, y2, z1, z2⟩
    · exact ⟨x', y', z', by rw [upd_ne q]; exact e, a1, a2, a3, Int.le_trans a4 (by exact_mod_cast hm)⟩
  · obtain ⟨h1, h2⟩ := R.prot p o e
    exact ⟨by rw [upd_ne (fun q => by rw [q, n] at e; cases e)]; exact h1, h2⟩
  · obtain ⟨q, o, h1, h2, h3⟩ := R.own i d e
    exact ⟨q, o, h1, ⟨by rw [upd_ne (fun z => h2.s (by rw [z]; exact h))]; exact h2.at_, h2.f, h2.s, h2.n⟩, h3⟩
/-- to write a source -/
def dSrcSet (i k : Nat) (t : DE) : DS := fun E G => t G fun sv G1 => see G1 sv fun d => gg G1 i = some (.dat .src) ∧ match d with
  | .int v => (k = 0 ∧ E.nx G1) ∨ (k = 2 ∧ 0 ≤ v ∧ v ≤ G1.c + 1 ∧ E.nx (G1.at (G1.c + 1)))
  | _ => False
theorem ds_setSrc {x : Str} {px pk pt : Pos} {j} {t : DE} (i : Nat) (k : Nat) (he : PE X e (can X.K t)) (hN : X.N[i]? = some x := by rfl) (hv : Vis X.env.scope x := by first | exact Or.inl rfl | exact Or.inr (Or.inl rfl) | exact Or.inr (Or.inr rfl)) (hd : (x == ("__debug__" : Str)) = false := by decide)
    (hcd : (x == ("__classdict__" : Str)) = false := by decide)
    (hs : swapsWithSole [.Subscript (.Name x px) (.Constant (.int (k : Int)) j pk) pt] e pos.line X.env = pure false := by rfl) (hw : swappedStores [.Subscript (.Name x px) (.Constant (.int (k : Int)) j pk) pt] e X.env = pure none := by rfl)
    (h1 : (assignEach [.Subscript (.Name x px) (.Constant (.int (k : Int)) j pk) pt] X.env).map (·.2) = [assign (.Subscript (.Name x px) (.Constant (.int (k : Int)) j pk) pt) X.env] := by rfl) :
    PS X (.Assign [.Subscript (.Name x px) (.Constant (.int (k : Int)) j pk) pt] e pos) (canS X.K (dSrcSet i k t)) := by
  refine PS.imp (ps_asg he (pg_sub (pe_var hN hv hd hcd) pe_int set_list) hs hw h1) ?_
  rintro D σ H ⟨W, P, G, E, R, t, kk⟩
  refine ⟨W, P, G, _, R, t, fun W1 sv G1 v H1 l1 R1 r1 q1 => ?_⟩
  obtain ⟨W2, l2, R2, s2⟩ := R1.settle r1
  obtain ⟨d, rn, hg, q⟩ := R2.see s2 q1
  cases d <;> try exact False.elim q
  rename_i n
  obtain rfl : v = .int n := rn
  obtain ⟨a, e1, e2⟩ := R2.srcAt hg
  obtain ⟨_, _, x, y, z, h3, y1, y2, z1, z2⟩ := R2.src a e2
  rcases q with ⟨rfl, q⟩ | ⟨rfl, n1, n2, q⟩
  · refine ⟨.ref a, e1, a, _, 0, 0, rfl, rfl, h3, rfl, ?_⟩
    exact kk.nx W2 (G1.at G1.c) σ _ (l1.trans l2) (R2.srcSet (x := n) e2 G1.c (Nat.le_refl _) y1 y2 z1 z2) q
  · refine ⟨.ref a, e1, a, _, 2, 2, rfl, rfl, h3, rfl, ?_⟩
    exact kk.nx W2 (G1.at (G1.c + 1)) σ _ (l1.trans l2) (R2.srcSet (z := n) e2 (G1.c + 1) (Nat.le_succ _) y1 y2 n1 (by exact_mod_cast n2)) q
/-! ### methods of an own list -/
theorem Rl.reown (R : Rl K W P G σ H) {i : Nat} {d d' : D} {p : Addr} {o o' : HO} (e : gg G i = some (.own d)) (h1 : σ[i]? = some (some (.ref p))) (pr : Priv W H P p o) (r : RO K W p o' d') : Rl K W P (gset G i (some (.own d'))) σ (upd H p o') := by
  have hl : i < G.length := gg_lt e
  have key : ∀ {j : Nat} {x : SC}, gg (gset G i (some (.own d'))) j = some x → (j = i ∧ x = .own d') ∨ (j ≠ i ∧ gg G j = some x) := fun {j x} q => by
    by_cases hj : j = i
    · rw [hj, gg_set_self _ _ _ hl] at q; cases q; exact .inl ⟨hj, rfl⟩
    · rw [gg_set_ne _ _ _ _ hj] at q; exact .inr ⟨hj, q⟩
  refine ⟨by rw [gset_len]; exact R.len, fun b u q => ?_, fun b hb => ?_, fun q u z => ?_, fun j x q => ?_, fun j x q => ?_, fun j k x y n q1 q2 => ?_, R.pnt⟩
  · rw [upd_ne (fun z => by rw [z, pr.f] at q; cases q)]; exact R.le b u q
  · obtain ⟨f, n, x, y, z, a1, a2⟩ := R.src b hb
    exact ⟨f, n, x, y, z, by rw [upd_ne (fun z => pr.s (by rw [← z]; exact hb))]; exact a1, a2⟩
  · obtain ⟨a1, a2⟩ := R.prot q u z
    exact ⟨by rw [upd_ne (fun y => by rw [y, pr.n] at z; cases z)]; exact a1, a2⟩
  · rcases key q with ⟨_, q⟩ | ⟨_, q⟩
    · cases q
    · exact R.dat j x q
  · rcases key q with ⟨rfl, q'⟩ | ⟨hj, q⟩
    · cases q'; exact ⟨p, o', h1, ⟨upd_same, pr.f, pr.s, pr.n⟩, r⟩
    · obtain ⟨a, u, a1, a2, a3⟩ := R.own j x q
      have na : a ≠ p := fun z => R.sep j i _ _ hj q e (by rw [a1, h1, z])
      exact ⟨a, u, a1, ⟨by rw [upd_ne na]; exact a2.at_, a2.f, a2.s, a2.n⟩, a3⟩
  · have u1 : ∃ z, gg G j = some (.own z) := by
      rcases key q1 with ⟨rfl, _⟩ | ⟨_, q⟩
      · exact ⟨d, e⟩
      · exact ⟨x, q⟩
    have u2 : ∃ z, gg G k = some (.own z) := by
      rcases key q2 with ⟨rfl, _⟩ | ⟨_, q⟩
      · exact ⟨d, e⟩
      · exact ⟨y, q⟩
    obtain ⟨z1, u1⟩ := u1
    obtain ⟨z2, u2⟩ := u2
    exact R.sep j k z1 z2 n u1 u2
def ownL (G : Gm) (i : Nat) (k : List D → Prop) : Prop := match gg G i with | some (.own (.lst ds)) => k ds | _ => False
theorem ownL_of {i : Nat} {k : List D → Prop} (h : ownL G i k) : ∃ ds, gg G i = some (.own (.lst ds)) ∧ k ds := by
  unfold ownL at h
  split at h
  · exact ⟨_, by assumption, h⟩
  · exact h.elim
/-- a method of an own list, over data -/
def dOwnL (i : Nat) (r : List D → List D → (List D → D → Prop) → Prop) (t : DA) : DE := fun G Q => ownL G i (fun _ => True) ∧ t G fun ys G1 => ownL G1 i fun ds => r ds ys fun ds' d => Q (.dat d) (gset G1 i (some (.own (.lst ds'))))
/-- the method of the hand layer does it -/
def MthL (K : PySem.W.Frag) (rV : V → List V → Hp → VK → Prop) (r : List D → List D → (List D → D → Prop) → Prop) : Prop := ∀ (W : Wd) (H : Hp) (p : Addr) (xs us : List V) (ds ys : List D) (k : List D → D → Prop) (Qv : VK), (∀ b o, W.F b = some o → H b = some o) → H p = some (.lst xs) → RpL K W ds xs → RpL K W ys us → r ds ys k →
  (∀ ds' d xs' v, RpL K W ds' xs' → Rp K W d v → k ds' d → Qv v (upd H p (.lst xs'))) → rV (.ref p) us H Qv
variable {es : List Expr} {apos cpos px : Pos} {name x : Str} {id : String} {rV : V → List V → Hp → VK → Prop} {r : List D → List D → (List D → D → Prop) → Prop}
theorem mth_run {i : Nat} {t : DA} (m : MthL K rV r) {Qv : VK} (h : can K (dOwnL i r t) σ H Qv) : ∃ v, σ[i]? = some (some v) ∧ tyV K "list" v H ∧ canA K t σ H fun xs H2 => rV v xs H2 Qv := by
  obtain ⟨W, P, G, Q, R, ⟨h1, h2⟩, kk⟩ := h
  obtain ⟨d0, h1, _⟩ := ownL_of h1
  obtain ⟨p, o, e1, pr, ro⟩ := R.own i _ h1
  cases o <;> try exact False.elim ro
  rename_i xs0
  refine ⟨_, e1, .inl ⟨rfl, xs0, .inl (.inl pr.at_)⟩, W, P, G, _, R, h2, fun W1 ys G1 us H1 l1 R1 r1 q1 => ?_⟩
  obtain ⟨ds, h3, q⟩ := ownL_of q1
  obtain ⟨p', o', e2, pr', ro'⟩ := R1.own i _ h3
  rw [e1] at e2; cases e2
  cases o' <;> try exact False.elim ro'
  rename_i xs
  refine m W1 H1 p xs us ds ys _ Qv R1.le pr'.at_ ro' r1 q fun ds' d xs' v a1 a2 a3 => ?_
  exact kk W1 (.dat d) _ v _ l1 (R1.reown (o' := .lst xs') (d' := .lst ds') h3 e1 pr' a1) a2 a3
theorem de_ml {i : Nat} {t : DA} (slot : Slot "list" name id) (hty : typeOf (.builtin id) = pure (.type "method_descriptor")) (hm : MtR X id rV) (m : MthL X.K rV r) (ha : PA X (e :: es) (canA X.K t))
    (hN : X.N[i]? = some x := by rfl) (hv : Vis X.env.scope x := by first | exact Or.inl rfl | exact Or.inr (Or.inl rfl) | exact Or.inr (Or.inr rfl)) (hd : (x == ("__debug__" : Str)) = false := by decide)
    (hcd : (x == ("__classdict__" : Str)) = false := by decide) (hbase : attributeBase (.Name x px) name X.env (eval (.Name x px) X.env) = eval (.Name x px) X.env := by rfl)
    (hfew : ((backTo cpos (starEach (e :: es) X.env)).all (fun x => !x.1) && (backToKw cpos (keywordEach [] X.env)).all (fun x => x.1.isSome)
      && decide ((e :: es).length + ([] : List Keyword).length + (if ([] : List Keyword).isEmpty then 0 else 1) < 30)) = true := by rfl)
    (hline : (apos.endLine == cpos.line) = true := by rfl) (hs : starEach (e :: es) X.env = (false, eval e X.env) :: starEach es X.env := by rfl) (hplain : (backTo cpos (starEach es X.env)).any (·.1) = false := by rfl) :
    PE X (.Call (.Attribute (.Name x px) name apos) (e :: es) [] cpos) (can X.K (dOwnL i r t)) :=
  PE.imp (pe_bm PySem.F.plainAttrs_list slot hty hm (pe_var hN hv hd hcd) ha hbase hfew hline hs hplain) fun σ H Q h => by
    obtain ⟨v, h1, h2, h3⟩ := mth_run m h
    exact ⟨v, h1, h2, h3⟩
theorem de_ml0 {i : Nat} (slot : Slot "list" name id) (hty : typeOf (.builtin id) = pure (.type "method_descriptor")) (hm : MtR X id rV) (m : MthL X.K rV r)
    (hN : X.N[i]? = some x := by rfl) (hv : Vis X.env.scope x := by first | exact Or.inl rfl | exact Or.inr (Or.inl rfl) | exact Or.inr (Or.inr rfl)) (hd : (x == ("__debug__" : Str)) = false := by decide)
    (hcd : (x == ("__classdict__" : Str)) = false := by decide) (hbase : attributeBase (.Name x px) name X.env (eval (.Name x px) X.env) = eval (.Name x px) X.env := by rfl) (hline : (apos.endLine == cpos.line) = true := by rfl) :
    PE X (.Call (.Attribute (.Name x px) name apos) [] [] cpos) (can X.K (dOwnL i r dNil)) :=
  PE.imp (pe_bm0 PySem.F.plainAttrs_list slot hty hm (pe_var hN hv hd hcd) hbase hline) fun σ H Q h => by
    obtain ⟨v, h1, h2, h3⟩ := mth_run m h
    obtain ⟨W, P, G, q, R, t, k⟩ := h3
    exact ⟨v, h1, h2, k W [] G [] H (.refl W) R rfl t⟩
def mApp : List D → List D → (List D → D → Prop) → Prop := fun ds ys k => match ys with
  | [y] => ds.length < sizeLine ∧ k (ds ++ [y]) .non
  | _ => False
theorem ml_append : MthL K rAppend mApp := fun W H p xs us ds ys k Qv le hp r1 r2 h q => by
  match ys, h with
  | [y], ⟨h1, h2⟩ =>
    obtain ⟨u, r, rfl, ru, rr⟩ := r2
    obtain rfl : r = [] := rr
    exact ⟨p, xs, u, rfl, rfl, hp, by rw [r1.length]; exact h1, q (ds ++ [y]) .non (xs ++ [u]) .non (RpL.append r1 (show RpL K W [y] [u] from ⟨u, [], rfl, ru, rfl⟩)) rfl h2⟩
def mPop : List D → List D → (List D → D → Prop) → Prop := fun ds _ k => match ds.getLast? with
  | some d => k ds.dropLast d
  | none => False
theorem ml_pop : MthL K (fun x vs H Q => vs = [] → rPop x vs H Q) mPop := fun W H p xs us ds ys k Qv le hp r1 r2 h q e => by
  subst e
  unfold mPop at h
  cases e : ds.getLast? with
  | none => rw [e] at h; exact h.elim
  | some d =>
    rw [e] at h
    rw [List.getLast?_eq_getElem?] at e
    obtain ⟨v, h1, h2⟩ := r1.get e
    have h1' : xs[xs.length - 1]? = some v := by rw [r1.length]; exact h1
    refine ⟨p, xs, v, rfl, rfl, hp, h1', q ds.dropLast d _ v ?_ h2 h⟩
    have tk : ∀ {n : Nat} {ds : List D} {xs : List V}, RpL K W ds xs → RpL K W (ds.take n) (xs.take n) := fun {n} => by
      induction n with
      | zero => intro ds xs _; exact rfl
      | succ n ih =>
        intro ds xs r
        cases ds with
        | nil => obtain rfl : xs = [] := r; exact rfl
        | cons a ds => obtain ⟨v, z, rfl, a1, a2⟩ := r; exact ⟨v, z.take n, rfl, a1, ih a2⟩
    rw [List.dropLast_eq_take, List.dropLast_eq_take, ← r1.length]
    exact tk r1
/-- xs.extend(a list) -/
def mExt : List D → List D → (List D → D → Prop) → Prop := fun ds ys k => match ys with
  | [.lst es] => ds.length + es.length ≤ sizeLine ∧ k (ds ++ es) .non
  | _ => False
theorem ml_extend : MthL K rExtend mExt := fun W H p xs us ds ys k Qv le hp r1 r2 h q => by
  match ys, h with
  | [.lst es], ⟨h1, h2⟩ =>
    obtain ⟨u, r, rfl, ⟨b, zs, rfl, s, rz⟩, rr⟩ := r2
    obtain rfl : r = [] := rr
    exact ⟨p, b, xs, zs, rfl, rfl, hp, le _ _ s, by rw [r1.length, rz.length]; exact h1, q (ds ++ es) .non (xs ++ zs) .non (RpL.append r1 rz) rfl h2⟩
/-! x, y = a, b: new objects stay the slots' own -/
theorem Rl.guardP (R : Rl K W P G σ H) {p : Addr} {o : HO} (pr : Priv W H P p o) (hn : ∀ i e, gg G i = some (.own e) → σ[i]? ≠ some (some (.ref p))) (no : ∀ xs, o ≠ .tup xs) : Rl K W (upd P p o) G σ H := by
  refine ⟨R.len, R.le, fun a h => ?_, fun q u e => ?_, R.dat, fun i x e => ?_, R.sep, pnt_upd R.pnt no⟩
  · obtain ⟨h1, h2, h3⟩ := R.src a h
    exact ⟨h1, by rw [upd_ne (show a ≠ p from fun z => pr.s (by rw [← z]; exact h))]; exact h2, h3⟩
  · by_cases hq : q = p
    · subst hq; rw [upd_same] at e; cases e; exact ⟨pr.at_, pr.f⟩
    · rw [upd_ne hq] at e; exact R.prot q u e
  · obtain ⟨q, u, h1, h2, h3⟩ := R.own i x e
    exact ⟨q, u, h1, ⟨h2.at_, h2.f, h2.s, by rw [upd_ne (show q ≠ p from fun z => hn i x e (by rw [← z]; exact h1))]; exact h2.n⟩, h3⟩
def dPar2 (i j : Nat) (ta tb : DE) : DS := fun E G => ta G fun sa G1 => rest1 G1 sa fun ca G2 => tb G2 fun sb G3 => rest1 G3 sb fun cb G4 => E.nx (gset (gset G4 j (some cb)) i (some ca))
theorem ds_par2 {x y : Str} {a b : Expr} (i j : Nat) {ta tb : DE} {px py pt : Pos} {kt k2 pt2} (hN : X.N.Nodup) (ha : PE X a (can X.K ta)) (hb : PE X b (can X.K tb)) (hc : X.calm = true := by rfl) (hi : X.N[i]? = some x := by rfl) (hj : X.N[j]? = some y := by rfl) (hij : i ≠ j := by decide)
    (hx : X.env.scope.names.lookup x = some .local := by rfl) (hy : X.env.scope.names.lookup y = some .local := by rfl)
    (hw : swappedStores [.Tuple [.Name x px, .Name y py] kt pt] (.Tuple [a, b] k2 pt2) X.env = pure (some [x, y]) := by rfl)
    (hs : swapsWithSole [.Tuple [.Name x px, .Name y py] kt pt] (.Tuple [a, b] k2 pt2) pos.line X.env = pure false := by rfl)
    (s1 : starEach [a, b] X.env = (false, eval a X.env) :: starEach [b] X.env := by rfl) (s2 : starEach [b] X.env = (false, eval b X.env) :: starEach [] X.env := by rfl) :
    PS X (.Assign [.Tuple [.Name x px, .Name y py] kt pt] (.Tuple [a, b] k2 pt2) pos) (canS X.K (dPar2 i j ta tb)) := by
  refine PS.imp (ps_par hc hN hi hj hij hx hy (pa_cons ha (pa_cons hb pa_nil s2) s1) hw hs) ?_
  rintro D σ H ⟨W, P, G, E, R, t, k⟩
  have swp : ∀ (v w : V), (σ.set j (some w)).set i (some v) = (σ.set i (some v)).set j (some w) := fun v w => List.set_comm _ _ (Ne.symm hij)
  refine ⟨W, P, G, _, R, t, fun W1 sa G1 v H1 l1 R1 r1 q1 => ?_⟩
  cases sa with
  | dat d =>
    have q1 : tb G1 fun sb G3 => rest1 G3 sb fun cb G4 => E.nx (gset (gset G4 j (some cb)) i (some (.dat d))) := q1
    refine ⟨W1, P, G1, _, R1, q1, fun W2 sb G2 w H2 l2 R2 r2 q2 => ⟨v, w, rfl, ?_⟩⟩
    obtain ⟨W3, c, G3, l3, R3, q3⟩ := R2.rest (i := j) r2 q2
    rw [← swp]
    exact k.nx W3 _ _ H2 ((l1.trans l2).trans l3) (R3.setDat i (Rp.mono (l2.trans l3) _ _ r1)) q3
  | bor n =>
    have q1 : LD.frz G1 (SV.bor n) fun d G2 => tb G2 fun sb G3 => rest1 G3 sb fun cb G4 => E.nx (gset (gset G4 j (some cb)) i (some (.dat d))) := q1
    obtain ⟨Wa, d, Ga, la, Ra, ra, q1⟩ := R1.frz r1 q1
    refine ⟨Wa, P, Ga, _, Ra, q1, fun W2 sb G2 w H2 l2 R2 r2 q2 => ⟨v, w, rfl, ?_⟩⟩
    obtain ⟨W3, c, G3, l3, R3, q3⟩ := R2.rest (i := j) r2 q2
    rw [← swp]
    exact k.nx W3 _ _ H2 (((l1.trans la).trans l2).trans l3) (R3.setDat i (Rp.mono (l2.trans l3) _ _ ra)) q3
  | new d =>
    obtain ⟨p, o, rfl, pr, ro, hn⟩ := r1
    have q1 : tb G1 fun sb G3 => rest1 G3 sb fun cb G4 => E.nx (gset (gset G4 j (some cb)) i (some (.own d))) := q1
    refine ⟨W1, upd P p o, G1, _, R1.guardP pr hn ro.nt, q1, fun W2 sb G2 w H2 l2 R2 r2 q2 => ⟨.ref p, w, rfl, ?_⟩⟩
    obtain ⟨W3, c, G3, l3, R3, q3⟩ := R2.rest (i := j) r2 q2
    obtain ⟨R4, p', o', e, pr4, ro4, hn4⟩ := R3.unguard (d := d) pr.n (ro.mono (l2.trans l3))
    cases e
    rw [← swp]
    exact k.nx W3 _ _ H2 ((l1.trans l2).trans l3) (R4.setOwn i pr4 ro4 hn4) q3

/-! ### slices with a step -/
/-- what a slice of a value is, the step too -/
def SlR3 (X : Cx) (r : V → Option Int → Option Int → Option Int → Hp → VK → Prop) : Prop :=
  ∀ (pins : List (Addr × Obj)) (s : Shared) (σ : St) (H : Hp) (x : V) (v vl vu vs : Value) (lo hi st : Option Int) (sl : Addr) (Q : VK), Inv X pins σ H s → RelV x v → s.heap.IsSliceOf sl vl vu vs → IsPart vl lo → IsPart vu hi → IsPart vs st → r x lo hi st H Q →
    ∃ T id, typeLookup (.type T) "__getitem__" = pure (some (.builtin id)) ∧ s.TypeIs v T ∧ wpAny (model X.prog X.w) X.A (getItem v (.ref sl)) (EP X pins σ Q) X.xe s
theorem SlR3.or {r r' : V → Option Int → Option Int → Option Int → Hp → VK → Prop} (h : SlR3 X r) (h' : SlR3 X r') : SlR3 X (fun x lo hi st H Q => r x lo hi st H Q ∨ r' x lo hi st H Q) := by
  intro pins s σ H x v vl vu vs lo hi st sl Q I rx hs pl pu ps q
  rcases q with q | q
  · exact h pins s σ H x v vl vu vs lo hi st sl Q I rx hs pl pu ps q
  · exact h' pins s σ H x v vl vu vs lo hi st sl Q I rx hs pl pu ps q
theorem SlR3.imp {r r' : V → Option Int → Option Int → Option Int → Hp → VK → Prop} (h : SlR3 X r) (i : ∀ x lo hi st H Q, r' x lo hi st H Q → r x lo hi st H Q) : SlR3 X r' :=
  fun pins s σ H x v vl vu vs lo hi st sl Q I rx hs pl pu ps q => h pins s σ H x v vl vu vs lo hi st sl Q I rx hs pl pu ps (i x lo hi st H Q q)
def tSl3 (r : V → Option Int → Option Int → Option Int → Hp → VK → Prop) (te : TE) (tl th ts : TO) : TE := fun σ H Q => te σ H fun x H1 => tl σ H1 fun l H2 => th σ H2 fun u H3 => ts σ H3 fun c H4 => r x l u c H4 Q
theorem pe_slice3 {r : V → Option Int → Option Int → Option Int → Hp → VK → Prop} {te : TE} {lo hi : Option Expr} {e3 : Expr} {tl th ts : TO} {p2 : Pos} (hr : SlR3 X r) (he : PE X e te) (hl : PO X lo tl) (hu : PO X hi th) (hs : PO X (some e3) ts) : PE X (.Subscript e (.Slice lo hi (some e3) p2) pos) (tSl3 r te tl th ts) := by
  refine ⟨fun pins s σ H Q I h => ?_⟩
  refine Subscript_ (thn (he.run pins s σ H _ I h) fun v s1 ⟨x, H1, I1, r1, q1⟩ => ?_)
  refine wpAny_Slice (thn (hl.run pins s1 σ H1 _ I1 q1) fun vl s2 ⟨l, H2, I2, pl, q2⟩ => thn (hu.run pins s2 σ H2 _ I2 q2) fun vu s3 ⟨u, H3, I3, pu, q3⟩ => thn (hs.run pins s3 σ H3 _ I3 q3) fun vs s4 ⟨c, H4, I4, pc, q4⟩ => ?_)
  have I5 : Inv X pins σ H4 { s4 with heap := s4.heap.push { cls := .type "slice", data := .fields #[vl, vu, vs] } } := I4.kept (t' := s4.toks) fun b ob q => Heap.get?_push_of_some _ q
  obtain ⟨T, id, hT, ht, hg⟩ := hr pins { s4 with heap := s4.heap.push { cls := .type "slice", data := .fields #[vl, vu, vs] } } σ H4 x v vl vu vs l u c s4.heap.objs.size Q I5 r1 (Heap.IsSliceOf.new ..) pl pu pc q4
  show wpAny (model X.prog X.w) X.A (subscriptTail e (.Slice lo hi (some e3) p2) v (.ref s4.heap.objs.size)) (EP X pins σ Q) X.xe { s4 with heap := s4.heap.push { cls := .type "slice", data := .fields #[vl, vu, vs] } }
  exact tail_any (ops := [v, .ref s4.heap.objs.size]) ht hT hg (by with_unfolding_all rfl)
/-- the items at the places of a slice -/
def pickL {α : Type} (xs : List α) (lo hi st : Option Int) : List α := (sliceRange (sliceBounds lo hi st xs.length).1 (sliceBounds lo hi st xs.length).2.1 (sliceBounds lo hi st xs.length).2.2).filterMap fun i => xs[i]?
theorem pick_arr (its : List Value) (lo hi st : Option Int) : slicePick its.toArray lo hi st = (pickL its lo hi st).toArray := by
  unfold slicePick pickL
  rw [List.size_toArray]
  congr 1
  refine congrArg (fun f => List.filterMap f _) ?_
  funext i
  simp
theorem pickL_len {α : Type} (xs : List α) (lo hi st : Option Int) : (pickL xs lo hi st).length ≤ xs.length := by
  have h := slicePick_size_le (xs.map fun _ => Value.none).toArray lo hi st
  rw [pick_arr, List.size_toArray, List.size_toArray, List.length_map] at h
  refine Nat.le_trans (Nat.le_of_eq ?_) h
  unfold pickL
  rw [List.length_map]
  generalize sliceRange _ _ _ = l
  induction l with
  | nil => rfl
  | cons i l ih =>
    rw [List.filterMap_cons, List.filterMap_cons, List.getElem?_map]
    cases xs[i]? with
    | none => exact ih
    | some a => exact congrArg Nat.succ ih
theorem pick_vals {xs : List V} {us : List Value} (r : Vals xs us) (is : List Nat) : Vals (is.filterMap fun i => xs[i]?) (is.filterMap fun i => us[i]?) := by
  have gt : ∀ (i : Nat), (xs[i]? = none ∧ us[i]? = none) ∨ ∃ a b, xs[i]? = some a ∧ us[i]? = some b ∧ RelV a b := by
    intro i
    induction r generalizing i with
    | nil => exact .inl ⟨rfl, rfl⟩
    | cons r t ih => cases i with
      | zero => exact .inr ⟨_, _, rfl, rfl, r⟩
      | succ n => exact ih n
  induction is with
  | nil => exact .nil
  | cons i is ih =>
    rw [List.filterMap_cons, List.filterMap_cons]
    rcases gt i with ⟨h1, h2⟩ | ⟨a, b, h1, h2, h3⟩
    · rw [h1, h2]; exact ih
    · rw [h1, h2]; exact .cons h3 ih
def rSlL3 (K : PySem.W.Frag) : V → Option Int → Option Int → Option Int → Hp → VK → Prop := fun x lo hi st H Q => ∃ a xs, x = .ref a ∧ SqL K H a xs ∧ st ≠ some 0 ∧ ∀ p, H p = none → Q (.ref p) (upd H p (.lst (pickL xs lo hi st)))
theorem sl3_list : SlR3 X (rSlL3 X.K) := by
  intro pins s σ H x v vl vu vs lo hi st sl Q I rx hs pl pu ps h
  obtain ⟨a, xs, rfl, hx, h0, q⟩ := h
  cases rx
  obtain ⟨its, r, ht, hz⟩ := I.list hx
  have hlen := r.length
  refine ⟨"list", _, slot_list_getitem.lookup, ht.isList.typeIs, ?_⟩
  refine wpAny_getItem_list_slice ht.isList hs pl pu ps h0 ?_ (by rw [List.size_toArray] <;> omega)
  rw [pick_arr]
  refine ⟨.ref s.heap.objs.size, _, I.laid (t' := s.toks) (o := .lst (pickL xs lo hi st)) (fun b ob q => Heap.get?_push_of_some _ q) (Nat.le_refl _) ?_, rfl, q _ (I.hok.fresh (Nat.le_refl _))⟩
  refine ⟨Nat.le_trans (pickL_len _ _ _ _) hz, _, 0, ?_, Heap.get?_push_size _ rfl⟩
  have := pick_vals r (sliceRange (sliceBounds lo hi st xs.length).1 (sliceBounds lo hi st xs.length).2.1 (sliceBounds lo hi st xs.length).2.2)
  unfold pickL
  rw [← hlen]
  exact this
end
section
variable {prog : Program} {w : World} {A : Around} {E : Value → Shared → Prop} {s : Shared}
theorem places_rev (n : Nat) : Builtin.Slice.slicePlaces ((n : Int) - 1) (-1) (-1) = n := by
  unfold Builtin.Slice.slicePlaces
  rw [if_neg (by decide)]
  simp only [Int.neg_neg, Int.ediv_one]
  split <;> omega
theorem adjust_rev (n : Nat) : Builtin.Slice.sliceAdjust none none (-1) (n : Int) = ((n : Int) - 1, -1) := rfl
theorem sliceApplied_rev {sl : Addr} {vl vu vs : Value} {n : Nat} {Q : Int × Int × Nat → Shared → Prop} (hs : s.heap.IsSliceOf sl vl vu vs) (pl : IsPart vl none) (pu : IsPart vu none) (ps : IsPart vs (some (-1)))
    (h : Q ((n : Int) - 1, -1, n) s) : wpAny (model prog w) A (Builtin.Slice.sliceApplied (.ref sl) (pure (n : Int))) Q E s := by
  obtain ⟨os, hos, hcs, hds⟩ := id hs
  unfold Builtin.Slice.sliceApplied Builtin.Slice.sliceFields
  refine wpAny_bind (wpAny_bind (wpAny_field hos hds (x := vl) rfl (wpAny_bind (wpAny_field hos hds (x := vu) rfl (wpAny_bind (wpAny_field hos hds (x := vs) rfl (wpAny_pure ?_)))))))
  refine wpAny_bind (HT.slicePart_ ps ?_)
  show wpAny _ _ (if ((-1 : Int) == 0) = true then _ else _) _ _ s
  rw [if_neg (by decide)]
  refine wpAny_bind (HT.slicePart_ pl (wpAny_bind (HT.slicePart_ pu (wpAny_bind (wpAny_pure ?_)))))
  show wpAny _ _ (match Builtin.Slice.sliceAdjust none none (-1) (n : Int) with | (lo, hi) => pure (lo, (-1 : Int), Builtin.Slice.slicePlaces lo hi (-1))) _ _ s
  rw [adjust_rev n]
  show wpAny _ _ (pure (((n : Int) - 1), (-1 : Int), Builtin.Slice.slicePlaces ((n : Int) - 1) (-1) (-1))) _ _ s
  rw [places_rev]
  exact wpAny_pure h
theorem fm_congr {α β : Type} {f g : α → Option β} : ∀ {l : List α}, (∀ a ∈ l, f a = g a) → l.filterMap f = l.filterMap g
  | [], _ => rfl
  | a :: l, h => by rw [List.filterMap_cons, List.filterMap_cons, h a List.mem_cons_self, fm_congr fun x hx => h x (List.mem_cons_of_mem _ hx)]
theorem pick_rev (xs : Array Value) : ((List.range xs.size).filterMap fun (m : Nat) => xs[(((xs.size : Int) - 1) + (m : Int) * (-1)).toNat]?).toArray = xs.toList.reverse.toArray := by
  congr 1
  have e : ∀ m ∈ List.range xs.size, xs[(((xs.size : Int) - 1) + (m : Int) * (-1)).toNat]? = some (xs.toList.reverse.getD m .none) := fun m hm => by
    have hm := List.mem_range.mp hm
    have h1 : (((xs.size : Int) - 1) + (m : Int) * (-1)).toNat = xs.size - 1 - m := by omega
    rw [h1, ← Array.getElem?_toList, List.getD_eq_getElem?_getD, List.getElem?_reverse (by rw [Array.length_toList]; exact hm), Array.length_toList, List.getElem?_eq_getElem (by rw [Array.length_toList]; omega)]
    rfl
  rw [fm_congr (g := fun m => some (xs.toList.reverse.getD m .none)) e, List.filterMap_eq_map']
  refine List.ext_getElem? fun i => ?_
  rw [List.getElem?_map]
  by_cases hi : i < xs.size
  · rw [List.getElem?_range hi, List.getElem?_eq_getElem (by rw [List.length_reverse, Array.length_toList]; exact hi)]
    simp [List.getD_eq_getElem?_getD, hi]
  · rw [List.getElem?_eq_none (by rw [List.length_range]; omega), List.getElem?_eq_none (by rw [List.length_reverse, Array.length_toList]; omega)]
    rfl
theorem getItem_tuple_rev {t sl : Addr} {items : Array Value} {vl vu vs : Value} {Q : Value → Shared → Prop} (ht : IsTup s.heap t items) (hs : s.heap.IsSliceOf sl vl vu vs) (pl : IsPart vl none) (pu : IsPart vu none) (ps : IsPart vs (some (-1)))
    (h : Q (.ref s.heap.objs.size) { s with heap := s.heap.push { cls := .type "tuple", data := .seq items.toList.reverse.toArray } })
    (hsz : items.size ≤ sizeLine) : wpAny (model prog w) A (getItem (.ref t) (.ref sl)) Q E s := by
  have htake : sizeOk (.seq items.toList.reverse.toArray) := by
    show items.toList.reverse.toArray.size ≤ sizeLine
    rw [List.size_toArray, List.length_reverse, Array.length_toList]
    exact hsz
  obtain ⟨os, hos, hcs, hds⟩ := id hs
  have hTs : s.TypeIs (.ref sl) "slice" := ⟨os, hos, hcs⟩
  unfold getItem
  try with_reducible refine wpAny_holding ?_
  first | refine wpAny_bind (wpAny_pure ?_) | skip
  refine wpAny_bind (wpAny_sequenceKey ht.typeIs (by decide) ?_)
  refine wpAny_bind (wpAny_callSpecial?_slot (name := Str.ofString "__getitem__") ht.typeIs PyProof.Rows.slot_tuple_getitem
    (wpAny_call_entry PyProof.Rows.slot_tuple_getitem ht.typeIs entry_tuple_getitem ?_ (args_tuple_getitem _ _)))
  show wpAny _ _ (Builtin.Tuple.tupleItemsOf (.ref t) >>= _) _ _ s
  refine wpAny_bind (tupleItemsOf_ ht ?_)
  refine wpAny_bind (wpAny_typeOf hTs ?_)
  rw [if_pos (by decide)]
  refine wpAny_bind (sliceApplied_rev hs pl pu ps ?_)
  show wpAny _ _ (if ((((items.size : Int) - 1)) == 0 && (-1 : Int) == 1 && items.size == items.size) = true then _ else _) _ _ s
  rw [if_neg (by rw [show ((-1 : Int) == 1) = false from rfl, Bool.and_false, Bool.false_and]; decide), pick_rev]
  first
    | exact wpAny_bind (m := Builtin.Tuple.tupleExact _) (wpAny_newObj_type (wpAny_pure ⟨_, rfl, wpAny_pure h⟩) htake)
    | exact wpAny_bind (m := Builtin.Tuple.tupleExact _) (wpAny_newObj_type (wpAny_bind (wpAny_pure (wpAny_pure ⟨_, rfl, wpAny_pure h⟩))) htake)
    | exact wpAny_bind (wpAny_bind (m := Builtin.Tuple.tupleExact _) (wpAny_newObj_type (wpAny_pure (wpAny_pure ⟨_, rfl, wpAny_pure h⟩)) htake))
    | exact wpAny_bind (wpAny_bind (m := Builtin.Tuple.tupleExact _) (wpAny_newObj_type (wpAny_pure ⟨_, rfl, wpAny_pure h⟩) htake))
end
section
variable {X : Cx} {K : PySem.W.Frag} {W : Wd} {P : Hp} {G : Gm} {σ : St} {H : Hp} {e : Expr} {pos : Pos}
theorem vals_rev : ∀ {xs : List V} {us : List Value}, Vals xs us → Vals xs.reverse us.reverse
  | _, _, .nil => .nil
  | _, _, .cons r t => by
    rw [List.reverse_cons, List.reverse_cons]
    exact (vals_rev t).append (.cons r .nil)
def rSlT3 (K : PySem.W.Frag) : V → Option Int → Option Int → Option Int → Hp → VK → Prop := fun x lo hi st H Q => ∃ a xs, x = .ref a ∧ SqT K H a xs ∧ lo = none ∧ hi = none ∧ st = some (-1) ∧ ∀ p, H p = none → Q (.ref p) (upd H p (.tup xs.reverse))
theorem sl3_tup : SlR3 X (rSlT3 X.K) := by
  intro pins s σ H x v vl vu vs lo hi st sl Q I rx hs pl pu ps h
  obtain ⟨a, xs, rfl, hx, rfl, rfl, rfl, q⟩ := h
  cases rx
  obtain ⟨its, r, ht, hz⟩ := I.tuple hx
  have hlen : its.toArray.size = xs.length := by rw [List.size_toArray]; exact r.length.symm
  refine ⟨"tuple", _, PyProof.Rows.slot_tuple_getitem.lookup, ht.typeIs, ?_⟩
  refine getItem_tuple_rev ht hs pl pu ps ?_ (by rw [hlen]; exact hz)
  refine ⟨.ref s.heap.objs.size, _, I.laid (t' := s.toks) (o := .tup xs.reverse) (fun b ob q => Heap.get?_push_of_some _ q) (Nat.le_refl _) ?_, rfl, q _ (I.hok.fresh (Nat.le_refl _))⟩
  exact ⟨by rw [List.length_reverse]; exact hz, _, vals_rev r, IsTup.new _ _⟩
theorem RpL.rev : ∀ {ds : List D} {xs : List V}, RpL K W ds xs → RpL K W ds.reverse xs.reverse
  | [], _, h => by obtain rfl : _ = [] := h; exact rfl
  | d :: ds, _, h => by
    obtain ⟨v, r, rfl, h1, h2⟩ := h
    rw [List.reverse_cons, List.reverse_cons]
    exact RpL.append (RpL.rev h2) ⟨v, [], rfl, h1, rfl⟩
theorem RpL.pick {ds : List D} {xs : List V} (r : RpL K W ds xs) (lo hi st : Option Int) : RpL K W (pickL ds lo hi st) (pickL xs lo hi st) := by
  have key : ∀ is : List Nat, RpL K W (is.filterMap fun i => ds[i]?) (is.filterMap fun i => xs[i]?) := by
    intro is
    induction is with
    | nil => rfl
    | cons i is ih =>
      rw [List.filterMap_cons, List.filterMap_cons]
      cases e : ds[i]? with
      | none =>
        have : xs[i]? = none := by
          rw [List.getElem?_eq_none_iff] at e ⊢; rw [r.length]; exact e
        rw [this]; exact ih
      | some d =>
        obtain ⟨v, e2, r2⟩ := RpL.get r e
        rw [e2]; exact ⟨v, _, rfl, r2, ih⟩
  unfold pickL
  rw [r.length]
  exact key _
def dSlc3 (a : D) (lo hi st : Option Int) (Q : SV → Prop) : Prop := match a with
  | .lst ds => st ≠ some 0 ∧ Q (.new (.lst (pickL ds lo hi st)))
  | .tup ds => lo = none ∧ hi = none ∧ st = some (-1) ∧ Q (.dat (.tup ds.reverse))
  | _ => False
def dSl3 (ta : DE) (tl th ts : DO) : DE := fun G Q => ta G fun sa G1 => tl G1 fun lo G2 => th G2 fun hi G3 => ts G3 fun st G4 => see G4 sa fun x => dSlc3 x lo hi st fun r => Q r G4
def canS4 (K : PySem.W.Frag) : V → Option Int → Option Int → Option Int → Hp → VK → Prop := fun x lo hi st H Qv => ∃ W P G σ a Q, Rl K W P G σ H ∧ RN K W H a x ∧ dSlc3 a lo hi st Q ∧ Rs K W P G σ Q Qv
theorem sd_sl3 : SlR3 X (canS4 X.K) := by
  refine SlR3.imp (SlR3.or sl3_list sl3_tup) ?_
  rintro x lo hi st H Qv ⟨W, P, G, σ, a, Q, R, ha, t, r⟩
  cases a <;> first | exact False.elim t | skip
  · obtain ⟨p, xs, rfl, s1, r1⟩ := ha
    obtain ⟨h1, h2, h3, t⟩ := t
    exact .inr ⟨p, _, rfl, .of s1, h1, h2, h3, fun q hq => r.newT R hq (RpL.rev r1) t⟩
  · obtain ⟨p, xs, rfl, s1, r1⟩ := ha
    exact .inl ⟨p, _, rfl, .of s1, t.1, fun q hq => r.new R hq (o := .lst _) (d := .lst _) (RpL.pick r1 lo hi st) t.2⟩
theorem de_sl3 {lo hi : Option Expr} {e3 : Expr} {ta : DE} {tl th ts : DO} {p2 : Pos} (he : PE X e (can X.K ta)) (hl : PO X lo (canP X.K tl)) (hh : PO X hi (canP X.K th)) (hs : PO X (some e3) (canP X.K ts)) : PE X (.Subscript e (.Slice lo hi (some e3) p2) pos) (can X.K (dSl3 ta tl th ts)) := by
  refine PE.imp (pe_slice3 sd_sl3 he hl hh hs) ?_
  rintro σ H Qv ⟨W, P, G, Q, R, t, k⟩
  refine can_one R t fun W1 G1 sa x H1 l R1 s1 q => ?_
  refine ⟨W1, P, G1, _, R1, q, fun W2 lo G2 H2 l2 R2 q2 => ⟨W2, P, G2, _, R2, q2, fun W3 hi G3 H3 l3 R3 q3 => ⟨W3, P, G3, _, R3, q3, fun W4 st G4 H4 l4 R4 q4 => ?_⟩⟩⟩
  obtain ⟨d, n, q⟩ := R4.see (s1.mono ((l2.trans l3).trans l4)) q4
  exact ⟨W4, P, G4, σ, d, fun r => Q r G4, R4, n, q, fun W5 sv v H5 l5 R5 r5 q5 => k W5 sv G4 v H5 ((((l.trans l2).trans l3).trans l4).trans l5) R5 r5 q5⟩
/-! list(range(..)) -/
def isI (sv : SV) (k : Int → Prop) : Prop := match sv with
  | .dat (.int i) => k i
  | _ => False
theorem isI_of {sv : SV} {v : V} {k : Int → Prop} (h : RV K W P G σ H sv v) (t : isI sv k) : ∃ b, v = .int b ∧ k b := by
  cases sv <;> first | exact False.elim t | skip
  rename_i d
  cases d <;> first | exact False.elim t | skip
  exact ⟨_, h, t⟩
def dLRg1 (t : DE) : DE := fun G Q => t G fun sv G1 => isI sv fun j => (0 ≤ j ∧ j ≤ 16777216) ∧ Q (.new (.lst (rangeD 0 j.toNat))) G1
theorem rg_rp : ∀ (n : Nat) (lo : Int), RpL K W (rangeD lo n) ((List.range n).map fun i => V.int (lo + (i : Nat)))
  | 0, _ => rfl
  | n + 1, lo => by
    rw [rangeD, List.range_succ_eq_map, List.map_cons, List.map_map]
    refine ⟨.int lo, _, by simp; rfl, rfl, ?_⟩
    have := rg_rp n (lo + 1)
    have e : ((fun i : Nat => V.int (lo + (i : Int))) ∘ Nat.succ) = fun i : Nat => V.int (lo + 1 + (i : Int)) := by
      funext i; show V.int (lo + ((i + 1 : Nat) : Int)) = _; congr 1; omega
    rw [e]; exact this
theorem de_lrg1 {a : Expr} {t : DE} {p p2 pos2 : Pos} (hm : X.mg "list" = none) (hr : X.mg "range" = none) (ha : PE X a (can X.K t)) (hc : X.calm = true := by rfl) (hg : Gl X "list" := by rfl) (hg2 : Gl X "range" := by rfl) (na : starEach [a] X.env = (false, eval a X.env) :: starEach [] X.env := by rfl)
    (nb : starEach [Expr.Call (.Name "range" p2) [a] [] pos2] X.env = (false, eval (Expr.Call (.Name "range" p2) [a] [] pos2) X.env) :: starEach [] X.env := by rfl) : PE X (.Call (.Name "list" p) [.Call (.Name "range" p2) [a] [] pos2] [] pos) (can X.K (dLRg1 t)) := by
  refine PE.imp (pe_listRg hc hg hm (prg_1 hg2 hr ha na) nb) ?_
  rintro σ H Qv ⟨W, P, G, Q, R, t, k⟩
  refine ⟨W, P, G, _, R, t, fun W1 sv G1 v H1 l1 R1 r1 q1 => ?_⟩
  obtain ⟨j, rfl, ⟨j1, j2⟩, q⟩ := isI_of r1 q1
  refine ⟨j, rfl, RgOk.of_le (by omega) j2 (by omega) j1, fun p hp => ?_⟩
  obtain ⟨R2, r2⟩ := R1.alloc (o := .lst (rgV 0 j)) (d := .lst (rangeD 0 j.toNat)) hp (by unfold rgV; rw [show (j - 0).toNat = j.toNat by omega]; exact rg_rp _ _)
  exact k W1 _ G1 _ _ l1 R2 r2 q
/-! {} -/
def dDnK : DE := fun G Q => Q (.new (.dK [])) G
def dDnT : DE := fun G Q => Q (.new (.dT [])) G
theorem de_dnK : PE X (.Dict [] [] pos) (can X.K dDnK) := by
  refine PE.imp pe_dnewK ?_
  rintro σ H Qv ⟨W, P, G, Q, R, t, k⟩
  intro a ha
  obtain ⟨R2, r2⟩ := R.alloc (o := .dK []) (d := .dK []) ha rfl
  exact k W _ G _ _ (.refl W) R2 r2 t
theorem de_dnT : PE X (.Dict [] [] pos) (can X.K dDnT) := by
  refine PE.imp pe_dnewT ?_
  rintro σ H Qv ⟨W, P, G, Q, R, t, k⟩
  intro a ha
  obtain ⟨R2, r2⟩ := R.alloc (o := .dT []) (d := .dT []) ha rfl
  exact k W _ G _ _ (.refl W) R2 r2 t
end
section
variable {X : Cx} {K : PySem.W.Frag} {W : Wd} {P : Hp} {G : Gm} {σ : St} {H : Hp} {e : Expr} {pos : Pos}
/-! ### own dicts -/
def putD {κ : Type} [DecidableEq κ] (es : List (κ × D)) (k : κ) (d : D) : List (κ × D) := if (es.any fun kv => decide (kv.1 = k)) = true then es.map (fun kv => if kv.1 = k then (kv.1, d) else kv) else es ++ [(k, d)]
theorem RpT.keys : ∀ {es : List (List Key × D)} {kvs : List (List Key × V)}, RpT K W es kvs → ∀ k, (kvs.any fun kv => decide (kv.1 = k)) = (es.any fun kv => decide (kv.1 = k))
  | [], _, h, k => by obtain rfl : _ = [] := h; rfl
  | (k', d) :: es, _, h, k => by
    obtain ⟨v, r, rfl, _, h2⟩ := h
    rw [List.any_cons, List.any_cons, RpT.keys h2 k]
theorem RpT.upd {k : List Key} {d : D} {v : V} (rv : Rp K W d v) : ∀ {es : List (List Key × D)} {kvs : List (List Key × V)}, RpT K W es kvs → RpT K W (es.map fun kv => if kv.1 = k then (kv.1, d) else kv) (kvs.map fun kv => if kv.1 = k then (kv.1, v) else kv)
  | [], _, h => by obtain rfl : _ = [] := h; rfl
  | (k', d') :: es, _, h => by
    obtain ⟨v', r, rfl, h1, h2⟩ := h
    rw [List.map_cons, List.map_cons]
    by_cases e : k' = k
    · rw [if_pos e, if_pos e]; exact ⟨v, _, rfl, rv, RpT.upd rv h2⟩
    · rw [if_neg e, if_neg e]; exact ⟨v', _, rfl, h1, RpT.upd rv h2⟩
theorem RpT.snoc {k : List Key} {d : D} {v : V} (rv : Rp K W d v) : ∀ {es : List (List Key × D)} {kvs : List (List Key × V)}, RpT K W es kvs → RpT K W (es ++ [(k, d)]) (kvs ++ [(k, v)])
  | [], _, h => by obtain rfl : _ = [] := h; exact ⟨v, [], rfl, rv, rfl⟩
  | (k', d') :: es, _, h => by obtain ⟨v', r, rfl, h1, h2⟩ := h; exact ⟨v', _, rfl, h1, RpT.snoc rv h2⟩
theorem RpT.len : ∀ {es : List (List Key × D)} {kvs : List (List Key × V)}, RpT K W es kvs → kvs.length = es.length
  | [], _, h => by obtain rfl : _ = [] := h; rfl
  | (k', d') :: es, _, h => by obtain ⟨v', r, rfl, h1, h2⟩ := h; rw [List.length_cons, List.length_cons, RpT.len h2]
theorem RpT.put {k : List Key} {d : D} {v : V} {es : List (List Key × D)} {kvs : List (List Key × V)} (h : RpT K W es kvs) (rv : Rp K W d v) : RpT K W (putD es k d) (putK kvs k v) := by
  unfold putD putK
  rw [h.keys k]
  split
  · exact RpT.upd rv h
  · exact RpT.snoc rv h
theorem RpK.keys : ∀ {es : List (Key × D)} {kvs : List (Key × V)}, RpK K W es kvs → ∀ k, (kvs.any fun kv => decide (kv.1 = k)) = (es.any fun kv => decide (kv.1 = k))
  | [], _, h, k => by obtain rfl : _ = [] := h; rfl
  | (k', d) :: es, _, h, k => by
    obtain ⟨v, r, rfl, _, h2⟩ := h
    rw [List.any_cons, List.any_cons, RpK.keys h2 k]
theorem RpK.upd {k : Key} {d : D} {v : V} (rv : Rp K W d v) : ∀ {es : List (Key × D)} {kvs : List (Key × V)}, RpK K W es kvs → RpK K W (es.map fun kv => if kv.1 = k then (kv.1, d) else kv) (kvs.map fun kv => if kv.1 = k then (kv.1, v) else kv)
  | [], _, h => by obtain rfl : _ = [] := h; rfl
  | (k', d') :: es, _, h => by
    obtain ⟨v', r, rfl, h1, h2⟩ := h
    rw [List.map_cons, List.map_cons]
    by_cases e : k' = k
    · rw [if_pos e, if_pos e]; exact ⟨v, _, rfl, rv, RpK.upd rv h2⟩
    · rw [if_neg e, if_neg e]; exact ⟨v', _, rfl, h1, RpK.upd rv h2⟩
theorem RpK.snoc {k : Key} {d : D} {v : V} (rv : Rp K W d v) : ∀ {es : List (Key × D)} {kvs : List (Key × V)}, RpK K W es kvs → RpK K W (es ++ [(k, d)]) (kvs ++ [(k, v)])
  | [], _, h => by obtain rfl : _ = [] := h; exact ⟨v, [], rfl, rv, rfl⟩
  | (k', d') :: es, _, h => by obtain ⟨v', r, rfl, h1, h2⟩ := h; exact ⟨v', _, rfl, h1, RpK.snoc rv h2⟩
theorem RpK.len : ∀ {es : List (Key × D)} {kvs : List (Key × V)}, RpK K W es kvs → kvs.length = es.length
  | [], _, h => by obtain rfl : _ = [] := h; rfl
  | (k', d') :: es, _, h => by obtain ⟨v', r, rfl, h1, h2⟩ := h; rw [List.length_cons, List.length_cons, RpK.len h2]
theorem RpK.put {k : Key} {d : D} {v : V} {es : List (Key × D)} {kvs : List (Key × V)} (h : RpK K W es kvs) (rv : Rp K W d v) : RpK K W (putD es k d) (putK kvs k v) := by
  unfold putD putK
  rw [h.keys k]
  split
  · exact RpK.upd rv h
  · exact RpK.snoc rv h
def putO (G : Gm) (i : Nat) (b dv : D) (k : D → Prop) : Prop := match gg G i with
  | some (.own (.dT es)) => (match b with | .tup ds => (match keysOf ds with | some ks => es.length < sizeLine ∧ k (.dT (putD es ks dv)) | none => False) | _ => False)
  | some (.own (.dK es)) => (match keyOf b with | some kk => es.length < sizeLine ∧ k (.dK (putD es kk dv)) | none => False)
  | _ => False
def isOwn (G : Gm) (i : Nat) : Prop := match gg G i with
  | some (.own _) => True
  | _ => False
theorem isOwn_of {i : Nat} (h : isOwn G i) : ∃ d, gg G i = some (.own d) := by
  unfold isOwn at h
  split at h
  · exact ⟨_, by assumption⟩
  · exact h.elim
/-- d[k] = v, d an own dict -/
def dPut (i : Nat) (tv tk : DE) : DS := fun E G => tv G fun sv G1 => frz G1 sv fun dv G2 => isOwn G2 i ∧ tk G2 fun sk G3 => frz G3 sk fun b G4 => putO G4 i b dv fun d' => E.nx (gset G4 i (some (.own d')))
theorem ds_put {x : Str} {px pt : Pos} {kx value : Expr} {tv tk : DE} (i : Nat) (hvl : PE X value (can X.K tv)) (hk : PE X kx (can X.K tk)) (hu : X.A.units + 65 < cLine) (hN : X.N[i]? = some x := by rfl)
    (hv : Vis X.env.scope x := by first | exact Or.inl rfl | exact Or.inr (Or.inl rfl) | exact Or.inr (Or.inr rfl)) (hd : (x == ("__debug__" : Str)) = false := by decide)
    (hcd : (x == ("__classdict__" : Str)) = false := by decide)
    (hs : swapsWith value (some (.Subscript (.Name x px) kx pt)) pos.line X.env = pure false := by rfl) :
    PS X (.Assign [.Subscript (.Name x px) kx pt] value pos) (canS X.K (dPut i tv tk)) := by
  refine PS.imp (ps_dput (Nat.lt_of_le_of_lt (by omega) hu) (pe_var hN hv hd hcd) hk hvl hs) ?_
  rintro D σ H ⟨W, P, G, E, R, t, kk⟩
  refine ⟨W, P, G, _, R, t, fun W1 sv G1 v H1 l1 R1 r1 q1 => ?_⟩
  obtain ⟨W2, dv, G2, l2, R2, r2, q2⟩ := R1.frz r1 q1
  obtain ⟨h0, q2⟩ := q2
  obtain ⟨d0, h0⟩ := isOwn_of h0
  obtain ⟨p, o, e1, pr, ro⟩ := R2.own i _ h0
  refine ⟨.ref p, e1, W2, P, G2, _, R2, q2, fun W3 sk G3 y H3 l3 R3 r3 q3 => ?_⟩
  obtain ⟨W4, b, G4, l4, R4, r4, q4⟩ := R3.frz r3 q3
  have rv := Rp.mono (l3.trans l4) _ _ r2
  unfold putO at q4
  split at q4
  · rename_i es e4
    obtain ⟨p', o', e2, pr', ro'⟩ := R4.own i _ e4
    rw [e1] at e2; cases e2
    cases o' <;> try exact False.elim ro'
    rename_i kvs
    cases b <;> try exact False.elim q4
    rename_i ds
    cases hk : keysOf ds with
    | none => simp only [hk] at q4
    | some ks =>
      simp only [hk] at q4
      obtain ⟨a, xs, ey, hx, rx⟩ := R4.rn r4
      have exs := keysOf_eq hk rx
      subst ey exs
      refine ⟨p, _, rfl, DPut.t pr'.at_ hx (by rw [RpT.len ro']; exact q4.1), ?_⟩
      exact kk.nx W4 _ σ _ (((l1.trans l2).trans l3).trans l4) (R4.reown (o' := .dT _) (d' := .dT _) e4 e1 pr' (RpT.put ro' rv)) q4.2
  · rename_i es e4
    obtain ⟨p', o', e2, pr', ro'⟩ := R4.own i _ e4
    rw [e1] at e2; cases e2
    cases o' <;> try exact False.elim ro'
    rename_i kvs
    cases hk : keyOf b with
    | none => simp only [hk] at q4
    | some k =>
      simp only [hk] at q4
      have hy : y = kV k := by
        cases b <;> first | (cases hk; done) | skip
        · obtain rfl : y = .int _ := r4; cases hk; rfl
        · obtain rfl : y = .str _ := r4; cases hk; rfl
      subst hy
      refine ⟨p, _, rfl, DPut.k pr'.at_ (by rw [RpK.len ro']; exact q4.1), ?_⟩
      exact kk.nx W4 _ σ _ (((l1.trans l2).trans l3).trans l4) (R4.reown (o' := .dK _) (d' := .dK _) e4 e1 pr' (RpK.put ro' rv)) q4.2
  · exact q4.elim
/-! {a tuple: v} -/
def tDisp1T (tk tv : TE) : TE := fun σ H Q => ∀ p, H p = none → tk σ (upd H p (.dT [])) fun x H1 => tv σ H1 fun y H2 => H2 p = some (.dT []) ∧ ∃ b ks, x = .ref b ∧ H2 b = some (.tup (ks.map kV)) ∧ Q (.ref p) (upd H2 p (.dT [(ks, y)]))
theorem pe_disp1T {k v : Expr} {tk tv : TE} (hu : X.A.units + 65 < cLine) (hk : PE X k tk) (hv : PE X v tv) : PE X (.Dict [some k] [v] pos) (tDisp1T tk tv) := by
  refine ⟨fun pins s σ H Q I q => ?_⟩
  have hn := I.hok.fresh (Nat.le_refl s.heap.objs.size)
  have I1 := I.laid (a := s.heap.objs.size) (o := .dT []) (h' := s.heap.push { cls := .type "dict", data := .dict #[] }) (t' := s.toks) (fun _ _ q => Heap.get?_push_of_some _ q) (Nat.le_refl _) (dt_empty s.heap I.big)
  have hl : (pairTrees [some k] [v] X.env pos).length = 1 := pairTrees_length [some k] [v] X.env pos rfl rfl
  rw [arm_eval_Dict, zip_pairTrees [some k] [v] X.env pos rfl rfl, dictDisplay_pairs _ (fun z => by rw [z] at hl; cases hl) (by omega)]
  refine wpAny_bind (wpAny_standAt (wpAny_bind ?_))
  unfold subDict
  refine wpAny_bind (wpAny_alloc ?_)
  refine wpAny_bind (wpAny_holding ?_)
  rw [if_pos (by omega)]
  refine wpAny_bind (pairTrees_cons_walk (thn (hk.run pins _ σ _ _ I1 (q _ hn)) fun u s1 ⟨x, H1, I2, rx, q1⟩ => thn (hv.run pins s1 σ H1 _ I2 q1) fun w2 s2 ⟨y, H2, I3, ry, e, b, ks, ex, eb, q2⟩ => pairTrees_nil_walk ?_))
  subst ex
  obtain rfl : u = Value.ref b := rx
  refine wpAny_holding ?_
  obtain ⟨z, hd, xs, rel, dd⟩ := dt_of I3.hok e
  obtain rfl : xs = [] := by cases rel; rfl
  rw [List.forIn_cons]
  refine wpAny_bind (wpAny_bind ?_)
  show wpAny (model X.prog X.w) X.A (do dictSet s.heap.objs.size (Value.ref b) w2; pure (ForInStep.yield PUnit.unit)) _ _ _
  refine wpAny_bind (wpAny_dictSet_heap (hsz := by simp) (show (tupleKind (mixKind X.prog X.w)).room X.A from (show X.A.units < cLine by omega)) (key_of I3.hok eb) dd fun h' dd' hs => wpAny_pure ?_)
  show wpAny (model X.prog X.w) X.A (forIn ([] : List (Value × Value)) PUnit.unit _) _ _ _
  rw [List.forIn_nil]
  refine wpAny_pure (wpAny_pure (wpAny_pure (wpAny_pure ⟨.ref s.heap.objs.size, _, ?_, rfl, q2⟩)))
  obtain ⟨o, es, ep, hq, h2, h3, h4, _, h5⟩ := dd'
  refine d_write I3 (by rw [e]; exact True.intro) hs ⟨o, hq⟩ ⟨?_, hd, _, (KT.put (kvs := []) Paired.nil ks eb ry).keeps fun c ys ec => ?_, o, es, ep, hq, h2, h3, h4, h5⟩
  · show 1 ≤ sizeLine
    decide
  · rw [upd_ne (ne_of ec e (fun z => nomatch z))]
    exact ec
/-- {k: v}, k a tuple of ints and texts -/
def keyT (b : D) (k : List Key → Prop) : Prop := match b with
  | .tup ds => (match keysOf ds with | some ks => k ks | none => False)
  | _ => False
theorem keyT_of {b : D} {k : List Key → Prop} (h : keyT b k) : ∃ ds ks, b = .tup ds ∧ keysOf ds = some ks ∧ k ks := by
  cases b <;> first | exact False.elim h | skip
  rename_i ds
  have h : (match keysOf ds with | some ks => k ks | none => False) := h
  cases e : keysOf ds with
  | none => rw [e] at h; exact h.elim
  | some ks => rw [e] at h; exact ⟨ds, ks, rfl, e, h⟩
def dDsp1 (tk tv : DE) : DE := fun G Q => tk G fun sk G1 => frz G1 sk fun b G2 => tv G2 fun sv G3 => frz G3 sv fun dv G4 => keyT b fun ks => Q (.new (.dT [(ks, dv)])) G4
theorem de_dsp1 {k v : Expr} {tk tv : DE} (hk : PE X k (can X.K tk)) (hv : PE X v (can X.K tv)) (hu : X.A.units + 65 < cLine) : PE X (.Dict [some k] [v] pos) (can X.K (dDsp1 tk tv)) := by
  refine PE.imp (pe_disp1T hu hk hv) ?_
  rintro σ H Qv ⟨W, P, G, Q, R, t, kk⟩ p hp
  obtain ⟨nP, nF, Rg⟩ := R.guard (o := .dT []) hp
  refine ⟨W, _, G, _, Rg, t, fun W1 sk G1 x H1 l1 R1 r1 q1 => ?_⟩
  obtain ⟨W2, b, G2, l2, R2, r2, q2⟩ := R1.frz r1 q1
  refine ⟨W2, _, G2, _, R2, q2, fun W3 sv G3 y H3 l3 R3 r3 q3 => ?_⟩
  obtain ⟨W4, dv, G4, l4, R4, r4, q4⟩ := R3.frz r3 q3
  obtain ⟨ds, ks, rfl, hks, q4⟩ := keyT_of q4
  obtain ⟨a, xs, ex, hx, rx⟩ := R4.rn (Rp.mono (l3.trans l4) _ _ r2)
  have exs := keysOf_eq hks rx
  subst ex exs
  obtain ⟨hp4, R5⟩ := R4.reguard (o' := .dT [(ks, y)])
  obtain ⟨R6, r6⟩ := R5.unguard (o := .dT [(ks, y)]) (d := .dT [(ks, dv)]) nP (show RpT X.K W4 [(ks, dv)] [(ks, y)] from ⟨y, [], rfl, r4, rfl⟩)
  exact ⟨hp4, a, ks, rfl, hx, kk W4 _ G4 _ _ (((l1.trans l2).trans l3).trans l4) R6 r6 q4⟩
/-- xs.pop() -/
theorem de_pop {x : Str} {apos cpos px : Pos} {i : Nat} (hN : X.N[i]? = some x := by rfl) (hv : Vis X.env.scope x := by first | exact Or.inl rfl | exact Or.inr (Or.inl rfl) | exact Or.inr (Or.inr rfl)) (hd : (x == ("__debug__" : Str)) = false := by decide)
    (hcd : (x == ("__classdict__" : Str)) = false := by decide) (hbase : attributeBase (.Name x px) "pop" X.env (eval (.Name x px) X.env) = eval (.Name x px) X.env := by rfl) (hline : (apos.endLine == cpos.line) = true := by rfl) :
    PE X (.Call (.Attribute (.Name x px) "pop" apos) [] [] cpos) (can X.K (dOwnL i mPop dNil)) :=
  PE.imp (pe_bm0 PySem.F.plainAttrs_list PySem.F.slot_list_pop PySem.F.type_list_pop mt_pop (pe_var hN hv hd hcd) hbase hline) fun σ H Q h => by
    obtain ⟨v, h1, h2, h3⟩ := mth_run ml_pop h
    obtain ⟨W, P, G, q, R, t, k⟩ := h3
    exact ⟨v, h1, h2, k W [] G [] H (.refl W) R rfl t rfl⟩
end

/-! ### the end of a law -/
/-- what the law's own def promises -/
def lawS (n : Nat) : DSp := fun m ds Q => m = 0 ∧ ∃ ns : List Int, ds = [.scr ns] ∧ ns.length ≤ n ∧ ∀ j, Q (.dat (.bl true)) j
/-- the heap in which nothing but the script is tracked -/
noncomputable def scrH (K : PySem.W.Frag) (a : Addr) (o : Obj) (xs : List V) : Hp := open Classical in fun b => if b = a ∧ K.lookup a = none then some (.frz o (.lst xs)) else none
section
variable {K : PySem.W.Frag} {a b : Addr} {o : Obj} {xs : List V}
theorem scrH_some {u : HO} (h : scrH K a o xs b = some u) : b = a ∧ K.lookup a = none ∧ u = .frz o (.lst xs) := by
  unfold scrH at h
  split at h
  · rename_i q; cases h; exact ⟨q.1, q.2, rfl⟩
  · cases h
theorem scrH_at (h : K.lookup a = none) : scrH K a o xs a = some (.frz o (.lst xs)) := by
  unfold scrH
  rw [if_pos ⟨rfl, h⟩]
end
theorem end_call {P : Program} {w : World} {K : PySem.W.Frag} {mg mb : Str → Option Value} {k n : Nat} {fa a : Addr} {fd : FuncData} {x : Str} {t : Shared} {vs : List Value} {ns : List Int}
    (KX : K.In t.heap) (hns : t.heap.Ns mainGlobals mg) (hb : t.heap.Ns builtinsNs mb) (hbb : ∀ x : Str, x ≠ "__name__" → mb x = bootBuiltins x) (hlim : t.heap.NoLimit) (hg : t.gens = #[])
    (ha : t.heap.get? a = some { cls := .type "list", data := .seq vs.toArray }) (hi : IntsAre vs ns) (hl : ns.length ≤ sizeLine) (hln : ns.length ≤ n) (hr : Room k callerA)
    (F : ∀ base : Heap, K.In base → base.Ns mainGlobals mg → FnD P w K mg base k fa fd [x] (lawS n)) (hbind : ∀ (s : Shared) (u : Value), BindsTo s fd ⟨[u], []⟩ [(x, u)]) :
    codeAny (model P w) callerA (.call (.ref fa) ⟨[.ref a], []⟩) (fun r s' => r = .ok (.ret (.bool true)) ∧ OldK t.heap s'.heap ∧ s'.os = t.os ∧ AllBare s'.gens) t := by
  have rv := vals_ints hi
  have lenV := hi.length
  let ob : Obj := { cls := .type "list", data := .seq vs.toArray }
  let H : Hp := scrH K a ob (ns.map V.int)
  have hS : SqL K H a (ns.map V.int) := by
    cases hk : K.lookup a with
    | none => exact .inl (.inr ⟨ob, scrH_at hk⟩)
    | some o =>
      have e := KX a o hk
      rw [ha] at e
      cases e
      exact .inr ⟨_, vs.toArray, _, hk, rfl, rfl, rfl, by rw [List.size_toArray, lenV]; exact hl, by simpa using rv⟩
  have hok : HOk P w H t.heap := fun b u z => by
    obtain ⟨rfl, _, rfl⟩ := scrH_some z
    exact ⟨ha, by rw [List.length_map]; exact hl, vs, _, rv, ha⟩
  have stay : ∀ {b : Addr} {o : Obj}, t.heap.get? b = some o → H b = none → (hidT t.heap H).get? b = some o := hidT_get
  have dictN : ∀ {b : Addr} {o : Obj} {es : Array DictEntry} {ep : Nat}, t.heap.get? b = some o → o.data = .dict es ep → H b = none := fun {b o es ep} e d => by
    cases q : H b with
    | none => rfl
    | some u =>
      obtain ⟨rfl, _, _⟩ := scrH_some q
      rw [ha] at e; cases e
      exact absurd (show Data.seq vs.toArray _ = Data.dict es ep from d) (by intro z; cases z)
  have nsH : ∀ {b : Addr} {m : Str → Option Value}, t.heap.Ns b m → (hidT t.heap H).Ns b m := by
    rintro b m ⟨o, es, ep, e, d, r⟩
    exact ⟨o, es, ep, stay e (dictN e d), d, r⟩
  have kH : K.In (hidT t.heap H) := fun b o e => stay (KX b o e) (by
    cases q : H b with
    | none => rfl
    | some u =>
      obtain ⟨rfl, z, _⟩ := scrH_some q
      rw [z] at e; cases e)
  obtain ⟨mc, l1, l2⟩ := hlim
  have hM : Mod K mg (hidT t.heap H) := ⟨kH, nsH hns, ⟨mb, nsH hb, hbb⟩, mc, nsH l1, l2⟩
  have e0 : Env0 P w K mg (hidT t.heap H) callerA [] t H := { frames := rfl, mod := hM, bs := fun b o e => of_hidT e, bsz := Nat.le_of_eq (hidT_size _ _), funs := trivial, frf := fun b hb => absurd hb List.not_mem_nil, hok := hok, bare := .of_eq hg }
  have R : Rl K ⟨H, fun _ => False⟩ (fun _ => none) ⟨[], 0⟩ [] H := ⟨rfl, fun _ _ e => e, fun _ h => h.elim, fun _ _ e => (by cases e), fun _ _ e => (by cases e), fun _ _ e => (by cases e), fun _ _ _ _ _ e _ => (by cases e), fun _ _ e => (by cases e)⟩
  have asked : dSp K (lawS n) [.ref a] H (fun v H' => v = .bl true ∧ ∀ b u, H b = some u → H' b = some u) E0 :=
    ⟨⟨H, fun _ => False⟩, fun _ => none, 0, [.scr ns], fun sv _ => sv = .dat (.bl true), R, fun p o e f _ _ => absurd e (by rw [show H p = none from f]; intro z; cases z), ⟨.ref a, [], rfl, ⟨a, rfl, hS⟩, rfl⟩, ⟨rfl, ns, rfl, hln, fun _ => rfl⟩,
      fun W' sv m v H' l R' r q => by subst q; exact ⟨r, fun b u e => R'.le b u (l.f b u e)⟩⟩
  refine codeAny_mono ((F _ kH (nsH hns)).run callerA [] t H ⟨[.ref a], []⟩ [.ref a] [.ref a] _ rfl hr e0 (hbind t (.ref a)) (.cons rfl .nil) asked) fun r s' h => ?_
  match r, h with
  | .ok (.ret u), ⟨v, H', os, bare, un, hok', r', q, same⟩ =>
    subst q
    obtain rfl : u = Value.bool true := r'
    refine ⟨rfl, OldK.of_keep fun b o e => ?_, os, bare⟩
    cases q : H b with
    | none => exact un.keep b o e q List.not_mem_nil List.not_mem_nil
    | some u =>
      have z := same b u q
      obtain ⟨rfl, _, rfl⟩ := scrH_some q
      obtain ⟨e1, _⟩ := hok b _ q
      obtain ⟨e2, _⟩ := hok' b _ z
      rw [e] at e1; cases e1
      exact e2
/-- the goal behind the head, from the promise of the law's own def -/
theorem walk_d {l : PySem.W.OpenLaw} {n k : Nat} {q : Program} {loose : List Str} {XP : (Str → Option Value) → Heap → Prop} {YP : World → Heap → Prop} {d : DefRec} {K : Params → PySem.W.Frag} {x : Str}
    (hn : l.most = some n) (hn2 : n ≤ sizeLine) (hdf : d.params.defaults = []) (hr : Room k callerA) (hY : ∀ (w : World) (h : Heap), YP w h → (K w.params).In h)
    (F : ∀ (w : World) (mg : Str → Option Value) (fa : Addr) (h : Heap), (K w.params).In h → h.Ns mainGlobals mg → mg d.name = some (.ref fa) →
      ∃ fd : FuncData, (∀ (s : Shared) (u : Value), BindsTo s fd ⟨[u], []⟩ [(x, u)]) ∧ ∀ base : Heap, (K w.params).In base → base.Ns mainGlobals mg → FnD l.prog w (K w.params) mg base k fa fd [x] (lawS n)) :
    PySem.W.WalkO q loose XP YP l.row.toRowW d [] (fun f vs => PySem.call f vs) := by
  refine Att.attach_call hn hdf fun w s₀ t mg mb fa o pm cd doc a vs ns G Y ho hd hcd hmg hobj hints hlen hg => ?_
  have KX := hY w _ Y
  obtain ⟨fd, hb, hF⟩ := F w mg fa _ KX G.T.g hmg
  exact end_call KX G.T.g G.T.b G.T.builtins G.T.nolimit hg hobj hints (Nat.le_trans hlen hn2) hlen hr hF hb

/-! ### defs by name -/
/-- a def of the text as it stands behind the top -/
def FunH (K : PySem.W.Frag) (mg : Str → Option Value) (x : Str) (st : Stmt) (dd : List D) : Prop := ∃ f fd, mg x = some (.ref f) ∧ FunT K x x st dd f fd
/-- and it keeps its promise -/
def Has (P : Program) (w : World) (K : PySem.W.Frag) (mg : Str → Option Value) (base : Heap) (k : Nat) (x : Str) (st : Stmt) (dd : List D) (ps : List Str) (S : DSp) : Prop :=
  ∃ f fd, mg x = some (.ref f) ∧ FunT K x x st dd f fd ∧ FnD P w K mg base k f fd ps S
theorem has_of {P : Program} {w : World} {K : PySem.W.Frag} {mg : Str → Option Value} {base : Heap} {k : Nat} {x : Str} {st : Stmt} {dd : List D} {N ps : List Str} {S : DSp} {t : DS}
    (F : FunH K mg x st dd) (C : FnScope N ps (defScope st))
    (der : ∀ (f : Addr) (cdv : Value) (A : Around) (outer : List Env) (s : Shared) (H : Hp), (A.deeper (envOfC x (defScope st) s.heap.objs.size f cdv)).guards = some [] → Room k (A.deeper (envOfC x (defScope st) s.heap.objs.size f cdv)) →
      PSs (cxOf CX0 P w K mg base N x (defScope st) f cdv A outer s H E0).nox (defBody st) (canS K t))
    (len : ∀ n ds Q, S n ds Q → ds.length = ps.length) (law : ∀ n ds Q, S n ds Q → t (defE Q) (startG n N ds)) : Has P w K mg base (k + 1) x st dd ps S := by
  obtain ⟨f, fd, m, F⟩ := F
  exact ⟨f, fd, m, F, fd_of F C (der f) len law⟩
section
variable {X : Cx} {j k n : Nat} {st : Stmt} {dd : List D} {ps ks : List Str} {S : DSp} {x : Str} {p pos : Pos} {e : Expr} {es : List Expr} {kws : List Keyword} {gD : List D → List D → List D}
abbrev HasX (X : Cx) (k : Nat) (x : Str) (st : Stmt) (dd : List D) (ps : List Str) (S : DSp) : Prop := Has X.prog X.w X.K X.mg X.base k x st dd ps S
theorem dh_call {t : DA} (h : HasX X j x st dd ps S) (gd : X.A.guards = some []) (hr : Room k X.A) (hb : ∀ f fd, FunT X.K x x st dd f fd → Bnd X.K fd ps n [] gD)
    (ha : PA X (e :: es) (canA X.K t)) (hj : j ≤ k := by decide) (hg : Gl X x := by rfl) (hdb : (x == ("__debug__" : Str)) = false := by decide) (he : starEach (e :: es) X.env = (false, eval e X.env) :: starEach es X.env := by rfl) (hpl : (backTo pos (starEach es X.env)).any (·.1) = false := by rfl) :
    PE X (.Call (.Name x p) (e :: es) [] pos) (can X.K (dCall n 0 S gD t dNil)) := by
  obtain ⟨f, fd, m, F, h⟩ := h
  exact de_call h gd (hr.mono hj) m F.kp (hb f fd F) ha hg hdb he hpl
theorem dh_call0 (h : HasX X j x st dd ps S) (gd : X.A.guards = some []) (hr : Room k X.A) (hb : ∀ f fd, FunT X.K x x st dd f fd → Bnd X.K fd ps 0 [] gD) (hj : j ≤ k := by decide) (hg : Gl X x := by rfl) (hdb : (x == ("__debug__" : Str)) = false := by decide) :
    PE X (.Call (.Name x p) [] [] pos) (can X.K (dCall 0 0 S gD dNil dNil)) := by
  obtain ⟨f, fd, m, F, h⟩ := h
  exact de_call0 h gd (hr.mono hj) m F.kp (hb f fd F) hg hdb
theorem dh_callK {t tk : DA} (h : HasX X j x st dd ps S) (gd : X.A.guards = some []) (hr : Room k X.A) (ks : List Str) (hb : ∀ f fd, FunT X.K x x st dd f fd → Bnd X.K fd ps n ks gD)
    (ha : PA X (e :: es) (canA X.K t)) (hw : PK X kws (canA X.K tk)) (hj : j ≤ k := by decide) (hg : Gl X x := by rfl) (hall : (backToKw pos (keywordEach kws X.env)).all (·.1.isSome) = true := by rfl) (hks : (backToKw pos (keywordEach kws X.env)).filterMap (·.1) = ks := by rfl)
    (hdb : (x == ("__debug__" : Str)) = false := by decide) (he : starEach (e :: es) X.env = (false, eval e X.env) :: starEach es X.env := by rfl)
    (hpl : ((backTo pos (starEach (e :: es) X.env)).any (·.1) || (backToKw pos (keywordEach kws X.env)).any (·.1.isNone)) = false := by rfl) : PE X (.Call (.Name x p) (e :: es) kws pos) (can X.K (dCall n ks.length S gD t tk)) := by
  obtain ⟨f, fd, m, F, h⟩ := h
  exact de_callK h gd (hr.mono hj) m F.kp (hb f fd F) ha hw hg hall hks hdb he hpl
theorem dh_callK0 {tk : DA} (h : HasX X j x st dd ps S) (gd : X.A.guards = some []) (hr : Room k X.A) (ks : List Str) (hb : ∀ f fd, FunT X.K x x st dd f fd → Bnd X.K fd ps 0 ks gD)
    (hw : PK X kws (canA X.K tk)) (hj : j ≤ k := by decide) (hg : Gl X x := by rfl) (hall : (backToKw pos (keywordEach kws X.env)).all (·.1.isSome) = true := by rfl) (hks : (backToKw pos (keywordEach kws X.env)).filterMap (·.1) = ks := by rfl)
    (hdb : (x == ("__debug__" : Str)) = false := by decide) (hpl : ((backTo pos (starEach [] X.env)).any (·.1) || (backToKw pos (keywordEach kws X.env)).any (·.1.isNone)) = false := by rfl) :
    PE X (.Call (.Name x p) [] kws pos) (can X.K (dCall 0 ks.length S gD dNil tk)) := by
  obtain ⟨f, fd, m, F, h⟩ := h
  exact de_callK0 h gd (hr.mono hj) m F.kp (hb f fd F) hw hg hall hks hdb hpl
theorem u65 {k : Nat} {A : Around} (r : Room k A) : A.units + 65 < cLine := by have := r.un; omega
end
/-! ### the module's constants -/
def GlbI (mg : Str → Option Value) (x : Str) (n : Int) : Prop := ∃ t, mg x = some (.int n t)
section
variable {X : Cx} {x : Str} {pos : Pos} {n : Int}
theorem de_glI (h : GlbI X.mg x n) (hg : Gl X x := by rfl) (hd : (x == ("__debug__" : Str)) = false := by decide) : PE X (.Name x pos) (can X.K (dC (.int n))) := by
  obtain ⟨t, h⟩ := h
  exact de_glob (v := .int n) h ⟨t, rfl⟩ (fun _ _ => rfl) hg hd
/-- a list is taken apart -/
def dgUnl (n : Nat) (t : DGs) : DG := fun sv G Q => frz G sv fun d G1 => match d with
  | .lst ds => ds.length = n ∧ t ds G1 Q
  | _ => False
theorem dg_unl {es : List Expr} {k : Nat} {t : DGs} {n : Nat} {ws : List Nat} (h : PGs X es (canGs X.K ws t)) (hc : X.calm = true := by rfl) (hn : (assignEach es X.env).length = n := by rfl) (hst : (assignEach es X.env).findIdx? (·.1) = none := by rfl) :
    PG X (.Tuple es k pos) (canG X.K ws (dgUnl n t)) := by
  refine PG.imp (pg_unl hc h hn hst) ?_
  rintro v σ H Qs ⟨W, P, G, sv, Q, R, r, t, kk⟩
  obtain ⟨W1, d, G1, l1, R1, r1, q⟩ := R.frz r t
  cases d <;> try exact False.elim q
  rename_i ds
  obtain ⟨a, xs, rfl, e, rr⟩ := r1
  exact ⟨a, xs, rfl, R1.sqL (.of e), by rw [rr.length]; exact q.1, W1, P, G1, ds, Q, R1, rr, q.2, fun W' G' σ' H' l => kk W' G' σ' H' (l1.trans l)⟩
end
theorem fund_mk {K : PySem.W.Frag} {x qual : Str} {st : Stmt} {dd : List D} {f : Addr} {oc dV kV doc pm cdv ct : Value} {od an : Option Addr} {osl : Array (Option Value)}
    (l : K.lookup f = some ⟨oc, od, .func (PySem.W.fnOf x qual (defArgs st) (defBody st) (defScope st) dV kV doc pm an cdv ct), osl⟩) (c : PySem.W.codeIn K cdv qual = true) (k : PySem.W.keepIn K (.ref f) = true)
    (d : He.dflB K dV (dd.map flV) = true) : FunT K x qual st dd f (PySem.W.fnOf x qual (defArgs st) (defBody st) (defScope st) dV kV doc pm an cdv ct) :=
  ⟨⟨oc, od, dV, kV, doc, pm, an, cdv, ct, osl, rfl, l, c, He.dflB_ok d, .inl rfl⟩, k⟩
/-! ### promises, by kind -/
/-- a function of data: no draw -/
def fnS (R : List D → D → Prop) : DSp := fun n ds Q => ∃ r, R ds r ∧ Q (.dat r) n
/-- no more than c draws -/
def drS (c : Nat) (pre : List D → Prop) (post : List D → SV → Prop) : DSp := fun n ds Q => pre ds ∧ n + c ≤ 10 ^ 18 ∧ ∀ r m, post ds r → n ≤ m → m ≤ n + c → Q r m

/-! ### to reckon with the terms -/
def brS (_ : Nat) (b : Bool) (t u : DS) (E : DEnds) (G : Gm) : Prop := if b = true then t E G else u E G
def brE (_ : Nat) (b : Bool) (t u : DE) (G : Gm) (Q : SV → Gm → Prop) : Prop := if b = true then t G Q else u G Q
def brT (_ : Nat) (b : Bool) (u : DT) (G : Gm) (Q : Bool → Gm → Prop) : Prop := if b = true then u G Q else Q false G
def brO (_ : Nat) (b : Bool) (u : DT) (G : Gm) (Q : Bool → Gm → Prop) : Prop := if b = true then Q true G else u G Q
def brA (_ : Nat) (b : Bool) (u : DE) (G : Gm) (Q : SV → Gm → Prop) : Prop := if b = true then u G Q else Q (.dat (.bl false)) G
def brR (_ : Nat) (b : Bool) (u : DE) (G : Gm) (Q : SV → Gm → Prop) : Prop := if b = true then Q (.dat (.bl true)) G else u G Q
/-! only what stands now is reckoned, not what follows -/
section
variable {n0 : Nat} {E : DEnds} {G G0 : Gm} {Q : SV → Gm → Prop} {q : SV → Prop} {t u : DS} {c d : DT} {a b e : DE} {as bs : DA} {g : DG} {gs : DGs} {i j k n m : Nat} {x y z : Int} {p r : Bool} {sv : SV} {L : List (Option SC)} {o : Option SC}
theorem x_seq : dSeq t u E G = t { E with nx := u E } G := rfl
theorem x_next : dNext E G = E.nx G := rfl
theorem x_brk : dBrk E G = E.bk G := rfl
theorem x_cnt : dCnt E G = E.ct G := rfl
theorem x_drop : dDrop e E G = e G fun _ G1 => E.nx G1 := rfl
theorem x_ret : dRet e E G = e G fun sv G1 => rtS G1 sv fun s => E.rt s G1.c := rfl
theorem x_retN : dRetN E G = E.rt (.dat .non) G.c := rfl
theorem x_never : dNever E G = False := rfl
theorem x_rtd {d : D} {k : SV → Prop} : rtS G (.dat d) k = k (.dat d) := rfl
theorem x_rtn {d : D} {k : SV → Prop} : rtS G (.new d) k = k (.new d) := rfl
theorem x_rtb {k : SV → Prop} : rtS G (.bor i) k = (match gg G i with | some (.own d) => k (.new d) | some (.dat d) => k (.dat d) | none => False) := rfl
theorem x_ifs : dIfS c t u E G = c G fun b G1 => brS (0 + 0) b t u E G1 := rfl
theorem x_brs1 : brS n0 true t u E G = t E G := by unfold brS; rw [if_pos rfl]
theorem x_brs0 : brS n0 false t u E G = u E G := by unfold brS; rw [if_neg Bool.false_ne_true]
theorem x_asg : dAsg e g E G = e G fun sv G1 => g sv G1 E.nx := rfl
theorem x_name {Qn : Gm → Prop} : dgName i sv G Qn = rest1 G sv fun c G1 => Qn (gset G1 i (some c)) := rfl
theorem x_rsd {d : D} {k : SC → Gm → Prop} : rest1 G (.dat d) k = k (.dat d) G := rfl
theorem x_rsn {d : D} {k : SC → Gm → Prop} : rest1 G (.new d) k = k (.own d) G := rfl
theorem x_rsb {k : SC → Gm → Prop} : rest1 G (.bor i) k = (match gg G i with | some (.own d) => k (.dat d) (gset G i (some (.dat d))) | some (.dat d) => k (.dat d) G | none => False) := rfl
theorem x_tgt {ds : List D} {Qn : Gm → Prop} : dgTup n gs (.dat (.tup ds)) G Qn = (ds.length = n ∧ gs ds G Qn) := rfl
theorem x_unl {Qn : Gm → Prop} : dgUnl n gs sv G Qn = frz G sv fun d G1 => match d with
  | .lst ds => ds.length = n ∧ gs ds G1 Qn
  | _ => False := rfl
theorem x_gnil {Qn : Gm → Prop} : dgNil [] G Qn = Qn G := by unfold dgNil; simp
theorem x_gcons {d : D} {ds : List D} {Qn : Gm → Prop} : dgCons g gs (d :: ds) G Qn = g (.dat d) G fun G1 => gs ds G1 Qn := rfl
def parK (i j : Nat) (Qn : Gm → Prop) (ds : List D) (G1 : Gm) : Prop := match ds with
  | a :: b :: r => r = [] ∧ Qn (gset (gset G1 i (some (.dat a))) j (some (.dat b)))
  | _ => False
theorem x_par : dPar i j as E G = as G (parK i j E.nx) := rfl
theorem x_park {a b : D} {Qn : Gm → Prop} : parK i j Qn [a, b] G = dgName i (.dat a) G fun G1 => dgName j (.dat b) G1 Qn := by show ([] = [] ∧ _) = _; simp [dgName, rest1]
theorem x_for {it : DI} : dFor it g t E G = it G fun ds G1 => forL g t E ds G1 := rfl
theorem x_dat {d : D} (h : gg G i = some (.dat d)) : dVar i G Q = Q (.dat d) G := by unfold dVar; rw [h]
theorem x_var : dVar i G Q = (match gg G i with | some (.dat d) => Q (.dat d) G | some (.own _) => Q (.bor i) G | none => False) := rfl
theorem x_c {d : D} : dC d G Q = Q (.dat d) G := rfl
theorem x_bin {dr : D2} : dBin dr a b G Q = a G fun sa G1 => b G1 fun sb G2 => see G2 sa fun x => see G2 sb fun y => dr x y fun r => Q r G2 := rfl
theorem x_un {dr : D1} : dUn dr a G Q = a G fun sa G1 => see G1 sa fun x => dr x fun r => Q r G1 := rfl
theorem x_bn {f : List D → (SV → Prop) → Prop} : dBn f as G Q = as G fun ds G1 => f ds fun r => Q r G1 := rfl
theorem x_seed {d : D} {f : D → Prop} : see G (.dat d) f = f d := rfl
theorem x_seen {d : D} {f : D → Prop} : see G (.new d) f = f d := rfl
theorem x_seeb {f : D → Prop} : see G (.bor i) f = (match gg G i with | some (.own d) => f d | some (.dat d) => f d | none => False) := rfl
theorem x_frd {d : D} {f : D → Gm → Prop} : frz G (.dat d) f = f d G := rfl
theorem x_frn {d : D} {f : D → Gm → Prop} : frz G (.new d) f = f d G := rfl
theorem x_frb {f : D → Gm → Prop} : frz G (.bor i) f = (match gg G i with | some (.own d) => f d (gset G i (some (.dat d))) | some (.dat d) => f d G | none => False) := rfl
theorem x_tst {Qb : Bool → Gm → Prop} : dTst e G Qb = e G fun sa G1 => isB sa fun b => Qb b G1 := rfl
theorem x_isb {f : Bool → Prop} : isB (.dat (.bl p)) f = f p := rfl
theorem x_nott {Qb : Bool → Gm → Prop} : dNotT c G Qb = c G fun b G1 => Qb (!b) G1 := rfl
theorem x_andt {Qb : Bool → Gm → Prop} : dAndT c d G Qb = c G fun b G1 => brT (0 + 0) b d G1 Qb := rfl
theorem x_ort {Qb : Bool → Gm → Prop} : dOrT c d G Qb = c G fun b G1 => brO (0 + 0) b d G1 Qb := rfl
theorem x_brt1 {Qb : Bool → Gm → Prop} : brT n0 true d G Qb = d G Qb := by unfold brT; rw [if_pos rfl]
theorem x_brt0 {Qb : Bool → Gm → Prop} : brT n0 false d G Qb = Qb false G := by unfold brT; rw [if_neg Bool.false_ne_true]
theorem x_bro1 {Qb : Bool → Gm → Prop} : brO n0 true d G Qb = Qb true G := by unfold brO; rw [if_pos rfl]
theorem x_bro0 {Qb : Bool → Gm → Prop} : brO n0 false d G Qb = d G Qb := by unfold brO; rw [if_neg Bool.false_ne_true]
theorem x_andv : dAndV a b G Q = a G fun s G1 => isB s fun p => brA (0 + 0) p b G1 Q := rfl
theorem x_orv : dOrV a b G Q = a G fun s G1 => isB s fun p => brR (0 + 0) p b G1 Q := rfl
theorem x_bra1 : brA n0 true e G Q = e G Q := by unfold brA; rw [if_pos rfl]
theorem x_bra0 : brA n0 false e G Q = Q (.dat (.bl false)) G := by unfold brA; rw [if_neg Bool.false_ne_true]
theorem x_brr1 : brR n0 true e G Q = Q (.dat (.bl true)) G := by unfold brR; rw [if_pos rfl]
theorem x_brr0 : brR n0 false e G Q = e G Q := by unfold brR; rw [if_neg Bool.false_ne_true]
theorem x_notv : dNotV e G Q = e G fun s G1 => isB s fun b => Q (.dat (.bl (!b))) G1 := rfl
theorem x_if : dIf c a b G Q = c G fun p G1 => brE (0 + 0) p a b G1 Q := rfl
theorem x_bre1 : brE n0 true a b G Q = a G Q := by unfold brE; rw [if_pos rfl]
theorem x_bre0 : brE n0 false a b G Q = b G Q := by unfold brE; rw [if_neg Bool.false_ne_true]
theorem x_chn {dr ds : D2} : dChn dr ds a b e G Q = a G fun sa G1 => b G1 fun sb G2 => see G2 sa fun x => see G2 sb fun y => flatD y = true ∧ dr x y fun r => isB r fun p => brA (0 + 0) p (fun G3 Q' => e G3 fun sc G4 => see G4 sc fun z => ds y z fun r => Q' r G4) G2 Q := rfl
theorem x_nil {Qa : List D → Gm → Prop} : dNil G Qa = Qa [] G := rfl
theorem x_cons {Qa : List D → Gm → Prop} : dCons e as G Qa = e G fun s G1 => frz G1 s fun d G2 => as G2 fun ds G3 => Qa (d :: ds) G3 := rfl
theorem x_tup : dTup as G Q = as G fun ds G1 => ds.length ≤ sizeLine ∧ Q (.dat (.tup ds)) G1 := rfl
theorem x_lst : dLst as G Q = as G fun ds G1 => ds.length ≤ sizeLine ∧ Q (.new (.lst ds)) G1 := rfl
def callK (Q : SV → Gm → Prop) (G : Gm) (r : SV) (j : Nat) : Prop := Q r (G.at j)
theorem x_ck : callK Q ⟨L, k⟩ sv j = Q sv ⟨L, j⟩ := rfl
theorem x_call {S : DSp} {gD : List D → List D → List D} : dCall n m S gD as bs G Q = as G fun ds G1 => bs G1 fun es G2 => ds.length = n ∧ es.length = m ∧ S G2.c (gD ds es) (callK Q G2) := rfl
theorem x_wlk {Qa : List D → Gm → Prop} : dWalk e G Qa = e G fun sv G1 => frz G1 sv fun d G2 => asL d fun ds => Qa ds G2 := rfl
theorem x_asll {ds : List D} {f : List D → Prop} : asL (.lst ds) f = f ds := rfl
theorem x_aslt {ds : List D} {f : List D → Prop} : asL (.tup ds) f = f ds := rfl
theorem x_sle {lo hi : DO} : dSl a lo hi G Q = a G fun sa G1 => lo G1 fun lo G2 => hi G2 fun hi G3 => see G3 sa fun x => dSlc x lo hi fun r => Q r G3 := rfl
theorem x_nop {Qo : Option Int → Gm → Prop} : dNoP G Qo = Qo none G := rfl
theorem x_prt {Qo : Option Int → Gm → Prop} : dPart e G Qo = e G fun s G1 => see G1 s fun d => match d with | .int i => Qo (some i) G1 | _ => False := rfl
theorem x_lc {vs : List Nat} {it : DI} : dLc vs it g c e G Q = it G fun ds G1 => ds.length ≤ sizeLine ∧ lcL vs g c e (fun acc G2 => Q (.new (.lst acc)) (backG vs G1 G2)) ds [] (wipeG vs G1) := rfl
/-! slots -/
theorem x_gg : gg ⟨L, k⟩ i = ggl L i := rfl
theorem x_gl0 {r : List (Option SC)} : ggl (o :: r) 0 = o := rfl
theorem x_gls {r : List (Option SC)} : ggl (o :: r) (i + 1) = ggl r i := rfl
theorem x_gs : gset ⟨L, k⟩ i o = ⟨gsl L i o, k⟩ := rfl
theorem x_gs0 {w : Option SC} {r : List (Option SC)} : gsl (w :: r) 0 o = o :: r := rfl
theorem x_gss {w : Option SC} {r : List (Option SC)} : gsl (w :: r) (i + 1) o = w :: gsl r i o := rfl
theorem x_at : Gm.at ⟨L, k⟩ j = ⟨L, j⟩ := rfl
theorem x_w0 : wipeG [] G = G := rfl
theorem x_ws {vs : List Nat} : wipeG (i :: vs) G = gset (wipeG vs G) i none := rfl
theorem x_b0 : backG [] G0 G = G := rfl
theorem x_bs {vs : List Nat} : backG (i :: vs) G0 G = gset (backG vs G0 G) i (datO (gg G0 i)) := rfl
theorem x_do1 {d : D} : datO (some (.dat d)) = some (.dat d) := rfl
theorem x_do2 {d : D} : datO (some (.own d)) = none := rfl
theorem x_do3 : datO none = none := rfl
/-! operations -/
theorem x_add : dAdd (.int x) (.int y) q = q (.dat (.int (x + y))) := rfl
theorem x_addb : dAdd (.int x) (.bl p) q = q (.dat (.int (x + b2i p))) := rfl
theorem x_sub : dSub (.int x) (.int y) q = q (.dat (.int (x - y))) := rfl
theorem x_mul : dMul (.int x) (.int y) q = (CMulW x y ∧ q (.dat (.int (x * y)))) := rfl
theorem x_fdv : dFdv (.int x) (.int y) q = (y ≠ 0 ∧ y.natAbs.log2 < 9000 ∧ q (.dat (.int (x.fdiv y)))) := rfl
theorem x_mod : dMod (.int x) (.int y) q = (y ≠ 0 ∧ q (.dat (.int (x.fmod y)))) := rfl
theorem x_pow : dPow (.int x) (.int y) q = (0 ≤ y ∧ (Builtin.Int.intBits x : Int) * y ≤ 2 ^ 27 ∧ q (.dat (.int (x ^ y.toNat)))) := rfl
theorem x_neg : dNeg (.int x) q = q (.dat (.int (-x))) := rfl
theorem x_cmp {f : Int → Int → Bool} : dCmp f (.int x) (.int y) q = q (.dat (.bl (f x y))) := rfl
theorem x_iadd : dIAdd (.int x) (.int y) q = q (.dat (.int (x + y))) := rfl
theorem x_abs : dAbs (.int x) q = q (.dat (.int (if x < 0 then -x else x))) := rfl
theorem x_int : dInt (.int x) q = q (.dat (.int x)) := rfl
theorem x_intb : dInt (.bl p) q = q (.dat (.int (if p then 1 else 0))) := rfl
theorem x_lenl {ds : List D} : dLen (.lst ds) q = q (.dat (.int ds.length)) := rfl
theorem x_lent {ds : List D} : dLen (.tup ds) q = q (.dat (.int ds.length)) := rfl
theorem x_max : dMax2 [.int x, .int y] q = q (.dat (.int (if y > x then y else x))) := by show (([] : List D) = [] ∧ _) = _; simp
theorem x_min : dMin2 [.int x, .int y] q = q (.dat (.int (if y < x then y else x))) := by show (([] : List D) = [] ∧ _) = _; simp
theorem x_ixt {ds : List D} : dIx (.tup ds) (.int x) q = atQ (atI ds x) q := rfl
theorem x_ixl {ds : List D} : dIx (.lst ds) (.int x) q = atQ (atI ds x) q := rfl
theorem x_atq {d : D} : atQ (some d) q = q (.dat d) := rfl
theorem x_eq {d e : D} : dEq d e q = eqQ d e fun c => q (.dat (.bl c)) := rfl
theorem x_ne {d e : D} : dNe d e q = eqQ d e fun c => q (.dat (.bl (!c))) := rfl
theorem x_eqi {f : Bool → Prop} : eqQ (.int x) (.int y) f = f (decide (x = y)) := by
  show (Pl 20 (.int x) ∧ Pl 20 (.int y) ∧ f (eqD (.int x) (.int y))) = _
  have : eqD (.int x) (.int y) = decide (x = y) := by unfold eqD toPy PyData.eqv; rw [Bool.eq_iff_iff]; simp
  rw [this]; simp [Pl]
theorem x_eqs {s1 s2 : Str} {f : Bool → Prop} : eqQ (.str s1) (.str s2) f = f (decide (s1 = s2)) := rfl
theorem x_eqD {f : Bool → Prop} {d e : D} (h : strsD d e = none) (h1 : Pl 20 d) (h2 : Pl 20 e) : eqQ d e f = f (eqD d e) := by
  unfold eqQ; rw [h]; simp [h1, h2]
theorem x_isn {d : D} : dIs d .non q = q (.dat (.bl (isNon d))) := rfl
theorem x_isbb {x y : Bool} : dIs (.bl x) (.bl y) q = q (.dat (.bl (decide (x = y)))) := rfl
theorem x_isnbb {x y : Bool} : dIsn (.bl x) (.bl y) q = q (.dat (.bl (!decide (x = y)))) := rfl
theorem x_isnn {d : D} : dIsn d .non q = q (.dat (.bl (!isNon d))) := rfl
end
theorem x_isii {U : String} {x : Int} {q : SV → Prop} (h : U ∈ kits := by decide) : dIsi [.int x, .ty U] q = q (.dat (.bl (isT "int" U))) := by show (([] : List D) = [] ∧ U ∈ kits ∧ _) = _; simp [h, clsD]
theorem x_isib {U : String} {x : Bool} {q : SV → Prop} (h : U ∈ kits := by decide) : dIsi [.bl x, .ty U] q = q (.dat (.bl (isT "bool" U))) := by show (([] : List D) = [] ∧ U ∈ kits ∧ _) = _; simp [h, clsD]
theorem x_isin {U : String} {q : SV → Prop} (h : U ∈ kits := by decide) : dIsi [.non, .ty U] q = q (.dat (.bl (isT "NoneType" U))) := by show (([] : List D) = [] ∧ U ∈ kits ∧ _) = _; simp [h, clsD]
theorem x_isis {U : String} {x : Str} {q : SV → Prop} (h : U ∈ kits := by decide) : dIsi [.str x, .ty U] q = q (.dat (.bl (isT "str" U))) := by show (([] : List D) = [] ∧ U ∈ kits ∧ _) = _; simp [h, clsD]
theorem x_isit {U : String} {x : List D} {q : SV → Prop} (h : U ∈ kits := by decide) : dIsi [.tup x, .ty U] q = q (.dat (.bl (isT "tuple" U))) := by show (([] : List D) = [] ∧ U ∈ kits ∧ _) = _; simp [h, clsD]
theorem x_isil {U : String} {x : List D} {q : SV → Prop} (h : U ∈ kits := by decide) : dIsi [.lst x, .ty U] q = q (.dat (.bl (isT "list" U))) := by show (([] : List D) = [] ∧ U ∈ kits ∧ _) = _; simp [h, clsD]
theorem k_int : ("int" : String) ∈ kits := by decide
theorem k_bool : ("bool" : String) ∈ kits := by decide
theorem k_tuple : ("tuple" : String) ∈ kits := by decide
theorem k_list : ("list" : String) ∈ kits := by decide
theorem k_str : ("str" : String) ∈ kits := by decide
theorem T_ii : isT "int" "int" = true := by decide
theorem T_ib : isT "int" "bool" = false := by decide
theorem T_it : isT "int" "tuple" = false := by decide
theorem T_il : isT "int" "list" = false := by decide
theorem T_bi : isT "bool" "int" = true := by decide
theorem T_bb : isT "bool" "bool" = true := by decide
theorem T_tt : isT "tuple" "tuple" = true := by decide
theorem T_ti : isT "tuple" "int" = false := by decide
theorem T_tl : isT "tuple" "list" = false := by decide
theorem T_ll : isT "list" "list" = true := by decide
theorem T_lt : isT "list" "tuple" = false := by decide
theorem T_li : isT "list" "int" = false := by decide
theorem T_ss : isT "str" "str" = true := by decide
theorem T_si : isT "str" "int" = false := by decide
theorem T_st : isT "str" "tuple" = false := by decide
theorem T_ni : isT "NoneType" "int" = false := by decide
theorem T_nt : isT "NoneType" "tuple" = false := by decide
theorem N_n : isNon .non = true := rfl
theorem N_i {x : Int} : isNon (.int x) = false := rfl
theorem N_b {x : Bool} : isNon (.bl x) = false := rfl
theorem N_t {x : List D} : isNon (.tup x) = false := rfl
theorem F_i {x : Int} : flatD (.int x) = true := rfl
theorem x_dert {Q : SV → Nat → Prop} {r : SV} {n : Nat} : (defE Q).rt r n = Q r n := rfl
theorem x_denx {Q : SV → Nat → Prop} {G : Gm} : (defE Q).nx G = Q (.dat .non) G.c := rfl
/-! comprehensions -/
section
variable {n0 : Nat} {vs : List Nat} {g : DG} {c : DT} {e : DE} {Qe : List D → Gm → Prop} {d : D} {r acc : List D} {G : Gm}
def brL (_ : Nat) (b : Bool) (vs : List Nat) (g : DG) (c : DT) (e : DE) (Qe : List D → Gm → Prop) (r acc : List D) (G : Gm) : Prop :=
  if b = true then e G fun sv G3 => frz G3 sv fun y G4 => lcL vs g c e Qe r (acc ++ [y]) (wipeG vs G4) else lcL vs g c e Qe r acc (wipeG vs G)
theorem x_brl1 : brL n0 true vs g c e Qe r acc G = e G fun sv G3 => frz G3 sv fun y G4 => lcL vs g c e Qe r (acc ++ [y]) (wipeG vs G4) := by unfold brL; rw [if_pos rfl]
theorem x_brl0 : brL n0 false vs g c e Qe r acc G = lcL vs g c e Qe r acc (wipeG vs G) := by unfold brL; rw [if_neg Bool.false_ne_true]
theorem x_lcn : lcL vs g c e Qe [] acc G = Qe acc G := rfl
theorem x_lcc : lcL vs g c e Qe (d :: r) acc G = g (.dat d) G fun G1 => c G1 fun b G2 => brL (0 + 0) b vs g c e Qe r acc G2 := rfl
theorem x_yes {Qb : Bool → Gm → Prop} : dYes G Qb = Qb true G := rfl
def brK (_ : Nat) (b : Bool) (vs : List Nat) (e : DE) (k : D → Gm → Prop) (k' : Gm → Prop) (G : Gm) : Prop := if b = true then e G fun sv G3 => frz G3 sv fun y G4 => k y (wipeG vs G4) else k' (wipeG vs G)
theorem x_brk1 {k : D → Gm → Prop} {k' : Gm → Prop} : brK n0 true vs e k k' G = e G fun sv G3 => frz G3 sv fun y G4 => k y (wipeG vs G4) := by unfold brK; rw [if_pos rfl]
theorem x_brk0 {k : D → Gm → Prop} {k' : Gm → Prop} : brK n0 false vs e k k' G = k' (wipeG vs G) := by unfold brK; rw [if_neg Bool.false_ne_true]
/-- one turn -/
def lcT (vs : List Nat) (g : DG) (c : DT) (e : DE) (d : D) (G : Gm) (k : D → Gm → Prop) (k' : Gm → Prop) : Prop := g (.dat d) G fun G1 => c G1 fun b G2 => brK (0 + 0) b vs e k k' G2
theorem x_lct {k : D → Gm → Prop} {k' : Gm → Prop} : lcT vs g c e d G k k' = g (.dat d) G fun G1 => c G1 fun b G2 => brK (0 + 0) b vs e k k' G2 := rfl
/-- turn by turn -/
theorem lc_inv (I : List D → List D → Gm → Prop) (step : ∀ (d : D) (r acc : List D) (G : Gm), I (d :: r) acc G → lcT vs g c e d G (fun y G' => I r (acc ++ [y]) G') (fun G' => I r acc G')) (fin : ∀ acc G, I [] acc G → Qe acc G)
    (mono : ∀ (d : D) (G : Gm) (k l : D → Gm → Prop) (k' l' : Gm → Prop), (∀ y G', k y G' → l y G') → (∀ G', k' G' → l' G') → lcT vs g c e d G k k' → lcT vs g c e d G l l') :
    ∀ (ds acc : List D) (G : Gm), I ds acc G → lcL vs g c e Qe ds acc G
  | [], acc, G, h => fin acc G h
  | d :: r, acc, G, h => mono d G _ (fun y G' => lcL vs g c e Qe r (acc ++ [y]) G') _ (fun G' => lcL vs g c e Qe r acc G') (fun y G' => lc_inv I step fin mono r (acc ++ [y]) G') (fun G' => lc_inv I step fin mono r acc G') (step d r acc G h)
/-- each one gives its own, nothing else changes -/
theorem lc_map {f : D → Option D} : ∀ {ds acc : List D}, (∀ d ∈ ds, ∀ (k : D → Gm → Prop) (k' : Gm → Prop), (match f d with | some y => k y G | none => k' G) → lcT vs g c e d G k k') → Qe (acc ++ ds.filterMap f) G → lcL vs g c e Qe ds acc G
  | [], acc, _, q => by rw [List.filterMap_nil, List.append_nil] at q; exact q
  | d :: r, acc, st, q => by
    refine st d List.mem_cons_self (fun y G' => lcL vs g c e Qe r (acc ++ [y]) G') (fun G' => lcL vs g c e Qe r acc G') ?_
    have tl : ∀ x ∈ r, ∀ (k : D → Gm → Prop) (k' : Gm → Prop), (match f x with | some y => k y G | none => k' G) → lcT vs g c e x G k k' := fun x hx => st x (List.mem_cons_of_mem _ hx)
    cases h : f d with
    | none => exact lc_map tl (by rw [List.filterMap_cons, h] at q; exact q)
    | some y => exact lc_map tl (by rw [List.filterMap_cons, h] at q; rw [List.append_assoc]; exact q)
theorem lc_all {f : D → D} {ds : List D} (st : ∀ d ∈ ds, ∀ (k : D → Gm → Prop) (k' : Gm → Prop), k (f d) G → lcT vs g c e d G k k') (q : Qe (ds.map f) G) : lcL vs g c e Qe ds [] G := by
  refine lc_map (f := fun d => some (f d)) (fun d hd k k' h => st d hd k k' h) ?_
  rw [List.nil_append, List.filterMap_eq_map']
  exact q
/-! loops -/
theorem x_fon {g : DG} {t : DS} {E : DEnds} : forL g t E [] G = E.nx G := rfl
theorem x_foc {g : DG} {t : DS} {E : DEnds} : forL g t E (d :: r) G = g (.dat d) G fun G1 => t { E with nx := forL g t E r, ct := forL g t E r, bk := E.nx } G1 := rfl
/-- turn by turn: I what holds with so many still to come -/
theorem for_inv {g : DG} {t : DS} {E : DEnds} (I : List D → Gm → Prop) (fin : ∀ G, I [] G → E.nx G) :
    ∀ (ds : List D) (_ : ∀ (d : D) (r : List D) (G : Gm) (N : Gm → Prop), (d :: r) <:+ ds → I (d :: r) G → (∀ G', I r G' → N G') → g (.dat d) G fun G1 => t { E with nx := N, ct := N, bk := E.nx } G1) (G : Gm), I ds G → forL g t E ds G
  | [], _, G, h => fin G h
  | d :: r, st, G, h => st d r G (forL g t E r) (List.suffix_refl _) h fun G' h' => for_inv I fin r (fun x s G N hs => st x s G N (List.IsSuffix.trans hs (List.suffix_cons _ _))) G' h'
end
/-! bounds -/
theorem log2_lt {n : Nat} {k : Nat} (h : n < 2 ^ k) (hk : 0 < k) : n.log2 < k := by
  by_cases z : n = 0
  · subst z; simpa using hk
  · exact (Nat.log2_lt z).mpr h
theorem cm {x y : Int} (h1 : x.natAbs < 10 ^ 300) (h2 : y.natAbs < 10 ^ 300) : CMulW x y := by
  have a := log2_lt (n := x.natAbs) (k := 1000) (Nat.lt_of_lt_of_le h1 (by decide +kernel)) (by decide)
  have b := log2_lt (n := y.natAbs) (k := 1000) (Nat.lt_of_lt_of_le h2 (by decide +kernel)) (by decide)
  unfold CMulW; omega
theorem lg {x : Int} (h1 : x.natAbs < 10 ^ 300) : x.natAbs.log2 < 9000 :=
  Nat.lt_trans (log2_lt (k := 1000) (Nat.lt_of_lt_of_le h1 (by decide +kernel)) (by decide)) (by decide)
theorem nab {x : Int} {B : Nat} (h1 : -(B : Int) < x) (h2 : x < B) : x.natAbs < B := by omega
theorem sz {α : Type} {l : List α} (h : l.length ≤ 1000) : l.length ≤ sizeLine := Nat.le_trans h (by decide)
theorem szn {n : Nat} (h : n ≤ 1000) : n ≤ sizeLine := Nat.le_trans h (by decide)
theorem szt {n : Nat} (h : n ≤ 1000) : (n ≤ sizeLine) = True := eq_true (szn h)
section
variable {α : Type} {a b c d : α} {r : List α}
theorem A_0 : atI (a :: r) 0 = some a := atI_nat (j := 0) rfl
theorem A_1 : atI (a :: b :: r) 1 = some b := atI_nat (j := 1) rfl
theorem A_2 : atI (a :: b :: c :: r) 2 = some c := atI_nat (j := 2) rfl
theorem A_3 : atI (a :: b :: c :: d :: r) 3 = some d := atI_nat (j := 3) rfl
end
/-! equality of data -/
theorem e_ii {x y : Int} : eqD (.int x) (.int y) = decide (x = y) := by unfold eqD toPy PyData.eqv; rw [Bool.eq_iff_iff]; simp
theorem e_bb {x y : Bool} : eqD (.bl x) (.bl y) = decide (x = y) := by unfold eqD toPy PyData.eqv; rw [Bool.eq_iff_iff]; cases x <;> cases y <;> simp
def eqDs (as bs : List D) : Bool := PyData.eqvAll (toPys as) (toPys bs)
theorem e_tt {as bs : List D} : eqD (.tup as) (.tup bs) = eqDs as bs := by unfold eqD eqDs; rw [toPy, toPy, PyData.eqv]
theorem e_ll {as bs : List D} : eqD (.lst as) (.lst bs) = eqDs as bs := by unfold eqD eqDs; rw [toPy, toPy, PyData.eqv]
theorem e_nn : eqDs [] [] = true := by unfold eqDs; rw [toPys, PyData.eqvAll]
theorem e_cc {a b : D} {as bs : List D} : eqDs (a :: as) (b :: bs) = (eqD a b && eqDs as bs) := by unfold eqDs eqD; rw [toPys, toPys, PyData.eqvAll]
theorem e_tl {as bs : List D} : eqD (.tup as) (.lst bs) = false := by unfold eqD; rw [toPy, toPy, PyData.eqv] <;> simp
theorem e_lt {as bs : List D} : eqD (.lst as) (.tup bs) = false := by unfold eqD; rw [toPy, toPy, PyData.eqv] <;> simp
theorem p_i {n : Nat} {x : Int} : Pl n (.int x) := by cases n <;> trivial
theorem p_b {n : Nat} {x : Bool} : Pl n (.bl x) := by cases n <;> trivial
theorem p_n {n : Nat} : Pl n .non := by cases n <;> trivial
theorem p_t {n : Nat} {ds : List D} (h : ∀ d ∈ ds, Pl n d) : Pl (n + 1) (.tup ds) := h
theorem p_l {n : Nat} {ds : List D} (h : ∀ d ∈ ds, Pl n d) : Pl (n + 1) (.lst ds) := h
theorem q_tt {as bs : List D} {f : Bool → Prop} (h1 : Pl 20 (.tup as)) (h2 : Pl 20 (.tup bs)) : eqQ (.tup as) (.tup bs) f = f (eqDs as bs) := by
  rw [x_eqD (d := .tup as) (e := .tup bs) rfl h1 h2, e_tt]
theorem q_ll {as bs : List D} {f : Bool → Prop} (h1 : Pl 20 (.lst as)) (h2 : Pl 20 (.lst bs)) : eqQ (.lst as) (.lst bs) f = f (eqDs as bs) := by
  rw [x_eqD (d := .lst as) (e := .lst bs) rfl h1 h2, e_ll]
/-- pairs of ints -/
theorem q_pp {a b c d : Int} {f : Bool → Prop} : eqQ (.tup [.int a, .int b]) (.tup [.int c, .int d]) f = f (decide (a = c) && decide (b = d)) := by
  rw [q_tt (p_t (n := 19) (by intro d hd; simp at hd; rcases hd with rfl | rfl <;> exact p_i)) (p_t (n := 19) (by intro d hd; simp at hd; rcases hd with rfl | rfl <;> exact p_i)), e_cc, e_cc, e_nn, e_ii, e_ii, Bool.and_true]
theorem b_all {bs : List D} {ns : List Bool} {q : SV → Prop} (h : bs = ns.map D.bl) : dAll (.lst bs) q = q (.dat (.bl (ns.all fun b => b))) := by
  subst h
  have : blsOf (ns.map D.bl) = some ns := by
    induction ns with
    | nil => rfl
    | cons n ns ih => show (match blsOf (ns.map D.bl) with | some ns => some (n :: ns) | none => none) = _; rw [ih]
  show (match blsOf (ns.map D.bl) with | some ns => _ | none => False) = _
  rw [this]
theorem b_all2 {x y : Bool} {q : SV → Prop} : dAll (.lst [.bl x, .bl y]) q = q (.dat (.bl (x && y))) := (b_all (bs := [.bl x, .bl y]) (ns := [x, y]) rfl).trans (by simp)
theorem b_all3 {x y z : Bool} {q : SV → Prop} : dAll (.lst [.bl x, .bl y, .bl z]) q = q (.dat (.bl (x && (y && z)))) := (b_all (bs := [.bl x, .bl y, .bl z]) (ns := [x, y, z]) rfl).trans (by simp)
section
variable {a b c d e : D} {q : SV → Prop}
theorem L_t1 : dLen (.tup [a]) q = q (.dat (.int 1)) := rfl
theorem L_t2 : dLen (.tup [a, b]) q = q (.dat (.int 2)) := rfl
theorem L_t3 : dLen (.tup [a, b, c]) q = q (.dat (.int 3)) := rfl
theorem L_l0 : dLen (.lst []) q = q (.dat (.int 0)) := rfl
theorem L_l1 : dLen (.lst [a]) q = q (.dat (.int 1)) := rfl
theorem L_l2 : dLen (.lst [a, b]) q = q (.dat (.int 2)) := rfl
theorem L_l3 : dLen (.lst [a, b, c]) q = q (.dat (.int 3)) := rfl
end
theorem v0 {c : Nat} {r : List (Option SC)} {d : D} {Q : SV → Gm → Prop} : dVar 0 ⟨some (.dat d) :: r, c⟩ Q = Q (.dat d) ⟨some (.dat d) :: r, c⟩ := rfl
theorem w0 {c : Nat} {r : List (Option SC)} {d : D} {Q : SV → Gm → Prop} : dVar 0 ⟨some (.own d) :: r, c⟩ Q = Q (.bor 0) ⟨some (.own d) :: r, c⟩ := rfl
theorem n0 {c : Nat} {r : List (Option SC)} {d : D} {o : Option SC} {Q : Gm → Prop} : dgName 0 (.dat d) ⟨o :: r, c⟩ Q = Q ⟨some (.dat d) :: r, c⟩ := rfl
theorem m0 {c : Nat} {r : List (Option SC)} {d : D} {o : Option SC} {Q : Gm → Prop} : dgName 0 (.new d) ⟨o :: r, c⟩ Q = Q ⟨some (.own d) :: r, c⟩ := rfl
theorem sb0 {c : Nat} {r : List (Option SC)} {d : D} {f : D → Prop} : see ⟨some (.own d) :: r, c⟩ (.bor 0) f = f d := rfl
theorem fb0 {c : Nat} {r : List (Option SC)} {d : D} {f : D → Gm → Prop} : frz ⟨some (.own d) :: r, c⟩ (.bor 0) f = f d ⟨some (.dat d) :: r, c⟩ := rfl
theorem rb0 {c : Nat} {r : List (Option SC)} {d : D} {f : SV → Prop} : rtS ⟨some (.own d) :: r, c⟩ (.bor 0) f = f (.new d) := rfl
theorem v1 {c : Nat} {r : List (Option SC)} {d : D} {o0 : Option SC} {Q : SV → Gm → Prop} : dVar 1 ⟨o0 :: some (.dat d) :: r, c⟩ Q = Q (.dat d) ⟨o0 :: some (.dat d) :: r, c⟩ := rfl
theorem w1 {c : Nat} {r : List (Option SC)} {d : D} {o0 : Option SC} {Q : SV → Gm → Prop} : dVar 1 ⟨o0 :: some (.own d) :: r, c⟩ Q = Q (.bor 1) ⟨o0 :: some (.own d) :: r, c⟩ := rfl
theorem n1 {c : Nat} {r : List (Option SC)} {d : D} {o : Option SC} {o0 : Option SC} {Q : Gm → Prop} : dgName 1 (.dat d) ⟨o0 :: o :: r, c⟩ Q = Q ⟨o0 :: some (.dat d) :: r, c⟩ := rfl
theorem m1 {c : Nat} {r : List (Option SC)} {d : D} {o : Option SC} {o0 : Option SC} {Q : Gm → Prop} : dgName 1 (.new d) ⟨o0 :: o :: r, c⟩ Q = Q ⟨o0 :: some (.own d) :: r, c⟩ := rfl
theorem sb1 {c : Nat} {r : List (Option SC)} {d : D} {o0 : Option SC} {f : D → Prop} : see ⟨o0 :: some (.own d) :: r, c⟩ (.bor 1) f = f d := rfl
theorem fb1 {c : Nat} {r : List (Option SC)} {d : D} {o0 : Option SC} {f : D → Gm → Prop} : frz ⟨o0 :: some (.own d) :: r, c⟩ (.bor 1) f = f d ⟨o0 :: some (.dat d) :: r, c⟩ := rfl
theorem rb1 {c : Nat} {r : List (Option SC)} {d : D} {o0 : Option SC} {f : SV → Prop} : rtS ⟨o0 :: some (.own d) :: r, c⟩ (.bor 1) f = f (.new d) := rfl
theorem v2 {c : Nat} {r : List (Option SC)} {d : D} {o0 o1 : Option SC} {Q : SV → Gm → Prop} : dVar 2 ⟨o0 :: o1 :: some (.dat d) :: r, c⟩ Q = Q (.dat d) ⟨o0 :: o1 :: some (.dat d) :: r, c⟩ := rfl
theorem w2 {c : Nat} {r : List (Option SC)} {d : D} {o0 o1 : Option SC} {Q : SV → Gm → Prop} : dVar 2 ⟨o0 :: o1 :: some (.own d) :: r, c⟩ Q = Q (.bor 2) ⟨o0 :: o1 :: some (.own d) :: r, c⟩ := rfl
theorem n2 {c : Nat} {r : List (Option SC)} {d : D} {o : Option SC} {o0 o1 : Option SC} {Q : Gm → Prop} : dgName 2 (.dat d) ⟨o0 :: o1 :: o :: r, c⟩ Q = Q ⟨o0 :: o1 :: some (.dat d) :: r, c⟩ := rfl
theorem m2 {c : Nat} {r : List (Option SC)} {d : D} {o : Option SC} {o0 o1 : Option SC} {Q : Gm → Prop} : dgName 2 (.new d) ⟨o0 :: o1 :: o :: r, c⟩ Q = Q ⟨o0 :: o1 :: some (.own d) :: r, c⟩ := rfl
theorem sb2 {c : Nat} {r : List (Option SC)} {d : D} {o0 o1 : Option SC} {f : D → Prop} : see ⟨o0 :: o1 :: some (.own d) :: r, c⟩ (.bor 2) f = f d := rfl
theorem fb2 {c : Nat} {r : List (Option SC)} {d : D} {o0 o1 : Option SC} {f : D → Gm → Prop} : frz ⟨o0 :: o1 :: some (.own d) :: r, c⟩ (.bor 2) f = f d ⟨o0 :: o1 :: some (.dat d) :: r, c⟩ := rfl
theorem rb2 {c : Nat} {r : List (Option SC)} {d : D} {o0 o1 : Option SC} {f : SV → Prop} : rtS ⟨o0 :: o1 :: some (.own d) :: r, c⟩ (.bor 2) f = f (.new d) := rfl
theorem v3 {c : Nat} {r : List (Option SC)} {d : D} {o0 o1 o2 : Option SC} {Q : SV → Gm → Prop} : dVar 3 ⟨o0 :: o1 :: o2 :: some (.dat d) :: r, c⟩ Q = Q (.dat d) ⟨o0 :: o1 :: o2 :: some (.dat d) :: r, c⟩ := rfl
theorem w3 {c : Nat} {r : List (Option SC)} {d : D} {o0 o1 o2 : Option SC} {Q : SV → Gm → Prop} : dVar 3 ⟨o0 :: o1 :: o2 :: some (.own d) :: r, c⟩ Q = Q (.bor 3) ⟨o0 :: o1 :: o2 :: some (.own d) :: r, c⟩ := rfl
theorem n3 {c : Nat} {r : List (Option SC)} {d : D} {o : Option SC} {o0 o1 o2 : Option SC} {Q : Gm → Prop} : dgName 3 (.dat d) ⟨o0 :: o1 :: o2 :: o :: r, c⟩ Q = Q ⟨o0 :: o1 :: o2 :: some (.dat d) :: r, c⟩ := rfl
theorem m3 {c : Nat} {r : List (Option SC)} {d : D} {o : Option SC} {o0 o1 o2 : Option SC} {Q : Gm → Prop} : dgName 3 (.new d) ⟨o0 :: o1 :: o2 :: o :: r, c⟩ Q = Q ⟨o0 :: o1 :: o2 :: some (.own d) :: r, c⟩ := rfl
theorem sb3 {c : Nat} {r : List (Option SC)} {d : D} {o0 o1 o2 : Option SC} {f : D → Prop} : see ⟨o0 :: o1 :: o2 :: some (.own d) :: r, c⟩ (.bor 3) f = f d := rfl
theorem fb3 {c : Nat} {r : List (Option SC)} {d : D} {o0 o1 o2 : Option SC} {f : D → Gm → Prop} : frz ⟨o0 :: o1 :: o2 :: some (.own d) :: r, c⟩ (.bor 3) f = f d ⟨o0 :: o1 :: o2 :: some (.dat d) :: r, c⟩ := rfl
theorem rb3 {c : Nat} {r : List (Option SC)} {d : D} {o0 o1 o2 : Option SC} {f : SV → Prop} : rtS ⟨o0 :: o1 :: o2 :: some (.own d) :: r, c⟩ (.bor 3) f = f (.new d) := rfl
theorem v4 {c : Nat} {r : List (Option SC)} {d : D} {o0 o1 o2 o3 : Option SC} {Q : SV → Gm → Prop} : dVar 4 ⟨o0 :: o1 :: o2 :: o3 :: some (.dat d) :: r, c⟩ Q = Q (.dat d) ⟨o0 :: o1 :: o2 :: o3 :: some (.dat d) :: r, c⟩ := rfl
theorem w4 {c : Nat} {r : List (Option SC)} {d : D} {o0 o1 o2 o3 : Option SC} {Q : SV → Gm → Prop} : dVar 4 ⟨o0 :: o1 :: o2 :: o3 :: some (.own d) :: r, c⟩ Q = Q (.bor 4) ⟨o0 :: o1 :: o2 :: o3 :: some (.own d) :: r, c⟩ := rfl
theorem n4 {c : Nat} {r : List (Option SC)} {d : D} {o : Option SC} {o0 o1 o2 o3 : Option SC} {Q : Gm → Prop} : dgName 4 (.dat d) ⟨o0 :: o1 :: o2 :: o3 :: o :: r, c⟩ Q = Q ⟨o0 :: o1 :: o2 :: o3 :: some (.dat d) :: r, c⟩ := rfl
theorem m4 {c : Nat} {r : List (Option SC)} {d : D} {o : Option SC} {o0 o1 o2 o3 : Option SC} {Q : Gm → Prop} : dgName 4 (.new d) ⟨o0 :: o1 :: o2 :: o3 :: o :: r, c⟩ Q = Q ⟨o0 :: o1 :: o2 :: o3 :: some (.own d) :: r, c⟩ := rfl
theorem sb4 {c : Nat} {r : List (Option SC)} {d : D} {o0 o1 o2 o3 : Option SC} {f : D → Prop} : see ⟨o0 :: o1 :: o2 :: o3 :: some (.own d) :: r, c⟩ (.bor 4) f = f d := rfl
theorem fb4 {c : Nat} {r : List (Option SC)} {d : D} {o0 o1 o2 o3 : Option SC} {f : D → Gm → Prop} : frz ⟨o0 :: o1 :: o2 :: o3 :: some (.own d) :: r, c⟩ (.bor 4) f = f d ⟨o0 :: o1 :: o2 :: o3 :: some (.dat d) :: r, c⟩ := rfl
theorem rb4 {c : Nat} {r : List (Option SC)} {d : D} {o0 o1 o2 o3 : Option SC} {f : SV → Prop} : rtS ⟨o0 :: o1 :: o2 :: o3 :: some (.own d) :: r, c⟩ (.bor 4) f = f (.new d) := rfl
theorem v5 {c : Nat} {r : List (Option SC)} {d : D} {o0 o1 o2 o3 o4 : Option SC} {Q : SV → Gm → Prop} : dVar 5 ⟨o0 :: o1 :: o2 :: o3 :: o4 :: some (.dat d) :: r, c⟩ Q = Q (.dat d) ⟨o0 :: o1 :: o2 :: o3 :: o4 :: some (.dat d) :: r, c⟩ := rfl
theorem w5 {c : Nat} {r : List (Option SC)} {d : D} {o0 o1 o2 o3 o4 : Option SC} {Q : SV → Gm → Prop} : dVar 5 ⟨o0 :: o1 :: o2 :: o3 :: o4 :: some (.own d) :: r, c⟩ Q = Q (.bor 5) ⟨o0 :: o1 :: o2 :: o3 :: o4 :: some (.own d) :: r, c⟩ := rfl
theorem n5 {c : Nat} {r : List (Option SC)} {d : D} {o : Option SC} {o0 o1 o2 o3 o4 : Option SC} {Q : Gm → Prop} : dgName 5 (.dat d) ⟨o0 :: o1 :: o2 :: o3 :: o4 :: o :: r, c⟩ Q = Q ⟨o0 :: o1 :: o2 :: o3 :: o4 :: some (.dat d) :: r, c⟩ := rfl
theorem m5 {c : Nat} {r : List (Option SC)} {d : D} {o : Option SC} {o0 o1 o2 o3 o4 : Option SC} {Q : Gm → Prop} : dgName 5 (.new d) ⟨o0 :: o1 :: o2 :: o3 :: o4 :: o :: r, c⟩ Q = Q ⟨o0 :: o1 :: o2 :: o3 :: o4 :: some (.own d) :: r, c⟩ := rfl
theorem sb5 {c : Nat} {r : List (Option SC)} {d : D} {o0 o1 o2 o3 o4 : Option SC} {f : D → Prop} : see ⟨o0 :: o1 :: o2 :: o3 :: o4 :: some (.own d) :: r, c⟩ (.bor 5) f = f d := rfl
theorem fb5 {c : Nat} {r : List (Option SC)} {d : D} {o0 o1 o2 o3 o4 : Option SC} {f : D → Gm → Prop} : frz ⟨o0 :: o1 :: o2 :: o3 :: o4 :: some (.own d) :: r, c⟩ (.bor 5) f = f d ⟨o0 :: o1 :: o2 :: o3 :: o4 :: some (.dat d) :: r, c⟩ := rfl
theorem rb5 {c : Nat} {r : List (Option SC)} {d : D} {o0 o1 o2 o3 o4 : Option SC} {f : SV → Prop} : rtS ⟨o0 :: o1 :: o2 :: o3 :: o4 :: some (.own d) :: r, c⟩ (.bor 5) f = f (.new d) := rfl
theorem v6 {c : Nat} {r : List (Option SC)} {d : D} {o0 o1 o2 o3 o4 o5 : Option SC} {Q : SV → Gm → Prop} : dVar 6 ⟨o0 :: o1 :: o2 :: o3 :: o4 :: o5 :: some (.dat d) :: r, c⟩ Q = Q (.dat d) ⟨o0 :: o1 :: o2 :: o3 :: o4 :: o5 :: some (.dat d) :: r, c⟩ := rfl
theorem w6 {c : Nat} {r : List (Option SC)} {d : D} {o0 o1 o2 o3 o4 o5 : Option SC} {Q : SV → Gm → Prop} : dVar 6 ⟨o0 :: o1 :: o2 :: o3 :: o4 :: o5 :: some (.own d) :: r, c⟩ Q = Q (.bor 6) ⟨o0 :: o1 :: o2 :: o3 :: o4 :: o5 :: some (.own d) :: r, c⟩ := rfl
theorem n6 {c : Nat} {r : List (Option SC)} {d : D} {o : Option SC} {o0 o1 o2 o3 o4 o5 : Option SC} {Q : Gm → Prop} : dgName 6 (.dat d) ⟨o0 :: o1 :: o2 :: o3 :: o4 :: o5 :: o :: r, c⟩ Q = Q ⟨o0 :: o1 :: o2 :: o3 :: o4 :: o5 :: some (.dat d) :: r, c⟩ := rfl
theorem m6 {c : Nat} {r : List (Option SC)} {d : D} {o : Option SC} {o0 o1 o2 o3 o4 o5 : Option SC} {Q : Gm → Prop} : dgName 6 (.new d) ⟨o0 :: o1 :: o2 :: o3 :: o4 :: o5 :: o :: r, c⟩ Q = Q ⟨o0 :: o1 :: o2 :: o3 :: o4 :: o5 :: some (.own d) :: r, c⟩ := rfl
theorem sb6 {c : Nat} {r : List (Option SC)} {d : D} {o0 o1 o2 o3 o4 o5 : Option SC} {f : D → Prop} : see ⟨o0 :: o1 :: o2 :: o3 :: o4 :: o5 :: some (.own d) :: r, c⟩ (.bor 6) f = f d := rfl
theorem fb6 {c : Nat} {r : List (Option SC)} {d : D} {o0 o1 o2 o3 o4 o5 : Option SC} {f : D → Gm → Prop} : frz ⟨o0 :: o1 :: o2 :: o3 :: o4 :: o5 :: some (.own d) :: r, c⟩ (.bor 6) f = f d ⟨o0 :: o1 :: o2 :: o3 :: o4 :: o5 :: some (.dat d) :: r, c⟩ := rfl
theorem rb6 {c : Nat} {r : List (Option SC)} {d : D} {o0 o1 o2 o3 o4 o5 : Option SC} {f : SV → Prop} : rtS ⟨o0 :: o1 :: o2 :: o3 :: o4 :: o5 :: some (.own d) :: r, c⟩ (.bor 6) f = f (.new d) := rfl
theorem v7 {c : Nat} {r : List (Option SC)} {d : D} {o0 o1 o2 o3 o4 o5 o6 : Option SC} {Q : SV → Gm → Prop} : dVar 7 ⟨o0 :: o1 :: o2 :: o3 :: o4 :: o5 :: o6 :: some (.dat d) :: r, c⟩ Q = Q (.dat d) ⟨o0 :: o1 :: o2 :: o3 :: o4 :: o5 :: o6 :: some (.dat d) :: r, c⟩ := rfl
theorem w7 {c : Nat} {r : List (Option SC)} {d : D} {o0 o1 o2 o3 o4 o5 o6 : Option SC} {Q : SV → Gm → Prop} : dVar 7 ⟨o0 :: o1 :: o2 :: o3 :: o4 :: o5 :: o6 :: some (.own d) :: r, c⟩ Q = Q (.bor 7) ⟨o0 :: o1 :: o2 :: o3 :: o4 :: o5 :: o6 :: some (.own d) :: r, c⟩ := rfl
theorem n7 {c : Nat} {r : List (Option SC)} {d : D} {o : Option SC} {o0 o1 o2 o3 o4 o5 o6 : Option SC} {Q : Gm → Prop} : dgName 7 (.dat d) ⟨o0 :: o1 :: o2 :: o3 :: o4 :: o5 :: o6 :: o :: r, c⟩ Q = Q ⟨o0 :: o1 :: o2 :: o3 :: o4 :: o5 :: o6 :: some (.dat d) :: r, c⟩ := rfl
theorem m7 {c : Nat} {r : List (Option SC)} {d : D} {o : Option SC} {o0 o1 o2 o3 o4 o5 o6 : Option SC} {Q : Gm → Prop} : dgName 7 (.new d) ⟨o0 :: o1 :: o2 :: o3 :: o4 :: o5 :: o6 :: o :: r, c⟩ Q = Q ⟨o0 :: o1 :: o2 :: o3 :: o4 :: o5 :: o6 :: some (.own d) :: r, c⟩ := rfl
theorem sb7 {c : Nat} {r : List (Option SC)} {d : D} {o0 o1 o2 o3 o4 o5 o6 : Option SC} {f : D → Prop} : see ⟨o0 :: o1 :: o2 :: o3 :: o4 :: o5 :: o6 :: some (.own d) :: r, c⟩ (.bor 7) f = f d := rfl
theorem fb7 {c : Nat} {r : List (Option SC)} {d : D} {o0 o1 o2 o3 o4 o5 o6 : Option SC} {f : D → Gm → Prop} : frz ⟨o0 :: o1 :: o2 :: o3 :: o4 :: o5 :: o6 :: some (.own d) :: r, c⟩ (.bor 7) f = f d ⟨o0 :: o1 :: o2 :: o3 :: o4 :: o5 :: o6 :: some (.dat d) :: r, c⟩ := rfl
theorem rb7 {c : Nat} {r : List (Option SC)} {d : D} {o0 o1 o2 o3 o4 o5 o6 : Option SC} {f : SV → Prop} : rtS ⟨o0 :: o1 :: o2 :: o3 :: o4 :: o5 :: o6 :: some (.own d) :: r, c⟩ (.bor 7) f = f (.new d) := rfl
theorem v8 {c : Nat} {r : List (Option SC)} {d : D} {o0 o1 o2 o3 o4 o5 o6 o7 : Option SC} {Q : SV → Gm → Prop} : dVar 8 ⟨o0 :: o1 :: o2 :: o3 :: o4 :: o5 :: o6 :: o7 :: some (.dat d) :: r, c⟩ Q = Q (.dat d) ⟨o0 :: o1 :: o2 :: o3 :: o4 :: o5 :: o6 :: o7 :: some (.dat d) :: r, c⟩ := rfl
theorem w8 {c : Nat} {r : List (Option SC)} {d : D} {o0 o1 o2 o3 o4 o5 o6 o7 : Option SC} {Q : SV → Gm → Prop} : dVar 8 ⟨o0 :: o1 :: o2 :: o3 :: o4 :: o5 :: o6 :: o7 :: some (.own d) :: r, c⟩ Q = Q (.bor 8) ⟨o0 :: o1 :: o2 :: o3 :: o4 :: o5 :: o6 :: o7 :: some (.own d) :: r, c⟩ := rfl
theorem n8 {c : Nat} {r : List (Option SC)} {d : D} {o : Option SC} {o0 o1 o2 o3 o4 o5 o6 o7 : Option SC} {Q : Gm → Prop} : dgName 8 (.dat d) ⟨o0 :: o1 :: o2 :: o3 :: o4 :: o5 :: o6 :: o7 :: o :: r, c⟩ Q = Q ⟨o0 :: o1 :: o2 :: o3 :: o4 :: o5 :: o6 :: o7 :: some (.dat d) :: r, c⟩ := rfl
theorem m8 {c : Nat} {r : List (Option SC)} {d : D} {o : Option SC} {o0 o1 o2 o3 o4 o5 o6 o7 : Option SC} {Q : Gm → Prop} : dgName 8 (.new d) ⟨o0 :: o1 :: o2 :: o3 :: o4 :: o5 :: o6 :: o7 :: o :: r, c⟩ Q = Q ⟨o0 :: o1 :: o2 :: o3 :: o4 :: o5 :: o6 :: o7 :: some (.own d) :: r, c⟩ := rfl
theorem sb8 {c : Nat} {r : List (Option SC)} {d : D} {o0 o1 o2 o3 o4 o5 o6 o7 : Option SC} {f : D → Prop} : see ⟨o0 :: o1 :: o2 :: o3 :: o4 :: o5 :: o6 :: o7 :: some (.own d) :: r, c⟩ (.bor 8) f = f d := rfl
theorem fb8 {c : Nat} {r : List (Option SC)} {d : D} {o0 o1 o2 o3 o4 o5 o6 o7 : Option SC} {f : D → Gm → Prop} : frz ⟨o0 :: o1 :: o2 :: o3 :: o4 :: o5 :: o6 :: o7 :: some (.own d) :: r, c⟩ (.bor 8) f = f d ⟨o0 :: o1 :: o2 :: o3 :: o4 :: o5 :: o6 :: o7 :: some (.dat d) :: r, c⟩ := rfl
theorem rb8 {c : Nat} {r : List (Option SC)} {d : D} {o0 o1 o2 o3 o4 o5 o6 o7 : Option SC} {f : SV → Prop} : rtS ⟨o0 :: o1 :: o2 :: o3 :: o4 :: o5 :: o6 :: o7 :: some (.own d) :: r, c⟩ (.bor 8) f = f (.new d) := rfl
theorem v9 {c : Nat} {r : List (Option SC)} {d : D} {o0 o1 o2 o3 o4 o5 o6 o7 o8 : Option SC} {Q : SV → Gm → Prop} : dVar 9 ⟨o0 :: o1 :: o2 :: o3 :: o4 :: o5 :: o6 :: o7 :: o8 :: some (.dat d) :: r, c⟩ Q = Q (.dat d) ⟨o0 :: o1 :: o2 :: o3 :: o4 :: o5 :: o6 :: o7 :: o8 :: some (.dat d) :: r, c⟩ := rfl
theorem w9 {c : Nat} {r : List (Option SC)} {d : D} {o0 o1 o2 o3 o4 o5 o6 o7 o8 : Option SC} {Q : SV → Gm → Prop} : dVar 9 ⟨o0 :: o1 :: o2 :: o3 :: o4 :: o5 :: o6 :: o7 :: o8 :: some (.own d) :: r, c⟩ Q = Q (.bor 9) ⟨o0 :: o1 :: o2 :: o3 :: o4 :: o5 :: o6 :: o7 :: o8 :: some (.own d) :: r, c⟩ := rfl
theorem n9 {c : Nat} {r : List (Option SC)} {d : D} {o : Option SC} {o0 o1 o2 o3 o4 o5 o6 o7 o8 : Option SC} {Q : Gm → Prop} : dgName 9 (.dat d) ⟨o0 :: o1 :: o2 :: o3 :: o4 :: o5 :: o6 :: o7 :: o8 :: o :: r, c⟩ Q = Q ⟨o0 :: o1 :: o2 :: o3 :: o4 :: o5 :: o6 :: o7 :: o8 :: some (.dat d) :: r, c⟩ := rfl
theorem m9 {c : Nat} {r : List (Option SC)} {d : D} {o : Option SC} {o0 o1 o2 o3 o4 o5 o6 o7 o8 : Option SC} {Q : Gm → Prop} : dgName 9 (.new d) ⟨o0 :: o1 :: o2 :: o3 :: o4 :: o5 :: o6 :: o7 :: o8 :: o :: r, c⟩ Q = Q ⟨o0 :: o1 :: o2 :: o3 :: o4 :: o5 :: o6 :: o7 :: o8 :: some (.own d) :: r, c⟩ := rfl
theorem sb9 {c : Nat} {r : List (Option SC)} {d : D} {o0 o1 o2 o3 o4 o5 o6 o7 o8 : Option SC} {f : D → Prop} : see ⟨o0 :: o1 :: o2 :: o3 :: o4 :: o5 :: o6 :: o7 :: o8 :: some (.own d) :: r, c⟩ (.bor 9) f = f d := rfl
theorem fb9 {c : Nat} {r : List (Option SC)} {d : D} {o0 o1 o2 o3 o4 o5 o6 o7 o8 : Option SC} {f : D → Gm → Prop} : frz ⟨o0 :: o1 :: o2 :: o3 :: o4 :: o5 :: o6 :: o7 :: o8 :: some (.own d) :: r, c⟩ (.bor 9) f = f d ⟨o0 :: o1 :: o2 :: o3 :: o4 :: o5 :: o6 :: o7 :: o8 :: some (.dat d) :: r, c⟩ := rfl
theorem rb9 {c : Nat} {r : List (Option SC)} {d : D} {o0 o1 o2 o3 o4 o5 o6 o7 o8 : Option SC} {f : SV → Prop} : rtS ⟨o0 :: o1 :: o2 :: o3 :: o4 :: o5 :: o6 :: o7 :: o8 :: some (.own d) :: r, c⟩ (.bor 9) f = f (.new d) := rfl
theorem v10 {c : Nat} {r : List (Option SC)} {d : D} {o0 o1 o2 o3 o4 o5 o6 o7 o8 o9 : Option SC} {Q : SV → Gm → Prop} : dVar 10 ⟨o0 :: o1 :: o2 :: o3 :: o4 :: o5 :: o6 :: o7 :: o8 :: o9 :: some (.dat d) :: r, c⟩ Q = Q (.dat d) ⟨o0 :: o1 :: o2 :: o3 :: o4 :: o5 :: o6 :: o7 :: o8 :: o9 :: some (.dat d) :: r, c⟩ := rfl
theorem w10 {c : Nat} {r : List (Option SC)} {d : D} {o0 o1 o2 o3 o4 o5 o6 o7 o8 o9 : Option SC} {Q : SV → Gm → Prop} : dVar 10 ⟨o0 :: o1 :: o2 :: o3 :: o4 :: o5 :: o6 :: o7 :: o8 :: o9 :: some (.own d) :: r, c⟩ Q = Q (.bor 10) ⟨o0 :: o1 :: o2 :: o3 :: o4 :: o5 :: o6 :: o7 :: o8 :: o9 :: some (.own d) :: r, c⟩ := rfl
theorem n10 {c : Nat} {r : List (Option SC)} {d : D} {o : Option SC} {o0 o1 o2 o3 o4 o5 o6 o7 o8 o9 : Option SC} {Q : Gm → Prop} : dgName 10 (.dat d) ⟨o0 :: o1 :: o2 :: o3 :: o4 :: o5 :: o6 :: o7 :: o8 :: o9 :: o :: r, c⟩ Q = Q ⟨o0 :: o1 :: o2 :: o3 :: o4 :: o5 :: o6 :: o7 :: o8 :: o9 :: some (.dat d) :: r, c⟩ := rfl
theorem m10 {c : Nat} {r : List (Option SC)} {d : D} {o : Option SC} {o0 o1 o2 o3 o4 o5 o6 o7 o8 o9 : Option SC} {Q : Gm → Prop} : dgName 10 (.new d) ⟨o0 :: o1 :: o2 :: o3 :: o4 :: o5 :: o6 :: o7 :: o8 :: o9 :: o :: r, c⟩ Q = Q ⟨o0 :: o1 :: o2 :: o3 :: o4 :: o5 :: o6 :: o7 :: o8 :: o9 :: some (.own d) :: r, c⟩ := rfl
theorem sb10 {c : Nat} {r : List (Option SC)} {d : D} {o0 o1 o2 o3 o4 o5 o6 o7 o8 o9 : Option SC} {f : D → Prop} : see ⟨o0 :: o1 :: o2 :: o3 :: o4 :: o5 :: o6 :: o7 :: o8 :: o9 :: some (.own d) :: r, c⟩ (.bor 10) f = f d := rfl
theorem fb10 {c : Nat} {r : List (Option SC)} {d : D} {o0 o1 o2 o3 o4 o5 o6 o7 o8 o9 : Option SC} {f : D → Gm → Prop} : frz ⟨o0 :: o1 :: o2 :: o3 :: o4 :: o5 :: o6 :: o7 :: o8 :: o9 :: some (.own d) :: r, c⟩ (.bor 10) f = f d ⟨o0 :: o1 :: o2 :: o3 :: o4 :: o5 :: o6 :: o7 :: o8 :: o9 :: some (.dat d) :: r, c⟩ := rfl
theorem rb10 {c : Nat} {r : List (Option SC)} {d : D} {o0 o1 o2 o3 o4 o5 o6 o7 o8 o9 : Option SC} {f : SV → Prop} : rtS ⟨o0 :: o1 :: o2 :: o3 :: o4 :: o5 :: o6 :: o7 :: o8 :: o9 :: some (.own d) :: r, c⟩ (.bor 10) f = f (.new d) := rfl
theorem v11 {c : Nat} {r : List (Option SC)} {d : D} {o0 o1 o2 o3 o4 o5 o6 o7 o8 o9 o10 : Option SC} {Q : SV → Gm → Prop} : dVar 11 ⟨o0 :: o1 :: o2 :: o3 :: o4 :: o5 :: o6 :: o7 :: o8 :: o9 :: o10 :: some (.dat d) :: r, c⟩ Q = Q (.dat d) ⟨o0 :: o1 :: o2 :: o3 :: o4 :: o5 :: o6 :: o7 :: o8 :: o9 :: o10 :: some (.dat d) :: r, c⟩ := rfl
theorem w11 {c : Nat} {r : List (Option SC)} {d : D} {o0 o1 o2 o3 o4 o5 o6 o7 o8 o9 o10 : Option SC} {Q : SV → Gm → Prop} : dVar 11 ⟨o0 :: o1 :: o2 :: o3 :: o4 :: o5 :: o6 :: o7 :: o8 :: o9 :: o10 :: some (.own d) :: r, c⟩ Q = Q (.bor 11) ⟨o0 :: o1 :: o2 :: o3 :: o4 :: o5 :: o6 :: o7 :: o8 :: o9 :: o10 :: some (.own d) :: r, c⟩ := rfl
theorem n11 {c : Nat} {r : List (Option SC)} {d : D} {o : Option SC} {o0 o1 o2 o3 o4 o5 o6 o7 o8 o9 o10 : Option SC} {Q : Gm → Prop} : dgName 11 (.dat d) ⟨o0 :: o1 :: o2 :: o3 :: o4 :: o5 :: o6 :: o7 :: o8 :: o9 :: o10 :: o :: r, c⟩ Q = Q ⟨o0 :: o1 :: o2 :: o3 :: o4 :: o5 :: o6 :: o7 :: o8 :: o9 :: o10 :: some (.dat d) :: r, c⟩ := rfl
theorem m11 {c : Nat} {r : List (Option SC)} {d : D} {o : Option SC} {o0 o1 o2 o3 o4 o5 o6 o7 o8 o9 o10 : Option SC} {Q : Gm → Prop} : dgName 11 (.new d) ⟨o0 :: o1 :: o2 :: o3 :: o4 :: o5 :: o6 :: o7 :: o8 :: o9 :: o10 :: o :: r, c⟩ Q = Q ⟨o0 :: o1 :: o2 :: o3 :: o4 :: o5 :: o6 :: o7 :: o8 :: o9 :: o10 :: some (.own d) :: r, c⟩ := rfl
theorem sb11 {c : Nat} {r : List (Option SC)} {d : D} {o0 o1 o2 o3 o4 o5 o6 o7 o8 o9 o10 : Option SC} {f : D → Prop} : see ⟨o0 :: o1 :: o2 :: o3 :: o4 :: o5 :: o6 :: o7 :: o8 :: o9 :: o10 :: some (.own d) :: r, c⟩ (.bor 11) f = f d := rfl
theorem fb11 {c : Nat} {r : List (Option SC)} {d : D} {o0 o1 o2 o3 o4 o5 o6 o7 o8 o9 o10 : Option SC} {f : D → Gm → Prop} : frz ⟨o0 :: o1 :: o2 :: o3 :: o4 :: o5 :: o6 :: o7 :: o8 :: o9 :: o10 :: some (.own d) :: r, c⟩ (.bor 11) f = f d ⟨o0 :: o1 :: o2 :: o3 :: o4 :: o5 :: o6 :: o7 :: o8 :: o9 :: o10 :: some (.dat d) :: r, c⟩ := rfl
theorem rb11 {c : Nat} {r : List (Option SC)} {d : D} {o0 o1 o2 o3 o4 o5 o6 o7 o8 o9 o10 : Option SC} {f : SV → Prop} : rtS ⟨o0 :: o1 :: o2 :: o3 :: o4 :: o5 :: o6 :: o7 :: o8 :: o9 :: o10 :: some (.own d) :: r, c⟩ (.bor 11) f = f (.new d) := rfl
theorem v12 {c : Nat} {r : List (Option SC)} {d : D} {o0 o1 o2 o3 o4 o5 o6 o7 o8 o9 o10 o11 : Option SC} {Q : SV → Gm → Prop} : dVar 12 ⟨o0 :: o1 :: o2 :: o3 :: o4 :: o5 :: o6 :: o7 :: o8 :: o9 :: o10 :: o11 :: some (.dat d) :: r, c⟩ Q = Q (.dat d) ⟨o0 :: o1 :: o2 :: o3 :: o4 :: o5 :: o6 :: o7 :: o8 :: o9 :: o10 :: o11 :: some (.dat d) :: r, c⟩ := rfl
theorem w12 {c : Nat} {r : List (Option SC)} {d : D} {o0 o1 o2 o3 o4 o5 o6 o7 o8 o9 o10 o11 : Option SC} {Q : SV → Gm → Prop} : dVar 12 ⟨o0 :: o1 :: o2 :: o3 :: o4 :: o5 :: o6 :: o7 :: o8 :: o9 :: o10 :: o11 :: some (.own d) :: r, c⟩ Q = Q (.bor 12) ⟨o0 :: o1 :: o2 :: o3 :: o4 :: o5 :: o6 :: o7 :: o8 :: o9 :: o10 :: o11 :: some (.own d) :: r, c⟩ := rfl
theorem n12 {c : Nat} {r : List (Option SC)} {d : D} {o : Option SC} {o0 o1 o2 o3 o4 o5 o6 o7 o8 o9 o10 o11 : Option SC} {Q : Gm → Prop} : dgName 12 (.dat d) ⟨o0 :: o1 :: o2 :: o3 :: o4 :: o5 :: o6 :: o7 :: o8 :: o9 :: o10 :: o11 :: o :: r, c⟩ Q = Q ⟨o0 :: o1 :: o2 :: o3 :: o4 :: o5 :: o6 :: o7 :: o8 :: o9 :: o10 :: o11 :: some (.dat d) :: r, c⟩ := rfl
theorem m12 {c : Nat} {r : List (Option SC)} {d : D} {o : Option SC} {o0 o1 o2 o3 o4 o5 o6 o7 o8 o9 o10 o11 : Option SC} {Q : Gm → Prop} : dgName 12 (.new d) ⟨o0 :: o1 :: o2 :: o3 :: o4 :: o5 :: o6 :: o7 :: o8 :: o9 :: o10 :: o11 :: o :: r, c⟩ Q = Q ⟨o0 :: o1 :: o2 :: o3 :: o4 :: o5 :: o6 :: o7 :: o8 :: o9 :: o10 :: o11 :: some (.own d) :: r, c⟩ := rfl
theorem sb12 {c : Nat} {r : List (Option SC)} {d : D} {o0 o1 o2 o3 o4 o5 o6 o7 o8 o9 o10 o11 : Option SC} {f : D → Prop} : see ⟨o0 :: o1 :: o2 :: o3 :: o4 :: o5 :: o6 :: o7 :: o8 :: o9 :: o10 :: o11 :: some (.own d) :: r, c⟩ (.bor 12) f = f d := rfl
theorem fb12 {c : Nat} {r : List (Option SC)} {d : D} {o0 o1 o2 o3 o4 o5 o6 o7 o8 o9 o10 o11 : Option SC} {f : D → Gm → Prop} : frz ⟨o0 :: o1 :: o2 :: o3 :: o4 :: o5 :: o6 :: o7 :: o8 :: o9 :: o10 :: o11 :: some (.own d) :: r, c⟩ (.bor 12) f = f d ⟨o0 :: o1 :: o2 :: o3 :: o4 :: o5 :: o6 :: o7 :: o8 :: o9 :: o10 :: o11 :: some (.dat d) :: r, c⟩ := rfl
theorem rb12 {c : Nat} {r : List (Option SC)} {d : D} {o0 o1 o2 o3 o4 o5 o6 o7 o8 o9 o10 o11 : Option SC} {f : SV → Prop} : rtS ⟨o0 :: o1 :: o2 :: o3 :: o4 :: o5 :: o6 :: o7 :: o8 :: o9 :: o10 :: o11 :: some (.own d) :: r, c⟩ (.bor 12) f = f (.new d) := rfl
theorem v13 {c : Nat} {r : List (Option SC)} {d : D} {o0 o1 o2 o3 o4 o5 o6 o7 o8 o9 o10 o11 o12 : Option SC} {Q : SV → Gm → Prop} : dVar 13 ⟨o0 :: o1 :: o2 :: o3 :: o4 :: o5 :: o6 :: o7 :: o8 :: o9 :: o10 :: o11 :: o12 :: some (.dat d) :: r, c⟩ Q = Q (.dat d) ⟨o0 :: o1 :: o2 :: o3 :: o4 :: o5 :: o6 :: o7 :: o8 :: o9 :: o10 :: o11 :: o12 :: some (.dat d) :: r, c⟩ := rfl
theorem w13 {c : Nat} {r : List (Option SC)} {d : D} {o0 o1 o2 o3 o4 o5 o6 o7 o8 o9 o10 o11 o12 : Option SC} {Q : SV → Gm → Prop} : dVar 13 ⟨o0 :: o1 :: o2 :: o3 :: o4 :: o5 :: o6 :: o7 :: o8 :: o9 :: o10 :: o11 :: o12 :: some (.own d) :: r, c⟩ Q = Q (.bor 13) ⟨o0 :: o1 :: o2 :: o3 :: o4 :: o5 :: o6 :: o7 :: o8 :: o9 :: o10 :: o11 :: o12 :: some (.own d) :: r, c⟩ := rfl
theorem n13 {c : Nat} {r : List (Option SC)} {d : D} {o : Option SC} {o0 o1 o2 o3 o4 o5 o6 o7 o8 o9 o10 o11 o12 : Option SC} {Q : Gm → Prop} : dgName 13 (.dat d) ⟨o0 :: o1 :: o2 :: o3 :: o4 :: o5 :: o6 :: o7 :: o8 :: o9 :: o10 :: o11 :: o12 :: o :: r, c⟩ Q = Q ⟨o0 :: o1 :: o2 :: o3 :: o4 :: o5 :: o6 :: o7 :: o8 :: o9 :: o10 :: o11 :: o12 :: some (.dat d) :: r, c⟩ := rfl
theorem m13 {c : Nat} {r : List (Option SC)} {d : D} {o : Option SC} {o0 o1 o2 o3 o4 o5 o6 o7 o8 o9 o10 o11 o12 : Option SC} {Q : Gm → Prop} : dgName 13 (.new d) ⟨o0 :: o1 :: o2 :: o3 :: o4 :: o5 :: o6 :: o7 :: o8 :: o9 :: o10 :: o11 :: o12 :: o :: r, c⟩ Q = Q ⟨o0 :: o1 :: o2 :: o3 :: o4 :: o5 :: o6 :: o7 :: o8 :: o9 :: o10 :: o11 :: o12 :: some (.own d) :: r, c⟩ := rfl
theorem sb13 {c : Nat} {r : List (Option SC)} {d : D} {o0 o1 o2 o3 o4 o5 o6 o7 o8 o9 o10 o11 o12 : Option SC} {f : D → Prop} : see ⟨o0 :: o1 :: o2 :: o3 :: o4 :: o5 :: o6 :: o7 :: o8 :: o9 :: o10 :: o11 :: o12 :: some (.own d) :: r, c⟩ (.bor 13) f = f d := rfl
theorem fb13 {c : Nat} {r : List (Option SC)} {d : D} {o0 o1 o2 o3 o4 o5 o6 o7 o8 o9 o10 o11 o12 : Option SC} {f : D → Gm → Prop} : frz ⟨o0 :: o1 :: o2 :: o3 :: o4 :: o5 :: o6 :: o7 :: o8 :: o9 :: o10 :: o11 :: o12 :: some (.own d) :: r, c⟩ (.bor 13) f = f d ⟨o0 :: o1 :: o2 :: o3 :: o4 :: o5 :: o6 :: o7 :: o8 :: o9 :: o10 :: o11 :: o12 :: some (.dat d) :: r, c⟩ := rfl
theorem rb13 {c : Nat} {r : List (Option SC)} {d : D} {o0 o1 o2 o3 o4 o5 o6 o7 o8 o9 o10 o11 o12 : Option SC} {f : SV → Prop} : rtS ⟨o0 :: o1 :: o2 :: o3 :: o4 :: o5 :: o6 :: o7 :: o8 :: o9 :: o10 :: o11 :: o12 :: some (.own d) :: r, c⟩ (.bor 13) f = f (.new d) := rfl
theorem v14 {c : Nat} {r : List (Option SC)} {d : D} {o0 o1 o2 o3 o4 o5 o6 o7 o8 o9 o10 o11 o12 o13 : Option SC} {Q : SV → Gm → Prop} : dVar 14 ⟨o0 :: o1 :: o2 :: o3 :: o4 :: o5 :: o6 :: o7 :: o8 :: o9 :: o10 :: o11 :: o12 :: o13 :: some (.dat d) :: r, c⟩ Q = Q (.dat d) ⟨o0 :: o1 :: o2 :: o3 :: o4 :: o5 :: o6 :: o7 :: o8 :: o9 :: o10 :: o11 :: o12 :: o13 :: some (.dat d) :: r, c⟩ := rfl
theorem w14 {c : Nat} {r : List (Option SC)} {d : D} {o0 o1 o2 o3 o4 o5 o6 o7 o8 o9 o10 o11 o12 o13 : Option SC} {Q : SV → Gm → Prop} : dVar 14 ⟨o0 :: o1 :: o2 :: o3 :: o4 :: o5 :: o6 :: o7 :: o8 :: o9 :: o10 :: o11 :: o12 :: o13 :: some (.own d) :: r, c⟩ Q = Q (.bor 14) ⟨o0 :: o1 :: o2 :: o3 :: o4 :: o5 :: o6 :: o7 :: o8 :: o9 :: o10 :: o11 :: o12 :: o13 :: some (.own d) :: r, c⟩ := rfl
theorem n14 {c : Nat} {r : List (Option SC)} {d : D} {o : Option SC} {o0 o1 o2 o3 o4 o5 o6 o7 o8 o9 o10 o11 o12 o13 : Option SC} {Q : Gm → Prop} : dgName 14 (.dat d) ⟨o0 :: o1 :: o2 :: o3 :: o4 :: o5 :: o6 :: o7 :: o8 :: o9 :: o10 :: o11 :: o12 :: o13 :: o :: r, c⟩ Q = Q ⟨o0 :: o1 :: o2 :: o3 :: o4 :: o5 :: o6 :: o7 :: o8 :: o9 :: o10 :: o11 :: o12 :: o13 :: some (.dat d) :: r, c⟩ := rfl
theorem m14 {c : Nat} {r : List (Option SC)} {d : D} {o : Option SC} {o0 o1 o2 o3 o4 o5 o6 o7 o8 o9 o10 o11 o12 o13 : Option SC} {Q : Gm → Prop} : dgName 14 (.new d) ⟨o0 :: o1 :: o2 :: o3 :: o4 :: o5 :: o6 :: o7 :: o8 :: o9 :: o10 :: o11 :: o12 :: o13 :: o :: r, c⟩ Q = Q ⟨o0 :: o1 :: o2 :: o3 :: o4 :: o5 :: o6 :: o7 :: o8 :: o9 :: o10 :: o11 :: o12 :: o13 :: some (.own d) :: r, c⟩ := rfl
theorem sb14 {c : Nat} {r : List (Option SC)} {d : D} {o0 o1 o2 o3 o4 o5 o6 o7 o8 o9 o10 o11 o12 o13 : Option SC} {f : D → Prop} : see ⟨o0 :: o1 :: o2 :: o3 :: o4 :: o5 :: o6 :: o7 :: o8 :: o9 :: o10 :: o11 :: o12 :: o13 :: some (.own d) :: r, c⟩ (.bor 14) f = f d := rfl
theorem fb14 {c : Nat} {r : List (Option SC)} {d : D} {o0 o1 o2 o3 o4 o5 o6 o7 o8 o9 o10 o11 o12 o13 : Option SC} {f : D → Gm → Prop} : frz ⟨o0 :: o1 :: o2 :: o3 :: o4 :: o5 :: o6 :: o7 :: o8 :: o9 :: o10 :: o11 :: o12 :: o13 :: some (.own d) :: r, c⟩ (.bor 14) f = f d ⟨o0 :: o1 :: o2 :: o3 :: o4 :: o5 :: o6 :: o7 :: o8 :: o9 :: o10 :: o11 :: o12 :: o13 :: some (.dat d) :: r, c⟩ := rfl
theorem rb14 {c : Nat} {r : List (Option SC)} {d : D} {o0 o1 o2 o3 o4 o5 o6 o7 o8 o9 o10 o11 o12 o13 : Option SC} {f : SV → Prop} : rtS ⟨o0 :: o1 :: o2 :: o3 :: o4 :: o5 :: o6 :: o7 :: o8 :: o9 :: o10 :: o11 :: o12 :: o13 :: some (.own d) :: r, c⟩ (.bor 14) f = f (.new d) := rfl
theorem v15 {c : Nat} {r : List (Option SC)} {d : D} {o0 o1 o2 o3 o4 o5 o6 o7 o8 o9 o10 o11 o12 o13 o14 : Option SC} {Q : SV → Gm → Prop} : dVar 15 ⟨o0 :: o1 :: o2 :: o3 :: o4 :: o5 :: o6 :: o7 :: o8 :: o9 :: o10 :: o11 :: o12 :: o13 :: o14 :: some (.dat d) :: r, c⟩ Q = Q (.dat d) ⟨o0 :: o1 :: o2 :: o3 :: o4 :: o5 :: o6 :: o7 :: o8 :: o9 :: o10 :: o11 :: o12 :: o13 :: o14 :: some (.dat d) :: r, c⟩ := rfl
theorem w15 {c : Nat} {r : List (Option SC)} {d : D} {o0 o1 o2 o3 o4 o5 o6 o7 o8 o9 o10 o11 o12 o13 o14 : Option SC} {Q : SV → Gm → Prop} : dVar 15 ⟨o0 :: o1 :: o2 :: o3 :: o4 :: o5 :: o6 :: o7 :: o8 :: o9 :: o10 :: o11 :: o12 :: o13 :: o14 :: some (.own d) :: r, c⟩ Q = Q (.bor 15) ⟨o0 :: o1 :: o2 :: o3 :: o4 :: o5 :: o6 :: o7 :: o8 :: o9 :: o10 :: o11 :: o12 :: o13 :: o14 :: some (.own d) :: r, c⟩ := rfl
theorem n15 {c : Nat} {r : List (Option SC)} {d : D} {o : Option SC} {o0 o1 o2 o3 o4 o5 o6 o7 o8 o9 o10 o11 o12 o13 o14 : Option SC} {Q : Gm → Prop} : dgName 15 (.dat d) ⟨o0 :: o1 :: o2 :: o3 :: o4 :: o5 :: o6 :: o7 :: o8 :: o9 :: o10 :: o11 :: o12 :: o13 :: o14 :: o :: r, c⟩ Q = Q ⟨o0 :: o1 :: o2 :: o3 :: o4 :: o5 :: o6 :: o7 :: o8 :: o9 :: o10 :: o11 :: o12 :: o13 :: o14 :: some (.dat d) :: r, c⟩ := rfl
theorem m15 {c : Nat} {r : List (Option SC)} {d : D} {o : Option SC} {o0 o1 o2 o3 o4 o5 o6 o7 o8 o9 o10 o11 o12 o13 o14 : Option SC} {Q : Gm → Prop} : dgName 15 (.new d) ⟨o0 :: o1 :: o2 :: o3 :: o4 :: o5 :: o6 :: o7 :: o8 :: o9 :: o10 :: o11 :: o12 :: o13 :: o14 :: o :: r, c⟩ Q = Q ⟨o0 :: o1 :: o2 :: o3 :: o4 :: o5 :: o6 :: o7 :: o8 :: o9 :: o10 :: o11 :: o12 :: o13 :: o14 :: some (.own d) :: r, c⟩ := rfl
theorem sb15 {c : Nat} {r : List (Option SC)} {d : D} {o0 o1 o2 o3 o4 o5 o6 o7 o8 o9 o10 o11 o12 o13 o14 : Option SC} {f : D → Prop} : see ⟨o0 :: o1 :: o2 :: o3 :: o4 :: o5 :: o6 :: o7 :: o8 :: o9 :: o10 :: o11 :: o12 :: o13 :: o14 :: some (.own d) :: r, c⟩ (.bor 15) f = f d := rfl
theorem fb15 {c : Nat} {r : List (Option SC)} {d : D} {o0 o1 o2 o3 o4 o5 o6 o7 o8 o9 o10 o11 o12 o13 o14 : Option SC} {f : D → Gm → Prop} : frz ⟨o0 :: o1 :: o2 :: o3 :: o4 :: o5 :: o6 :: o7 :: o8 :: o9 :: o10 :: o11 :: o12 :: o13 :: o14 :: some (.own d) :: r, c⟩ (.bor 15) f = f d ⟨o0 :: o1 :: o2 :: o3 :: o4 :: o5 :: o6 :: o7 :: o8 :: o9 :: o10 :: o11 :: o12 :: o13 :: o14 :: some (.dat d) :: r, c⟩ := rfl
theorem rb15 {c : Nat} {r : List (Option SC)} {d : D} {o0 o1 o2 o3 o4 o5 o6 o7 o8 o9 o10 o11 o12 o13 o14 : Option SC} {f : SV → Prop} : rtS ⟨o0 :: o1 :: o2 :: o3 :: o4 :: o5 :: o6 :: o7 :: o8 :: o9 :: o10 :: o11 :: o12 :: o13 :: o14 :: some (.own d) :: r, c⟩ (.bor 15) f = f (.new d) := rfl
theorem v16 {c : Nat} {r : List (Option SC)} {d : D} {o0 o1 o2 o3 o4 o5 o6 o7 o8 o9 o10 o11 o12 o13 o14 o15 : Option SC} {Q : SV → Gm → Prop} : dVar 16 ⟨o0 :: o1 :: o2 :: o3 :: o4 :: o5 :: o6 :: o7 :: o8 :: o9 :: o10 :: o11 :: o12 :: o13 :: o14 :: o15 :: some (.dat d) :: r, c⟩ Q = Q (.dat d) ⟨o0 :: o1 :: o2 :: o3 :: o4 :: o5 :: o6 :: o7 :: o8 :: o9 :: o10 :: o11 :: o12 :: o13 :: o14 :: o15 :: some (.dat d) :: r, c⟩ := rfl
theorem w16 {c : Nat} {r : List (Option SC)} {d : D} {o0 o1 o2 o3 o4 o5 o6 o7 o8 o9 o10 o11 o12 o13 o14 o15 : Option SC} {Q : SV → Gm → Prop} : dVar 16 ⟨o0 :: o1 :: o2 :: o3 :: o4 :: o5 :: o6 :: o7 :: o8 :: o9 :: o10 :: o11 :: o12 :: o13 :: o14 :: o15 :: some (.own d) :: r, c⟩ Q = Q (.bor 16) ⟨o0 :: o1 :: o2 :: o3 :: o4 :: o5 :: o6 :: o7 :: o8 :: o9 :: o10 :: o11 :: o12 :: o13 :: o14 :: o15 :: some (.own d) :: r, c⟩ := rfl
theorem n16 {c : Nat} {r : List (Option SC)} {d : D} {o : Option SC} {o0 o1 o2 o3 o4 o5 o6 o7 o8 o9 o10 o11 o12 o13 o14 o15 : Option SC} {Q : Gm → Prop} : dgName 16 (.dat d) ⟨o0 :: o1 :: o2 :: o3 :: o4 :: o5 :: o6 :: o7 :: o8 :: o9 :: o10 :: o11 :: o12 :: o13 :: o14 :: o15 :: o :: r, c⟩ Q = Q ⟨o0 :: o1 :: o2 :: o3 :: o4 :: o5 :: o6 :: o7 :: o8 :: o9 :: o10 :: o11 :: o12 :: o13 :: o14 :: o15 :: some (.dat d) :: r, c⟩ := rfl
theorem m16 {c : Nat} {r : List (Option SC)} {d : D} {o : Option SC} {o0 o1 o2 o3 o4 o5 o6 o7 o8 o9 o10 o11 o12 o13 o14 o15 : Option SC} {Q : Gm → Prop} : dgName 16 (.new d) ⟨o0 :: o1 :: o2 :: o3 :: o4 :: o5 :: o6 :: o7 :: o8 :: o9 :: o10 :: o11 :: o12 :: o13 :: o14 :: o15 :: o :: r, c⟩ Q = Q ⟨o0 :: o1 :: o2 :: o3 :: o4 :: o5 :: o6 :: o7 :: o8 :: o9 :: o10 :: o11 :: o12 :: o13 :: o14 :: o15 :: some (.own d) :: r, c⟩ := rfl
theorem sb16 {c : Nat} {r : List (Option SC)} {d : D} {o0 o1 o2 o3 o4 o5 o6 o7 o8 o9 o10 o11 o12 o13 o14 o15 : Option SC} {f : D → Prop} : see ⟨o0 :: o1 :: o2 :: o3 :: o4 :: o5 :: o6 :: o7 :: o8 :: o9 :: o10 :: o11 :: o12 :: o13 :: o14 :: o15 :: some (.own d) :: r, c⟩ (.bor 16) f = f d := rfl
theorem fb16 {c : Nat} {r : List (Option SC)} {d : D} {o0 o1 o2 o3 o4 o5 o6 o7 o8 o9 o10 o11 o12 o13 o14 o15 : Option SC} {f : D → Gm → Prop} : frz ⟨o0 :: o1 :: o2 :: o3 :: o4 :: o5 :: o6 :: o7 :: o8 :: o9 :: o10 :: o11 :: o12 :: o13 :: o14 :: o15 :: some (.own d) :: r, c⟩ (.bor 16) f = f d ⟨o0 :: o1 :: o2 :: o3 :: o4 :: o5 :: o6 :: o7 :: o8 :: o9 :: o10 :: o11 :: o12 :: o13 :: o14 :: o15 :: some (.dat d) :: r, c⟩ := rfl
theorem rb16 {c : Nat} {r : List (Option SC)} {d : D} {o0 o1 o2 o3 o4 o5 o6 o7 o8 o9 o10 o11 o12 o13 o14 o15 : Option SC} {f : SV → Prop} : rtS ⟨o0 :: o1 :: o2 :: o3 :: o4 :: o5 :: o6 :: o7 :: o8 :: o9 :: o10 :: o11 :: o12 :: o13 :: o14 :: o15 :: some (.own d) :: r, c⟩ (.bor 16) f = f (.new d) := rfl
theorem v17 {c : Nat} {r : List (Option SC)} {d : D} {o0 o1 o2 o3 o4 o5 o6 o7 o8 o9 o10 o11 o12 o13 o14 o15 o16 : Option SC} {Q : SV → Gm → Prop} : dVar 17 ⟨o0 :: o1 :: o2 :: o3 :: o4 :: o5 :: o6 :: o7 :: o8 :: o9 :: o10 :: o11 :: o12 :: o13 :: o14 :: o15 :: o16 :: some (.dat d) :: r, c⟩ Q = Q (.dat d) ⟨o0 :: o1 :: o2 :: o3 :: o4 :: o5 :: o6 :: o7 :: o8 :: o9 :: o10 :: o11 :: o12 :: o13 :: o14 :: o15 :: o16 :: some (.dat d) :: r, c⟩ := rfl
theorem w17 {c : Nat} {r : List (Option SC)} {d : D} {o0 o1 o2 o3 o4 o5 o6 o7 o8 o9 o10 o11 o12 o13 o14 o15 o16 : Option SC} {Q : SV → Gm → Prop} : dVar 17 ⟨o0 :: o1 :: o2 :: o3 :: o4 :: o5 :: o6 :: o7 :: o8 :: o9 :: o10 :: o11 :: o12 :: o13 :: o14 :: o15 :: o16 :: some (.own d) :: r, c⟩ Q = Q (.bor 17) ⟨o0 :: o1 :: o2 :: o3 :: o4 :: o5 :: o6 :: o7 :: o8 :: o9 :: o10 :: o11 :: o12 :: o13 :: o14 :: o15 :: o16 :: some (.own d) :: r, c⟩ := rfl
theorem n17 {c : Nat} {r : List (Option SC)} {d : D} {o : Option SC} {o0 o1 o2 o3 o4 o5 o6 o7 o8 o9 o10 o11 o12 o13 o14 o15 o16 : Option SC} {Q : Gm → Prop} : dgName 17 (.dat d) ⟨o0 :: o1 :: o2 :: o3 :: o4 :: o5 :: o6 :: o7 :: o8 :: o9 :: o10 :: o11 :: o12 :: o13 :: o14 :: o15 :: o16 :: o :: r, c⟩ Q = Q ⟨o0 :: o1 :: o2 :: o3 :: o4 :: o5 :: o6 :: o7 :: o8 :: o9 :: o10 :: o11 :: o12 :: o13 :: o14 :: o15 :: o16 :: some (.dat d) :: r, c⟩ := rfl
theorem m17 {c : Nat} {r : List (Option SC)} {d : D} {o : Option SC} {o0 o1 o2 o3 o4 o5 o6 o7 o8 o9 o10 o11 o12 o13 o14 o15 o16 : Option SC} {Q : Gm → Prop} : dgName 17 (.new d) ⟨o0 :: o1 :: o2 :: o3 :: o4 :: o5 :: o6 :: o7 :: o8 :: o9 :: o10 :: o11 :: o12 :: o13 :: o14 :: o15 :: o16 :: o :: r, c⟩ Q = Q ⟨o0 :: o1 :: o2 :: o3 :: o4 :: o5 :: o6 :: o7 :: o8 :: o9 :: o10 :: o11 :: o12 :: o13 :: o14 :: o15 :: o16 :: some (.own d) :: r, c⟩ := rfl
theorem sb17 {c : Nat} {r : List (Option SC)} {d : D} {o0 o1 o2 o3 o4 o5 o6 o7 o8 o9 o10 o11 o12 o13 o14 o15 o16 : Option SC} {f : D → Prop} : see ⟨o0 :: o1 :: o2 :: o3 :: o4 :: o5 :: o6 :: o7 :: o8 :: o9 :: o10 :: o11 :: o12 :: o13 :: o14 :: o15 :: o16 :: some (.own d) :: r, c⟩ (.bor 17) f = f d := rfl
theorem fb17 {c : Nat} {r : List (Option SC)} {d : D} {o0 o1 o2 o3 o4 o5 o6 o7 o8 o9 o10 o11 o12 o13 o14 o15 o16 : Option SC} {f : D → Gm → Prop} : frz ⟨o0 :: o1 :: o2 :: o3 :: o4 :: o5 :: o6 :: o7 :: o8 :: o9 :: o10 :: o11 :: o12 :: o13 :: o14 :: o15 :: o16 :: some (.own d) :: r, c⟩ (.bor 17) f = f d ⟨o0 :: o1 :: o2 :: o3 :: o4 :: o5 :: o6 :: o7 :: o8 :: o9 :: o10 :: o11 :: o12 :: o13 :: o14 :: o15 :: o16 :: some (.dat d) :: r, c⟩ := rfl
theorem rb17 {c : Nat} {r : List (Option SC)} {d : D} {o0 o1 o2 o3 o4 o5 o6 o7 o8 o9 o10 o11 o12 o13 o14 o15 o16 : Option SC} {f : SV → Prop} : rtS ⟨o0 :: o1 :: o2 :: o3 :: o4 :: o5 :: o6 :: o7 :: o8 :: o9 :: o10 :: o11 :: o12 :: o13 :: o14 :: o15 :: o16 :: some (.own d) :: r, c⟩ (.bor 17) f = f (.new d) := rfl
theorem v18 {c : Nat} {r : List (Option SC)} {d : D} {o0 o1 o2 o3 o4 o5 o6 o7 o8 o9 o10 o11 o12 o13 o14 o15 o16 o17 : Option SC} {Q : SV → Gm → Prop} : dVar 18 ⟨o0 :: o1 :: o2 :: o3 :: o4 :: o5 :: o6 :: o7 :: o8 :: o9 :: o10 :: o11 :: o12 :: o13 :: o14 :: o15 :: o16 :: o17 :: some (.dat d) :: r, c⟩ Q = Q (.dat d) ⟨o0 :: o1 :: o2 :: o3 :: o4 :: o5 :: o6 :: o7 :: o8 :: o9 :: o10 :: o11 :: o12 :: o13 :: o14 :: o15 :: o16 :: o17 :: some (.dat d) :: r, c⟩ := rfl
theorem w18 {c : Nat} {r : List (Option SC)} {d : D} {o0 o1 o2 o3 o4 o5 o6 o7 o8 o9 o10 o11 o12 o13 o14 o15 o16 o17 : Option SC} {Q : SV → Gm → Prop} : dVar 18 ⟨o0 :: o1 :: o2 :: o3 :: o4 :: o5 :: o6 :: o7 :: o8 :: o9 :: o10 :: o11 :: o12 :: o13 :: o14 :: o15 :: o16 :: o17 :: some (.own d) :: r, c⟩ Q = Q (.bor 18) ⟨o0 :: o1 :: o2 :: o3 :: o4 :: o5 :: o6 :: o7 :: o8 :: o9 :: o10 :: o11 :: o12 :: o13 :: o14 :: o15 :: o16 :: o17 :: some (.own d) :: r, c⟩ := rfl
theorem n18 {c : Nat} {r : List (Option SC)} {d : D} {o : Option SC} {o0 o1 o2 o3 o4 o5 o6 o7 o8 o9 o10 o11 o12 o13 o14 o15 o16 o17 : Option SC} {Q : Gm → Prop} : dgName 18 (.dat d) ⟨o0 :: o1 :: o2 :: o3 :: o4 :: o5 :: o6 :: o7 :: o8 :: o9 :: o10 :: o11 :: o12 :: o13 :: o14 :: o15 :: o16 :: o17 :: o :: r, c⟩ Q = Q ⟨o0 :: o1 :: o2 :: o3 :: o4 :: o5 :: o6 :: o7 :: o8 :: o9 :: o10 :: o11 :: o12 :: o13 :: o14 :: o15 :: o16 :: o17 :: some (.dat d) :: r, c⟩ := rfl
theorem m18 {c : Nat} {r : List (Option SC)} {d : D} {o : Option SC} {o0 o1 o2 o3 o4 o5 o6 o7 o8 o9 o10 o11 o12 o13 o14 o15 o16 o17 : Option SC} {Q : Gm → Prop} : dgName 18 (.new d) ⟨o0 :: o1 :: o2 :: o3 :: o4 :: o5 :: o6 :: o7 :: o8 :: o9 :: o10 :: o11 :: o12 :: o13 :: o14 :: o15 :: o16 :: o17 :: o :: r, c⟩ Q = Q ⟨o0 :: o1 :: o2 :: o3 :: o4 :: o5 :: o6 :: o7 :: o8 :: o9 :: o10 :: o11 :: o12 :: o13 :: o14 :: o15 :: o16 :: o17 :: some (.own d) :: r, c⟩ := rfl
theorem sb18 {c : Nat} {r : List (Option SC)} {d : D} {o0 o1 o2 o3 o4 o5 o6 o7 o8 o9 o10 o11 o12 o13 o14 o15 o16 o17 : Option SC} {f : D → Prop} : see ⟨o0 :: o1 :: o2 :: o3 :: o4 :: o5 :: o6 :: o7 :: o8 :: o9 :: o10 :: o11 :: o12 :: o13 :: o14 :: o15 :: o16 :: o17 :: some (.own d) :: r, c⟩ (.bor 18) f = f d := rfl
theorem fb18 {c : Nat} {r : List (Option SC)} {d : D} {o0 o1 o2 o3 o4 o5 o6 o7 o8 o9 o10 o11 o12 o13 o14 o15 o16 o17 : Option SC} {f : D → Gm → Prop} : frz ⟨o0 :: o1 :: o2 :: o3 :: o4 :: o5 :: o6 :: o7 :: o8 :: o9 :: o10 :: o11 :: o12 :: o13 :: o14 :: o15 :: o16 :: o17 :: some (.own d) :: r, c⟩ (.bor 18) f = f d ⟨o0 :: o1 :: o2 :: o3 :: o4 :: o5 :: o6 :: o7 :: o8 :: o9 :: o10 :: o11 :: o12 :: o13 :: o14 :: o15 :: o16 :: o17 :: some (.dat d) :: r, c⟩ := rfl
theorem rb18 {c : Nat} {r : List (Option SC)} {d : D} {o0 o1 o2 o3 o4 o5 o6 o7 o8 o9 o10 o11 o12 o13 o14 o15 o16 o17 : Option SC} {f : SV → Prop} : rtS ⟨o0 :: o1 :: o2 :: o3 :: o4 :: o5 :: o6 :: o7 :: o8 :: o9 :: o10 :: o11 :: o12 :: o13 :: o14 :: o15 :: o16 :: o17 :: some (.own d) :: r, c⟩ (.bor 18) f = f (.new d) := rfl
theorem v19 {c : Nat} {r : List (Option SC)} {d : D} {o0 o1 o2 o3 o4 o5 o6 o7 o8 o9 o10 o11 o12 o13 o14 o15 o16 o17 o18 : Option SC} {Q : SV → Gm → Prop} : dVar 19 ⟨o0 :: o1 :: o2 :: o3 :: o4 :: o5 :: o6 :: o7 :: o8 :: o9 :: o10 :: o11 :: o12 :: o13 :: o14 :: o15 :: o16 :: o17 :: o18 :: some (.dat d) :: r, c⟩ Q = Q (.dat d) ⟨o0 :: o1 :: o2 :: o3 :: o4 :: o5 :: o6 :: o7 :: o8 :: o9 :: o10 :: o11 :: o12 :: o13 :: o14 :: o15 :: o16 :: o17 :: o18 :: some (.dat d) :: r, c⟩ := rfl
theorem w19 {c : Nat} {r : List (Option SC)} {d : D} {o0 o1 o2 o3 o4 o5 o6 o7 o8 o9 o10 o11 o12 o13 o14 o15 o16 o17 o18 : Option SC} {Q : SV → Gm → Prop} : dVar 19 ⟨o0 :: o1 :: o2 :: o3 :: o4 :: o5 :: o6 :: o7 :: o8 :: o9 :: o10 :: o11 :: o12 :: o13 :: o14 :: o15 :: o16 :: o17 :: o18 :: some (.own d) :: r, c⟩ Q = Q (.bor 19) ⟨o0 :: o1 :: o2 :: o3 :: o4 :: o5 :: o6 :: o7 :: o8 :: o9 :: o10 :: o11 :: o12 :: o13 :: o14 :: o15 :: o16 :: o17 :: o18 :: some (.own d) :: r, c⟩ := rfl
theorem n19 {c : Nat} {r : List (Option SC)} {d : D} {o : Option SC} {o0 o1 o2 o3 o4 o5 o6 o7 o8 o9 o10 o11 o12 o13 o14 o15 o16 o17 o18 : Option SC} {Q : Gm → Prop} : dgName 19 (.dat d) ⟨o0 :: o1 :: o2 :: o3 :: o4 :: o5 :: o6 :: o7 :: o8 :: o9 :: o10 :: o11 :: o12 :: o13 :: o14 :: o15 :: o16 :: o17 :: o18 :: o :: r, c⟩ Q = Q ⟨o0 :: o1 :: o2 :: o3 :: o4 :: o5 :: o6 :: o7 :: o8 :: o9 :: o10 :: o11 :: o12 :: o13 :: o14 :: o15 :: o16 :: o17 :: o18 :: some (.dat d) :: r, c⟩ := rfl
theorem m19 {c : Nat} {r : List (Option SC)} {d : D} {o : Option SC} {o0 o1 o2 o3 o4 o5 o6 o7 o8 o9 o10 o11 o12 o13 o14 o15 o16 o17 o18 : Option SC} {Q : Gm → Prop} : dgName 19 (.new d) ⟨o0 :: o1 :: o2 :: o3 :: o4 :: o5 :: o6 :: o7 :: o8 :: o9 :: o10 :: o11 :: o12 :: o13 :: o14 :: o15 :: o16 :: o17 :: o18 :: o :: r, c⟩ Q = Q ⟨o0 :: o1 :: o2 :: o3 :: o4 :: o5 :: o6 :: o7 :: o8 :: o9 :: o10 :: o11 :: o12 :: o13 :: o14 :: o15 :: o16 :: o17 :: o18 :: some (.own d) :: r, c⟩ := rfl
theorem sb19 {c : Nat} {r : List (Option SC)} {d : D} {o0 o1 o2 o3 o4 o5 o6 o7 o8 o9 o10 o11 o12 o13 o14 o15 o16 o17 o18 : Option SC} {f : D → Prop} : see ⟨o0 :: o1 :: o2 :: o3 :: o4 :: o5 :: o6 :: o7 :: o8 :: o9 :: o10 :: o11 :: o12 :: o13 :: o14 :: o15 :: o16 :: o17 :: o18 :: some (.own d) :: r, c⟩ (.bor 19) f = f d := rfl
theorem fb19 {c : Nat} {r : List (Option SC)} {d : D} {o0 o1 o2 o3 o4 o5 o6 o7 o8 o9 o10 o11 o12 o13 o14 o15 o16 o17 o18 : Option SC} {f : D → Gm → Prop} : frz ⟨o0 :: o1 :: o2 :: o3 :: o4 :: o5 :: o6 :: o7 :: o8 :: o9 :: o10 :: o11 :: o12 :: o13 :: o14 :: o15 :: o16 :: o17 :: o18 :: some (.own d) :: r, c⟩ (.bor 19) f = f d ⟨o0 :: o1 :: o2 :: o3 :: o4 :: o5 :: o6 :: o7 :: o8 :: o9 :: o10 :: o11 :: o12 :: o13 :: o14 :: o15 :: o16 :: o17 :: o18 :: some (.dat d) :: r, c⟩ := rfl
theorem rb19 {c : Nat} {r : List (Option SC)} {d : D} {o0 o1 o2 o3 o4 o5 o6 o7 o8 o9 o10 o11 o12 o13 o14 o15 o16 o17 o18 : Option SC} {f : SV → Prop} : rtS ⟨o0 :: o1 :: o2 :: o3 :: o4 :: o5 :: o6 :: o7 :: o8 :: o9 :: o10 :: o11 :: o12 :: o13 :: o14 :: o15 :: o16 :: o17 :: o18 :: some (.own d) :: r, c⟩ (.bor 19) f = f (.new d) := rfl
theorem v20 {c : Nat} {r : List (Option SC)} {d : D} {o0 o1 o2 o3 o4 o5 o6 o7 o8 o9 o10 o11 o12 o13 o14 o15 o16 o17 o18 o19 : Option SC} {Q : SV → Gm → Prop} : dVar 20 ⟨o0 :: o1 :: o2 :: o3 :: o4 :: o5 :: o6 :: o7 :: o8 :: o9 :: o10 :: o11 :: o12 :: o13 :: o14 :: o15 :: o16 :: o17 :: o18 :: o19 :: some (.dat d) :: r, c⟩ Q = Q (.dat d) ⟨o0 :: o1 :: o2 :: o3 :: o4 :: o5 :: o6 :: o7 :: o8 :: o9 :: o10 :: o11 :: o12 :: o13 :: o14 :: o15 :: o16 :: o17 :: o18 :: o19 :: some (.dat d) :: r, c⟩ := rfl
theorem w20 {c : Nat} {r : List (Option SC)} {d : D} {o0 o1 o2 o3 o4 o5 o6 o7 o8 o9 o10 o11 o12 o13 o14 o15 o16 o17 o18 o19 : Option SC} {Q : SV → Gm → Prop} : dVar 20 ⟨o0 :: o1 :: o2 :: o3 :: o4 :: o5 :: o6 :: o7 :: o8 :: o9 :: o10 :: o11 :: o12 :: o13 :: o14 :: o15 :: o16 :: o17 :: o18 :: o19 :: some (.own d) :: r, c⟩ Q = Q (.bor 20) ⟨o0 :: o1 :: o2 :: o3 :: o4 :: o5 :: o6 :: o7 :: o8 :: o9 :: o10 :: o11 :: o12 :: o13 :: o14 :: o15 :: o16 :: o17 :: o18 :: o19 :: some (.own d) :: r, c⟩ := rfl
theorem n20 {c : Nat} {r : List (Option SC)} {d : D} {o : Option SC} {o0 o1 o2 o3 o4 o5 o6 o7 o8 o9 o10 o11 o12 o13 o14 o15 o16 o17 o18 o19 : Option SC} {Q : Gm → Prop} : dgName 20 (.dat d) ⟨o0 :: o1 :: o2 :: o3 :: o4 :: o5 :: o6 :: o7 :: o8 :: o9 :: o10 :: o11 :: o12 :: o13 :: o14 :: o15 :: o16 :: o17 :: o18 :: o19 :: o :: r, c⟩ Q = Q ⟨o0 :: o1 :: o2 :: o3 :: o4 :: o5 :: o6 :: o7 :: o8 :: o9 :: o10 :: o11 :: o12 :: o13 :: o14 :: o15 :: o16 :: o17 :: o18 :: o19 :: some (.dat d) :: r, c⟩ := rfl
theorem m20 {c : Nat} {r : List (Option SC)} {d : D} {o : Option SC} {o0 o1 o2 o3 o4 o5 o6 o7 o8 o9 o10 o11 o12 o13 o14 o15 o16 o17 o18 o19 : Option SC} {Q : Gm → Prop} : dgName 20 (.new d) ⟨o0 :: o1 :: o2 :: o3 :: o4 :: o5 :: o6 :: o7 :: o8 :: o9 :: o10 :: o11 :: o12 :: o13 :: o14 :: o15 :: o16 :: o17 :: o18 :: o19 :: o :: r, c⟩ Q = Q ⟨o0 :: o1 :: o2 :: o3 :: o4 :: o5 :: o6 :: o7 :: o8 :: o9 :: o10 :: o11 :: o12 :: o13 :: o14 :: o15 :: o16 :: o17 :: o18 :: o19 :: some (.own d) :: r, c⟩ := rfl
theorem sb20 {c : Nat} {r : List (Option SC)} {d : D} {o0 o1 o2 o3 o4 o5 o6 o7 o8 o9 o10 o11 o12 o13 o14 o15 o16 o17 o18 o19 : Option SC} {f : D → Prop} : see ⟨o0 :: o1 :: o2 :: o3 :: o4 :: o5 :: o6 :: o7 :: o8 :: o9 :: o10 :: o11 :: o12 :: o13 :: o14 :: o15 :: o16 :: o17 :: o18 :: o19 :: some (.own d) :: r, c⟩ (.bor 20) f = f d := rfl
theorem fb20 {c : Nat} {r : List (Option SC)} {d : D} {o0 o1 o2 o3 o4 o5 o6 o7 o8 o9 o10 o11 o12 o13 o14 o15 o16 o17 o18 o19 : Option SC} {f : D → Gm → Prop} : frz ⟨o0 :: o1 :: o2 :: o3 :: o4 :: o5 :: o6 :: o7 :: o8 :: o9 :: o10 :: o11 :: o12 :: o13 :: o14 :: o15 :: o16 :: o17 :: o18 :: o19 :: some (.own d) :: r, c⟩ (.bor 20) f = f d ⟨o0 :: o1 :: o2 :: o3 :: o4 :: o5 :: o6 :: o7 :: o8 :: o9 :: o10 :: o11 :: o12 :: o13 :: o14 :: o15 :: o16 :: o17 :: o18 :: o19 :: some (.dat d) :: r, c⟩ := rfl
theorem rb20 {c : Nat} {r : List (Option SC)} {d : D} {o0 o1 o2 o3 o4 o5 o6 o7 o8 o9 o10 o11 o12 o13 o14 o15 o16 o17 o18 o19 : Option SC} {f : SV → Prop} : rtS ⟨o0 :: o1 :: o2 :: o3 :: o4 :: o5 :: o6 :: o7 :: o8 :: o9 :: o10 :: o11 :: o12 :: o13 :: o14 :: o15 :: o16 :: o17 :: o18 :: o19 :: some (.own d) :: r, c⟩ (.bor 20) f = f (.new d) := rfl
theorem v21 {c : Nat} {r : List (Option SC)} {d : D} {o0 o1 o2 o3 o4 o5 o6 o7 o8 o9 o10 o11 o12 o13 o14 o15 o16 o17 o18 o19 o20 : Option SC} {Q : SV → Gm → Prop} : dVar 21 ⟨o0 :: o1 :: o2 :: o3 :: o4 :: o5 :: o6 :: o7 :: o8 :: o9 :: o10 :: o11 :: o12 :: o13 :: o14 :: o15 :: o16 :: o17 :: o18 :: o19 :: o20 :: some (.dat d) :: r, c⟩ Q = Q (.dat d) ⟨o0 :: o1 :: o2 :: o3 :: o4 :: o5 :: o6 :: o7 :: o8 :: o9 :: o10 :: o11 :: o12 :: o13 :: o14 :: o15 :: o16 :: o17 :: o18 :: o19 :: o20 :: some (.dat d) :: r, c⟩ := rfl
theorem w21 {c : Nat} {r : List (Option SC)} {d : D} {o0 o1 o2 o3 o4 o5 o6 o7 o8 o9 o10 o11 o12 o13 o14 o15 o16 o17 o18 o19 o20 : Option SC} {Q : SV → Gm → Prop} : dVar 21 ⟨o0 :: o1 :: o2 :: o3 :: o4 :: o5 :: o6 :: o7 :: o8 :: o9 :: o10 :: o11 :: o12 :: o13 :: o14 :: o15 :: o16 :: o17 :: o18 :: o19 :: o20 :: some (.own d) :: r, c⟩ Q = Q (.bor 21) ⟨o0 :: o1 :: o2 :: o3 :: o4 :: o5 :: o6 :: o7 :: o8 :: o9 :: o10 :: o11 :: o12 :: o13 :: o14 :: o15 :: o16 :: o17 :: o18 :: o19 :: o20 :: some (.own d) :: r, c⟩ := rfl
theorem n21 {c : Nat} {r : List (Option SC)} {d : D} {o : Option SC} {o0 o1 o2 o3 o4 o5 o6 o7 o8 o9 o10 o11 o12 o13 o14 o15 o16 o17 o18 o19 o20 : Option SC} {Q : Gm → Prop} : dgName 21 (.dat d) ⟨o0 :: o1 :: o2 :: o3 :: o4 :: o5 :: o6 :: o7 :: o8 :: o9 :: o10 :: o11 :: o12 :: o13 :: o14 :: o15 :: o16 :: o17 :: o18 :: o19 :: o20 :: o :: r, c⟩ Q = Q ⟨o0 :: o1 :: o2 :: o3 :: o4 :: o5 :: o6 :: o7 :: o8 :: o9 :: o10 :: o11 :: o12 :: o13 :: o14 :: o15 :: o16 :: o17 :: o18 :: o19 :: o20 :: some (.dat d) :: r, c⟩ := rfl
theorem m21 {c : Nat} {r : List (Option SC)} {d : D} {o : Option SC} {o0 o1 o2 o3 o4 o5 o6 o7 o8 o9 o10 o11 o12 o13 o14 o15 o16 o17 o18 o19 o20 : Option SC} {Q : Gm → Prop} : dgName 21 (.new d) ⟨o0 :: o1 :: o2 :: o3 :: o4 :: o5 :: o6 :: o7 :: o8 :: o9 :: o10 :: o11 :: o12 :: o13 :: o14 :: o15 :: o16 :: o17 :: o18 :: o19 :: o20 :: o :: r, c⟩ Q = Q ⟨o0 :: o1 :: o2 :: o3 :: o4 :: o5 :: o6 :: o7 :: o8 :: o9 :: o10 :: o11 :: o12 :: o13 :: o14 :: o15 :: o16 :: o17 :: o18 :: o19 :: o20 :: some (.own d) :: r, c⟩ := rfl
theorem sb21 {c : Nat} {r : List (Option SC)} {d : D} {o0 o1 o2 o3 o4 o5 o6 o7 o8 o9 o10 o11 o12 o13 o14 o15 o16 o17 o18 o19 o20 : Option SC} {f : D → Prop} : see ⟨o0 :: o1 :: o2 :: o3 :: o4 :: o5 :: o6 :: o7 :: o8 :: o9 :: o10 :: o11 :: o12 :: o13 :: o14 :: o15 :: o16 :: o17 :: o18 :: o19 :: o20 :: some (.own d) :: r, c⟩ (.bor 21) f = f d := rfl
theorem fb21 {c : Nat} {r : List (Option SC)} {d : D} {o0 o1 o2 o3 o4 o5 o6 o7 o8 o9 o10 o11 o12 o13 o14 o15 o16 o17 o18 o19 o20 : Option SC} {f : D → Gm → Prop} : frz ⟨o0 :: o1 :: o2 :: o3 :: o4 :: o5 :: o6 :: o7 :: o8 :: o9 :: o10 :: o11 :: o12 :: o13 :: o14 :: o15 :: o16 :: o17 :: o18 :: o19 :: o20 :: some (.own d) :: r, c⟩ (.bor 21) f = f d ⟨o0 :: o1 :: o2 :: o3 :: o4 :: o5 :: o6 :: o7 :: o8 :: o9 :: o10 :: o11 :: o12 :: o13 :: o14 :: o15 :: o16 :: o17 :: o18 :: o19 :: o20 :: some (.dat d) :: r, c⟩ := rfl
theorem rb21 {c : Nat} {r : List (Option SC)} {d : D} {o0 o1 o2 o3 o4 o5 o6 o7 o8 o9 o10 o11 o12 o13 o14 o15 o16 o17 o18 o19 o20 : Option SC} {f : SV → Prop} : rtS ⟨o0 :: o1 :: o2 :: o3 :: o4 :: o5 :: o6 :: o7 :: o8 :: o9 :: o10 :: o11 :: o12 :: o13 :: o14 :: o15 :: o16 :: o17 :: o18 :: o19 :: o20 :: some (.own d) :: r, c⟩ (.bor 21) f = f (.new d) := rfl
theorem v22 {c : Nat} {r : List (Option SC)} {d : D} {o0 o1 o2 o3 o4 o5 o6 o7 o8 o9 o10 o11 o12 o13 o14 o15 o16 o17 o18 o19 o20 o21 : Option SC} {Q : SV → Gm → Prop} : dVar 22 ⟨o0 :: o1 :: o2 :: o3 :: o4 :: o5 :: o6 :: o7 :: o8 :: o9 :: o10 :: o11 :: o12 :: o13 :: o14 :: o15 :: o16 :: o17 :: o18 :: o19 :: o20 :: o21 :: some (.dat d) :: r, c⟩ Q = Q (.dat d) ⟨o0 :: o1 :: o2 :: o3 :: o4 :: o5 :: o6 :: o7 :: o8 :: o9 :: o10 :: o11 :: o12 :: o13 :: o14 :: o15 :: o16 :: o17 :: o18 :: o19 :: o20 :: o21 :: some (.dat d) :: r, c⟩ := rfl
theorem w22 {c : Nat} {r : List (Option SC)} {d : D} {o0 o1 o2 o3 o4 o5 o6 o7 o8 o9 o10 o11 o12 o13 o14 o15 o16 o17 o18 o19 o20 o21 : Option SC} {Q : SV → Gm → Prop} : dVar 22 ⟨o0 :: o1 :: o2 :: o3 :: o4 :: o5 :: o6 :: o7 :: o8 :: o9 :: o10 :: o11 :: o12 :: o13 :: o14 :: o15 :: o16 :: o17 :: o18 :: o19 :: o20 :: o21 :: some (.own d) :: r, c⟩ Q = Q (.bor 22) ⟨o0 :: o1 :: o2 :: o3 :: o4 :: o5 :: o6 :: o7 :: o8 :: o9 :: o10 :: o11 :: o12 :: o13 :: o14 :: o15 :: o16 :: o17 :: o18 :: o19 :: o20 :: o21 :: some (.own d) :: r, c⟩ := rfl
theorem n22 {c : Nat} {r : List (Option SC)} {d : D} {o : Option SC} {o0 o1 o2 o3 o4 o5 o6 o7 o8 o9 o10 o11 o12 o13 o14 o15 o16 o17 o18 o19 o20 o21 : Option SC} {Q : Gm → Prop} : dgName 22 (.dat d) ⟨o0 :: o1 :: o2 :: o3 :: o4 :: o5 :: o6 :: o7 :: o8 :: o9 :: o10 :: o11 :: o12 :: o13 :: o14 :: o15 :: o16 :: o17 :: o18 :: o19 :: o20 :: o21 :: o :: r, c⟩ Q = Q ⟨o0 :: o1 :: o2 :: o3 :: o4 :: o5 :: o6 :: o7 :: o8 :: o9 :: o10 :: o11 :: o12 :: o13 :: o14 :: o15 :: o16 :: o17 :: o18 :: o19 :: o20 :: o21 :: some (.dat d) :: r, c⟩ := rfl
theorem m22 {c : Nat} {r : List (Option SC)} {d : D} {o : Option SC} {o0 o1 o2 o3 o4 o5 o6 o7 o8 o9 o10 o11 o12 o13 o14 o15 o16 o17 o18 o19 o20 o21 : Option SC} {Q : Gm → Prop} : dgName 22 (.new d) ⟨o0 :: o1 :: o2 :: o3 :: o4 :: o5 :: o6 :: o7 :: o8 :: o9 :: o10 :: o11 :: o12 :: o13 :: o14 :: o15 :: o16 :: o17 :: o18 :: o19 :: o20 :: o21 :: o :: r, c⟩ Q = Q ⟨o0 :: o1 :: o2 :: o3 :: o4 :: o5 :: o6 :: o7 :: o8 :: o9 :: o10 :: o11 :: o12 :: o13 :: o14 :: o15 :: o16 :: o17 :: o18 :: o19 :: o20 :: o21 :: some (.own d) :: r, c⟩ := rfl
theorem sb22 {c : Nat} {r : List (Option SC)} {d : D} {o0 o1 o2 o3 o4 o5 o6 o7 o8 o9 o10 o11 o12 o13 o14 o15 o16 o17 o18 o19 o20 o21 : Option SC} {f : D → Prop} : see ⟨o0 :: o1 :: o2 :: o3 :: o4 :: o5 :: o6 :: o7 :: o8 :: o9 :: o10 :: o11 :: o12 :: o13 :: o14 :: o15 :: o16 :: o17 :: o18 :: o19 :: o20 :: o21 :: some (.own d) :: r, c⟩ (.bor 22) f = f d := rfl
theorem fb22 {c : Nat} {r : List (Option SC)} {d : D} {o0 o1 o2 o3 o4 o5 o6 o7 o8 o9 o10 o11 o12 o13 o14 o15 o16 o17 o18 o19 o20 o21 : Option SC} {f : D → Gm → Prop} : frz ⟨o0 :: o1 :: o2 :: o3 :: o4 :: o5 :: o6 :: o7 :: o8 :: o9 :: o10 :: o11 :: o12 :: o13 :: o14 :: o15 :: o16 :: o17 :: o18 :: o19 :: o20 :: o21 :: some (.own d) :: r, c⟩ (.bor 22) f = f d ⟨o0 :: o1 :: o2 :: o3 :: o4 :: o5 :: o6 :: o7 :: o8 :: o9 :: o10 :: o11 :: o12 :: o13 :: o14 :: o15 :: o16 :: o17 :: o18 :: o19 :: o20 :: o21 :: some (.dat d) :: r, c⟩ := rfl
theorem rb22 {c : Nat} {r : List (Option SC)} {d : D} {o0 o1 o2 o3 o4 o5 o6 o7 o8 o9 o10 o11 o12 o13 o14 o15 o16 o17 o18 o19 o20 o21 : Option SC} {f : SV → Prop} : rtS ⟨o0 :: o1 :: o2 :: o3 :: o4 :: o5 :: o6 :: o7 :: o8 :: o9 :: o10 :: o11 :: o12 :: o13 :: o14 :: o15 :: o16 :: o17 :: o18 :: o19 :: o20 :: o21 :: some (.own d) :: r, c⟩ (.bor 22) f = f (.new d) := rfl
theorem v23 {c : Nat} {r : List (Option SC)} {d : D} {o0 o1 o2 o3 o4 o5 o6 o7 o8 o9 o10 o11 o12 o13 o14 o15 o16 o17 o18 o19 o20 o21 o22 : Option SC} {Q : SV → Gm → Prop} : dVar 23 ⟨o0 :: o1 :: o2 :: o3 :: o4 :: o5 :: o6 :: o7 :: o8 :: o9 :: o10 :: o11 :: o12 :: o13 :: o14 :: o15 :: o16 :: o17 :: o18 :: o19 :: o20 :: o21 :: o22 :: some (.dat d) :: r, c⟩ Q = Q (.dat d) ⟨o0 :: o1 :: o2 :: o3 :: o4 :: o5 :: o6 :: o7 :: o8 :: o9 :: o10 :: o11 :: o12 :: o13 :: o14 :: o15 :: o16 :: o17 :: o18 :: o19 :: o20 :: o21 :: o22 :: some (.dat d) :: r, c⟩ := rfl
theorem w23 {c : Nat} {r : List (Option SC)} {d : D} {o0 o1 o2 o3 o4 o5 o6 o7 o8 o9 o10 o11 o12 o13 o14 o15 o16 o17 o18 o19 o20 o21 o22 : Option SC} {Q : SV → Gm → Prop} : dVar 23 ⟨o0 :: o1 :: o2 :: o3 :: o4 :: o5 :: o6 :: o7 :: o8 :: o9 :: o10 :: o11 :: o12 :: o13 :: o14 :: o15 :: o16 :: o17 :: o18 :: o19 :: o20 :: o21 :: o22 :: some (.own d) :: r, c⟩ Q = Q (.bor 23) ⟨o0 :: o1 :: o2 :: o3 :: o4 :: o5 :: o6 :: o7 :: o8 :: o9 :: o10 :: o11 :: o12 :: o13 :: o14 :: o15 :: o16 :: o17 :: o18 :: o19 :: o20 :: o21 :: o22 :: some (.own d) :: r, c⟩ := rfl
theorem n23 {c : Nat} {r : List (Option SC)} {d : D} {o : Option SC} {o0 o1 o2 o3 o4 o5 o6 o7 o8 o9 o10 o11 o12 o13 o14 o15 o16 o17 o18 o19 o20 o21 o22 : Option SC} {Q : Gm → Prop} : dgName 23 (.dat d) ⟨o0 :: o1 :: o2 :: o3 :: o4 :: o5 :: o6 :: o7 :: o8 :: o9 :: o10 :: o11 :: o12 :: o13 :: o14 :: o15 :: o16 :: o17 :: o18 :: o19 :: o20 :: o21 :: o22 :: o :: r, c⟩ Q = Q ⟨o0 :: o1 :: o2 :: o3 :: o4 :: o5 :: o6 :: o7 :: o8 :: o9 :: o10 :: o11 :: o12 :: o13 :: o14 :: o15 :: o16 :: o17 :: o18 :: o19 :: o20 :: o21 :: o22 :: some (.dat d) :: r, c⟩ := rfl
theorem m23 {c : Nat} {r : List (Option SC)} {d : D} {o : Option SC} {o0 o1 o2 o3 o4 o5 o6 o7 o8 o9 o10 o11 o12 o13 o14 o15 o16 o17 o18 o19 o20 o21 o22 : Option SC} {Q : Gm → Prop} : dgName 23 (.new d) ⟨o0 :: o1 :: o2 :: o3 :: o4 :: o5 :: o6 :: o7 :: o8 :: o9 :: o10 :: o11 :: o12 :: o13 :: o14 :: o15 :: o16 :: o17 :: o18 :: o19 :: o20 :: o21 :: o22 :: o :: r, c⟩ Q = Q ⟨o0 :: o1 :: o2 :: o3 :: o4 :: o5 :: o6 :: o7 :: o8 :: o9 :: o10 :: o11 :: o12 :: o13 :: o14 :: o15 :: o16 :: o17 :: o18 :: o19 :: o20 :: o21 :: o22 :: some (.own d) :: r, c⟩ := rfl
theorem sb23 {c : Nat} {r : List (Option SC)} {d : D} {o0 o1 o2 o3 o4 o5 o6 o7 o8 o9 o10 o11 o12 o13 o14 o15 o16 o17 o18 o19 o20 o21 o22 : Option SC} {f : D → Prop} : see ⟨o0 :: o1 :: o2 :: o3 :: o4 :: o5 :: o6 :: o7 :: o8 :: o9 :: o10 :: o11 :: o12 :: o13 :: o14 :: o15 :: o16 :: o17 :: o18 :: o19 :: o20 :: o21 :: o22 :: some (.own d) :: r, c⟩ (.bor 23) f = f d := rfl
theorem fb23 {c : Nat} {r : List (Option SC)} {d : D} {o0 o1 o2 o3 o4 o5 o6 o7 o8 o9 o10 o11 o12 o13 o14 o15 o16 o17 o18 o19 o20 o21 o22 : Option SC} {f : D → Gm → Prop} : frz ⟨o0 :: o1 :: o2 :: o3 :: o4 :: o5 :: o6 :: o7 :: o8 :: o9 :: o10 :: o11 :: o12 :: o13 :: o14 :: o15 :: o16 :: o17 :: o18 :: o19 :: o20 :: o21 :: o22 :: some (.own d) :: r, c⟩ (.bor 23) f = f d ⟨o0 :: o1 :: o2 :: o3 :: o4 :: o5 :: o6 :: o7 :: o8 :: o9 :: o10 :: o11 :: o12 :: o13 :: o14 :: o15 :: o16 :: o17 :: o18 :: o19 :: o20 :: o21 :: o22 :: some (.dat d) :: r, c⟩ := rfl
theorem rb23 {c : Nat} {r : List (Option SC)} {d : D} {o0 o1 o2 o3 o4 o5 o6 o7 o8 o9 o10 o11 o12 o13 o14 o15 o16 o17 o18 o19 o20 o21 o22 : Option SC} {f : SV → Prop} : rtS ⟨o0 :: o1 :: o2 :: o3 :: o4 :: o5 :: o6 :: o7 :: o8 :: o9 :: o10 :: o11 :: o12 :: o13 :: o14 :: o15 :: o16 :: o17 :: o18 :: o19 :: o20 :: o21 :: o22 :: some (.own d) :: r, c⟩ (.bor 23) f = f (.new d) := rfl
theorem v24 {c : Nat} {r : List (Option SC)} {d : D} {o0 o1 o2 o3 o4 o5 o6 o7 o8 o9 o10 o11 o12 o13 o14 o15 o16 o17 o18 o19 o20 o21 o22 o23 : Option SC} {Q : SV → Gm → Prop} : dVar 24 ⟨o0 :: o1 :: o2 :: o3 :: o4 :: o5 :: o6 :: o7 :: o8 :: o9 :: o10 :: o11 :: o12 :: o13 :: o14 :: o15 :: o16 :: o17 :: o18 :: o19 :: o20 :: o21 :: o22 :: o23 :: some (.dat d) :: r, c⟩ Q = Q (.dat d) ⟨o0 :: o1 :: o2 :: o3 :: o4 :: o5 :: o6 :: o7 :: o8 :: o9 :: o10 :: o11 :: o12 :: o13 :: o14 :: o15 :: o16 :: o17 :: o18 :: o19 :: o20 :: o21 :: o22 :: o23 :: some (.dat d) :: r, c⟩ := rfl
theorem w24 {c : Nat} {r : List (Option SC)} {d : D} {o0 o1 o2 o3 o4 o5 o6 o7 o8 o9 o10 o11 o12 o13 o14 o15 o16 o17 o18 o19 o20 o21 o22 o23 : Option SC} {Q : SV → Gm → Prop} : dVar 24 ⟨o0 :: o1 :: o2 :: o3 :: o4 :: o5 :: o6 :: o7 :: o8 :: o9 :: o10 :: o11 :: o12 :: o13 :: o14 :: o15 :: o16 :: o17 :: o18 :: o19 :: o20 :: o21 :: o22 :: o23 :: some (.own d) :: r, c⟩ Q = Q (.bor 24) ⟨o0 :: o1 :: o2 :: o3 :: o4 :: o5 :: o6 :: o7 :: o8 :: o9 :: o10 :: o11 :: o12 :: o13 :: o14 :: o15 :: o16 :: o17 :: o18 :: o19 :: o20 :: o21 :: o22 :: o23 :: some (.own d) :: r, c⟩ := rfl
theorem n24 {c : Nat} {r : List (Option SC)} {d : D} {o : Option SC} {o0 o1 o2 o3 o4 o5 o6 o7 o8 o9 o10 o11 o12 o13 o14 o15 o16 o17 o18 o19 o20 o21 o22 o23 : Option SC} {Q : Gm → Prop} : dgName 24 (.dat d) ⟨o0 :: o1 :: o2 :: o3 :: o4 :: o5 :: o6 :: o7 :: o8 :: o9 :: o10 :: o11 :: o12 :: o13 :: o14 :: o15 :: o16 :: o17 :: o18 :: o19 :: o20 :: o21 :: o22 :: o23 :: o :: r, c⟩ Q = Q ⟨o0 :: o1 :: o2 :: o3 :: o4 :: o5 :: o6 :: o7 :: o8 :: o9 :: o10 :: o11 :: o12 :: o13 :: o14 :: o15 :: o16 :: o17 :: o18 :: o19 :: o20 :: o21 :: o22 :: o23 :: some (.dat d) :: r, c⟩ := rfl
theorem m24 {c : Nat} {r : List (Option SC)} {d : D} {o : Option SC} {o0 o1 o2 o3 o4 o5 o6 o7 o8 o9 o10 o11 o12 o13 o14 o15 o16 o17 o18 o19 o20 o21 o22 o23 : Option SC} {Q : Gm → Prop} : dgName 24 (.new d) ⟨o0 :: o1 :: o2 :: o3 :: o4 :: o5 :: o6 :: o7 :: o8 :: o9 :: o10 :: o11 :: o12 :: o13 :: o14 :: o15 :: o16 :: o17 :: o18 :: o19 :: o20 :: o21 :: o22 :: o23 :: o :: r, c⟩ Q = Q ⟨o0 :: o1 :: o2 :: o3 :: o4 :: o5 :: o6 :: o7 :: o8 :: o9 :: o10 :: o11 :: o12 :: o13 :: o14 :: o15 :: o16 :: o17 :: o18 :: o19 :: o20 :: o21 :: o22 :: o23 :: some (.own d) :: r, c⟩ := rfl
theorem sb24 {c : Nat} {r : List (Option SC)} {d : D} {o0 o1 o2 o3 o4 o5 o6 o7 o8 o9 o10 o11 o12 o13 o14 o15 o16 o17 o18 o19 o20 o21 o22 o23 : Option SC} {f : D → Prop} : see ⟨o0 :: o1 :: o2 :: o3 :: o4 :: o5 :: o6 :: o7 :: o8 :: o9 :: o10 :: o11 :: o12 :: o13 :: o14 :: o15 :: o16 :: o17 :: o18 :: o19 :: o20 :: o21 :: o22 :: o23 :: some (.own d) :: r, c⟩ (.bor 24) f = f d := rfl
theorem fb24 {c : Nat} {r : List (Option SC)} {d : D} {o0 o1 o2 o3 o4 o5 o6 o7 o8 o9 o10 o11 o12 o13 o14 o15 o16 o17 o18 o19 o20 o21 o22 o23 : Option SC} {f : D → Gm → Prop} : frz ⟨o0 :: o1 :: o2 :: o3 :: o4 :: o5 :: o6 :: o7 :: o8 :: o9 :: o10 :: o11 :: o12 :: o13 :: o14 :: o15 :: o16 :: o17 :: o18 :: o19 :: o20 :: o21 :: o22 :: o23 :: some (.own d) :: r, c⟩ (.bor 24) f = f d ⟨o0 :: o1 :: o2 :: o3 :: o4 :: o5 :: o6 :: o7 :: o8 :: o9 :: o10 :: o11 :: o12 :: o13 :: o14 :: o15 :: o16 :: o17 :: o18 :: o19 :: o20 :: o21 :: o22 :: o23 :: some (.dat d) :: r, c⟩ := rfl
theorem rb24 {c : Nat} {r : List (Option SC)} {d : D} {o0 o1 o2 o3 o4 o5 o6 o7 o8 o9 o10 o11 o12 o13 o14 o15 o16 o17 o18 o19 o20 o21 o22 o23 : Option SC} {f : SV → Prop} : rtS ⟨o0 :: o1 :: o2 :: o3 :: o4 :: o5 :: o6 :: o7 :: o8 :: o9 :: o10 :: o11 :: o12 :: o13 :: o14 :: o15 :: o16 :: o17 :: o18 :: o19 :: o20 :: o21 :: o22 :: o23 :: some (.own d) :: r, c⟩ (.bor 24) f = f (.new d) := rfl
theorem v25 {c : Nat} {r : List (Option SC)} {d : D} {o0 o1 o2 o3 o4 o5 o6 o7 o8 o9 o10 o11 o12 o13 o14 o15 o16 o17 o18 o19 o20 o21 o22 o23 o24 : Option SC} {Q : SV → Gm → Prop} : dVar 25 ⟨o0 :: o1 :: o2 :: o3 :: o4 :: o5 :: o6 :: o7 :: o8 :: o9 :: o10 :: o11 :: o12 :: o13 :: o14 :: o15 :: o16 :: o17 :: o18 :: o19 :: o20 :: o21 :: o22 :: o23 :: o24 :: some (.dat d) :: r, c⟩ Q = Q (.dat d) ⟨o0 :: o1 :: o2 :: o3 :: o4 :: o5 :: o6 :: o7 :: o8 :: o9 :: o10 :: o11 :: o12 :: o13 :: o14 :: o15 :: o16 :: o17 :: o18 :: o19 :: o20 :: o21 :: o22 :: o23 :: o24 :: some (.dat d) :: r, c⟩ := rfl
theorem w25 {c : Nat} {r : List (Option SC)} {d : D} {o0 o1 o2 o3 o4 o5 o6 o7 o8 o9 o10 o11 o12 o13 o14 o15 o16 o17 o18 o19 o20 o21 o22 o23 o24 : Option SC} {Q : SV → Gm → Prop} : dVar 25 ⟨o0 :: o1 :: o2 :: o3 :: o4 :: o5 :: o6 :: o7 :: o8 :: o9 :: o10 :: o11 :: o12 :: o13 :: o14 :: o15 :: o16 :: o17 :: o18 :: o19 :: o20 :: o21 :: o22 :: o23 :: o24 :: some (.own d) :: r, c⟩ Q = Q (.bor 25) ⟨o0 :: o1 :: o2 :: o3 :: o4 :: o5 :: o6 :: o7 :: o8 :: o9 :: o10 :: o11 :: o12 :: o13 :: o14 :: o15 :: o16 :: o17 :: o18 :: o19 :: o20 :: o21 :: o22 :: o23 :: o24 :: some (.own d) :: r, c⟩ := rfl
theorem n25 {c : Nat} {r : List (Option SC)} {d : D} {o : Option SC} {o0 o1 o2 o3 o4 o5 o6 o7 o8 o9 o10 o11 o12 o13 o14 o15 o16 o17 o18 o19 o20 o21 o22 o23 o24 : Option SC} {Q : Gm → Prop} : dgName 25 (.dat d) ⟨o0 :: o1 :: o2 :: o3 :: o4 :: o5 :: o6 :: o7 :: o8 :: o9 :: o10 :: o11 :: o12 :: o13 :: o14 :: o15 :: o16 :: o17 :: o18 :: o19 :: o20 :: o21 :: o22 :: o23 :: o24 :: o :: r, c⟩ Q = Q ⟨o0 :: o1 :: o2 :: o3 :: o4 :: o5 :: o6 :: o7 :: o8 :: o9 :: o10 :: o11 :: o12 :: o13 :: o14 :: o15 :: o16 :: o17 :: o18 :: o19 :: o20 :: o21 :: o22 :: o23 :: o24 :: some (.dat d) :: r, c⟩ := rfl
theorem m25 {c : Nat} {r : List (Option SC)} {d : D} {o : Option SC} {o0 o1 o2 o3 o4 o5 o6 o7 o8 o9 o10 o11 o12 o13 o14 o15 o16 o17 o18 o19 o20 o21 o22 o23 o24 : Option SC} {Q : Gm → Prop} : dgName 25 (.new d) ⟨o0 :: o1 :: o2 :: o3 :: o4 :: o5 :: o6 :: o7 :: o8 :: o9 :: o10 :: o11 :: o12 :: o13 :: o14 :: o15 :: o16 :: o17 :: o18 :: o19 :: o20 :: o21 :: o22 :: o23 :: o24 :: o :: r, c⟩ Q = Q ⟨o0 :: o1 :: o2 :: o3 :: o4 :: o5 :: o6 :: o7 :: o8 :: o9 :: o10 :: o11 :: o12 :: o13 :: o14 :: o15 :: o16 :: o17 :: o18 :: o19 :: o20 :: o21 :: o22 :: o23 :: o24 :: some (.own d) :: r, c⟩ := rfl
theorem sb25 {c : Nat} {r : List (Option SC)} {d : D} {o0 o1 o2 o3 o4 o5 o6 o7 o8 o9 o10 o11 o12 o13 o14 o15 o16 o17 o18 o19 o20 o21 o22 o23 o24 : Option SC} {f : D → Prop} : see ⟨o0 :: o1 :: o2 :: o3 :: o4 :: o5 :: o6 :: o7 :: o8 :: o9 :: o10 :: o11 :: o12 :: o13 :: o14 :: o15 :: o16 :: o17 :: o18 :: o19 :: o20 :: o21 :: o22 :: o23 :: o24 :: some (.own d) :: r, c⟩ (.bor 25) f = f d := rfl
theorem fb25 {c : Nat} {r : List (Option SC)} {d : D} {o0 o1 o2 o3 o4 o5 o6 o7 o8 o9 o10 o11 o12 o13 o14 o15 o16 o17 o18 o19 o20 o21 o22 o23 o24 : Option SC} {f : D → Gm → Prop} : frz ⟨o0 :: o1 :: o2 :: o3 :: o4 :: o5 :: o6 :: o7 :: o8 :: o9 :: o10 :: o11 :: o12 :: o13 :: o14 :: o15 :: o16 :: o17 :: o18 :: o19 :: o20 :: o21 :: o22 :: o23 :: o24 :: some (.own d) :: r, c⟩ (.bor 25) f = f d ⟨o0 :: o1 :: o2 :: o3 :: o4 :: o5 :: o6 :: o7 :: o8 :: o9 :: o10 :: o11 :: o12 :: o13 :: o14 :: o15 :: o16 :: o17 :: o18 :: o19 :: o20 :: o21 :: o22 :: o23 :: o24 :: some (.dat d) :: r, c⟩ := rfl
theorem rb25 {c : Nat} {r : List (Option SC)} {d : D} {o0 o1 o2 o3 o4 o5 o6 o7 o8 o9 o10 o11 o12 o13 o14 o15 o16 o17 o18 o19 o20 o21 o22 o23 o24 : Option SC} {f : SV → Prop} : rtS ⟨o0 :: o1 :: o2 :: o3 :: o4 :: o5 :: o6 :: o7 :: o8 :: o9 :: o10 :: o11 :: o12 :: o13 :: o14 :: o15 :: o16 :: o17 :: o18 :: o19 :: o20 :: o21 :: o22 :: o23 :: o24 :: some (.own d) :: r, c⟩ (.bor 25) f = f (.new d) := rfl
/-! sources -/
section
variable {r : List (Option SC)} {c : Nat} {Q : SV → Gm → Prop} {E : DEnds} {e : DE} {i k : Nat} {G : Gm} {v y z : Int} {L : List (Option SC)}
theorem s_0 : dSrcIx 0 0 ⟨some (.dat .src) :: r, c⟩ Q = ∀ v : Int, Q (.dat (.int v)) ⟨some (.dat .src) :: r, c⟩ := by
  refine propext ⟨fun h v => h.2.2 v (fun h => by cases h) (fun h => by cases h), fun h => ⟨rfl, by decide, fun v _ _ => h v⟩⟩
theorem s_1 : dSrcIx 0 1 ⟨some (.dat .src) :: r, c⟩ Q = ∀ v : Int, 0 ≤ v → v < 10 ^ 50 → Q (.dat (.int v)) ⟨some (.dat .src) :: r, c⟩ := by
  refine propext ⟨fun h v a b => h.2.2 v (fun _ => ⟨a, b⟩) (fun h => by cases h), fun h => ⟨rfl, by decide, fun v a _ => h v (a rfl).1 (a rfl).2⟩⟩
theorem s_2 : dSrcIx 0 2 ⟨some (.dat .src) :: r, c⟩ Q = ∀ v : Int, 0 ≤ v → v ≤ c → Q (.dat (.int v)) ⟨some (.dat .src) :: r, c⟩ := by
  refine propext ⟨fun h v a b => h.2.2 v (fun h => by cases h) (fun _ => ⟨a, b⟩), fun h => ⟨rfl, by decide, fun v _ a => h v (a rfl).1 (a rfl).2⟩⟩
def srcW (i k : Nat) (E : DEnds) (G1 : Gm) (d : D) : Prop := gg G1 i = some (.dat .src) ∧ match d with
  | .int v => (k = 0 ∧ E.nx G1) ∨ (k = 2 ∧ 0 ≤ v ∧ v ≤ G1.c + 1 ∧ E.nx (G1.at (G1.c + 1)))
  | _ => False
theorem s_s : dSrcSet i k e E G = e G fun sv G1 => see G1 sv (srcW i k E G1) := rfl
theorem s_w0 : srcW 0 0 E ⟨some (.dat .src) :: r, c⟩ (.int v) = E.nx ⟨some (.dat .src) :: r, c⟩ := by
  refine propext ⟨fun h => ?_, fun h => ⟨rfl, .inl ⟨rfl, h⟩⟩⟩
  rcases h.2 with h | h
  · exact h.2
  · exact absurd h.1 (by decide)
theorem s_w2 : srcW 0 2 E ⟨some (.dat .src) :: r, c⟩ (.int v) = (0 ≤ v ∧ v ≤ c + 1 ∧ E.nx ⟨some (.dat .src) :: r, c + 1⟩) := by
  refine propext ⟨fun h => ?_, fun h => ⟨rfl, .inr ⟨rfl, h⟩⟩⟩
  rcases h.2 with h | h
  · exact absurd h.1 (by decide)
  · exact h.2
def srcK (Q : SV → Gm → Prop) (sv : SV) (G1 : Gm) : Prop := ∃ x y z : Int, sv = .new (.lst [.int x, .int y, .int z]) ∧ 0 ≤ y ∧ y < 10 ^ 50 ∧ 0 ≤ z ∧ z ≤ G1.c ∧ Q (.dat .src) G1
theorem s_e : dSrcE e G Q = e G (srcK Q) := rfl
theorem s_k {x : Int} (h : 0 ≤ y ∧ y < 10 ^ 50 ∧ Q (.dat .src) ⟨L, c⟩) : srcK Q (.new (.lst [.int x, .int y, .int 0])) ⟨L, c⟩ := ⟨x, y, 0, rfl, h.1, h.2.1, Int.le_refl _, by simp, h.2.2⟩
end
section
variable {as : DA} {G : Gm} {Qa : List D → Gm → Prop} {x y : Int} {d : D} {ds : List D}
def rng1K (Qa : List D → Gm → Prop) (ds : List D) (G1 : Gm) : Prop := (dRng1 (fun G Q => Q ds G)) G1 Qa
theorem x_rng1 : dRng1 as G Qa = as G (rng1K Qa) := rfl
def rng2K (Qa : List D → Gm → Prop) (ds : List D) (G1 : Gm) : Prop := (dRng2 (fun G Q => Q ds G)) G1 Qa
theorem x_rng2 : dRng2 as G Qa = as G (rng2K Qa) := rfl
def enuK (Qa : List D → Gm → Prop) (ds : List D) (G1 : Gm) : Prop := (dEnum (fun G Q => Q ds G)) G1 Qa
theorem x_enu : dEnum as G Qa = as G (enuK Qa) := rfl
theorem x_aslsl {f : List D → Prop} : dEnum.asLs (.lst ds) f = f ds := rfl
end
section
variable {G : Gm} {Qa : List D → Gm → Prop} {x y : Int} {ds : List D}
theorem x_r1 : rng1K Qa [.int x] G = ((-(2 ^ 62) ≤ x ∧ x < 2 ^ 62) ∧ Qa (rangeD 0 x.toNat) G) := by
  show ((-(2 ^ 62) ≤ x ∧ x < 2 ^ 62) ∧ ([D.int x]).length = 1 ∧ _) = _
  simp
theorem x_r2 : rng2K Qa [.int x, .int y] G = ((-(2 ^ 62) ≤ x ∧ x < 2 ^ 62 ∧ -(2 ^ 62) ≤ y ∧ y < 2 ^ 62) ∧ Qa (rangeD x (y - x).toNat) G) := by
  show ((-(2 ^ 62) ≤ x ∧ x < 2 ^ 62 ∧ -(2 ^ 62) ≤ y ∧ y < 2 ^ 62) ∧ ([D.int x, D.int y]).length = 2 ∧ _) = _
  simp
theorem x_e1 : enuK Qa [.lst ds] G = Qa (enumD 0 ds) G := by
  show (([] : List D) = [] ∧ _) = _
  simp [dEnum.asLs]
theorem rangeD_mem : ∀ {n : Nat} {x : Int} {d : D}, d ∈ rangeD x n → ∃ y, d = .int y ∧ x ≤ y ∧ y < x + n
  | 0, _, _, h => by cases h
  | n + 1, x, d, h => by
    rw [rangeD] at h
    rcases List.mem_cons.mp h with rfl | h
    · exact ⟨x, rfl, by omega, by omega⟩
    · obtain ⟨y, rfl, h1, h2⟩ := rangeD_mem h
      exact ⟨y, rfl, by omega, by omega⟩
end
theorem rg_1 : rangeD 0 1 = [.int 0] := rfl
theorem rg_2 : rangeD 0 2 = [.int 0, .int 1] := rfl
theorem rg_3 : rangeD 0 3 = [.int 0, .int 1, .int 2] := rfl
theorem en_0 {k : Int} : enumD k [] = [] := rfl
theorem en_c {k : Int} {d : D} {r : List D} : enumD k (d :: r) = .tup [.int k, d] :: enumD (k + 1) r := rfl
theorem x_inl {d : D} {ds : List D} {q : SV → Prop} : dIn d (.lst ds) q = (Pl 20 d ∧ Pl 20 (.lst ds) ∧ q (.dat (.bl (ds.any fun z => eqD z d)))) := rfl
theorem x_rep {d : D} {q : SV → Prop} : dRepr d q = (Pd 20 d ∧ (toPy d).showable = true ∧ (shownD d).length ≤ sizeLine ∧ q (.dat (.str (shownD d)))) := rfl

/-! ### a dict is walked: it stands locked so long -/
def keyD : Key → D
  | .inl i => .int i
  | .inr x => .str x
theorem rpl_keys {K : PySem.W.Frag} {W : Wd} : ∀ ks : List Key, RpL K W (ks.map keyD) (ks.map kV)
  | [] => rfl
  | k :: ks => ⟨kV k, ks.map kV, rfl, by cases k <;> rfl, rpl_keys ks⟩
/-- worlds that tell the same, but for locks -/
structure Wd.le2 (K : PySem.W.Frag) (W W' : Wd) : Prop where
  t : ∀ a xs, W.F a = some (.tup xs) → W'.F a = some (.tup xs)
  l : ∀ a xs, W.F a = some (.lst xs) → W'.F a = some (.lst xs)
  i : ∀ a C dx gs, W.F a = some (.ins C dx gs) → W'.F a = some (.ins C dx gs)
  x : ∀ a gs, W.F a = some (.xd gs) → W'.F a = some (.xd gs)
  q : ∀ a xs, SqL K W.F a xs → SqL K W'.F a xs
  dt : ∀ a kvs, Rd W.F a (.dT kvs) → Rd W'.F a (.dT kvs)
  dk : ∀ a kvs, Rd W.F a (.dK kvs) → Rd W'.F a (.dK kvs)
  s : ∀ a, W.S a → W'.S a
section
variable {K : PySem.W.Frag} {W W' : Wd}
mutual
theorem Rp.mono2 (l : W.le2 K W') : ∀ (d : D) (v : V), Rp K W d v → Rp K W' d v
  | .non, _, h => h
  | .bl _, _, h => h
  | .int _, _, h => h
  | .str _, _, h => h
  | .ty _, _, h => h
  | .ref _, _, h => h
  | .src, _, h => by obtain ⟨a, e, h⟩ := h; exact ⟨a, e, l.s a h⟩
  | .tup ds, _, h => by obtain ⟨a, xs, e, s, r⟩ := h; exact ⟨a, xs, e, l.t _ _ s, RpL.mono2 l ds xs r⟩
  | .scr ns, _, h => by obtain ⟨a, e, s⟩ := h; exact ⟨a, e, l.q _ _ s⟩
  | .lst ds, _, h => by obtain ⟨a, xs, e, s, r⟩ := h; exact ⟨a, xs, e, l.l _ _ s, RpL.mono2 l ds xs r⟩
  | .dT ds, _, h => by obtain ⟨a, xs, e, s, r⟩ := h; exact ⟨a, xs, e, l.dt _ _ s, RpT.mono2 l ds xs r⟩
  | .dK ds, _, h => by obtain ⟨a, xs, e, s, r⟩ := h; exact ⟨a, xs, e, l.dk _ _ s, RpK.mono2 l ds xs r⟩
  | .ins a c fs, _, h => by obtain ⟨e, C, dx, xs, n, s, r⟩ := h; exact ⟨e, C, dx, xs, n, l.i _ _ _ _ s, RpF.mono2 l fs xs r⟩
  | .exc a c dd fs, _, h => by
    obtain ⟨e, h⟩ := h
    exact ⟨e, h.imp id fun ⟨d, gs, e1, s, r⟩ => ⟨d, gs, e1, l.x _ _ s, RpF.mono2 l fs gs r⟩⟩
theorem RpL.mono2 (l : W.le2 K W') : ∀ (d : List D) (v : List V), RpL K W d v → RpL K W' d v
  | [], _, h => h
  | d :: ds, _, h => by obtain ⟨v, r, e, h, t⟩ := h; exact ⟨v, r, e, Rp.mono2 l d v h, RpL.mono2 l ds r t⟩
theorem RpT.mono2 (l : W.le2 K W') : ∀ (d : List (List Key × D)) (v : List (List Key × V)), RpT K W d v → RpT K W' d v
  | [], _, h => h
  | (_, d) :: ds, _, h => by obtain ⟨v, r, e, h, t⟩ := h; exact ⟨v, r, e, Rp.mono2 l d v h, RpT.mono2 l ds r t⟩
theorem RpK.mono2 (l : W.le2 K W') : ∀ (d : List (Key × D)) (v : List (Key × V)), RpK K W d v → RpK K W' d v
  | [], _, h => h
  | (_, d) :: ds, _, h => by obtain ⟨v, r, e, h, t⟩ := h; exact ⟨v, r, e, Rp.mono2 l d v h, RpK.mono2 l ds r t⟩
theorem RpF.mono2 (l : W.le2 K W') : ∀ (d : List (Str × D)) (v : List (Str × V)), RpF K W d v → RpF K W' d v
  | [], _, h => h
  | (_, d) :: ds, _, h => by obtain ⟨v, r, e, h, t⟩ := h; exact ⟨v, r, e, Rp.mono2 l d v h, RpF.mono2 l ds r t⟩
end
theorem RO.mono2 (l : W.le2 K W') {p : Addr} {o : HO} {d : D} (h : RO K W p o d) : RO K W' p o d := by
  cases o <;> cases d <;> first | exact False.elim h | exact RpL.mono2 l _ _ h | exact RpT.mono2 l _ _ h | exact RpK.mono2 l _ _ h | exact ⟨h.1, h.2.1, RpF.mono2 l _ _ h.2.2⟩
/-- a dict -/
def DicO : HO → Prop
  | .dT _ => True
  | .dK _ => True
  | _ => False
/-- the dict u, locked or not -/
def Lck (u o : HO) : Prop := o = u ∨ ∃ od, o = .frz od u
def lckW (W : Wd) (a : Addr) (o : HO) : Wd := ⟨upd W.F a o, W.S⟩
theorem lck_le2 {a : Addr} {u o o' : HO} (du : DicO u) (e : W.F a = some o) (h : Lck u o) (h' : Lck u o') : W.le2 K (lckW W a o') := by
  have ne : ∀ {b v}, W.F b = some v → ¬ Lck u v → b ≠ a := fun {b v} q n z => by subst z; rw [e] at q; cases q; exact n h
  have keep : ∀ {b v}, W.F b = some v → ¬ Lck u v → (lckW W a o').F b = some v := fun {b v} q n => by
    show upd W.F a o' b = _
    rw [upd_ne (ne q n)]; exact q
  have nl : ∀ {v}, (∀ od u', v ≠ HO.frz od u') → ¬ DicO v → ¬ Lck u v := fun {v} n1 n2 z => by
    rcases z with rfl | ⟨od, rfl⟩
    · exact n2 du
    · exact n1 _ _ rfl
  have rdd : ∀ b v, DicO v → Rd W.F b v → Rd (lckW W a o').F b v := fun b v dv q => by
    by_cases hb : b = a
    · subst hb
      have hu : v = u := by
        rcases q with q | ⟨od, q⟩
        · rw [e] at q; cases q
          rcases h with rfl | ⟨od, rfl⟩
          · rfl
          · exact dv.elim
        · rw [e] at q; cases q
          rcases h with rfl | ⟨od, z⟩
          · exact du.elim
          · cases z; rfl
      subst hu
      rcases h' with rfl | ⟨od, rfl⟩
      · exact .inl upd_same
      · exact .inr ⟨od, upd_same⟩
    · exact q.imp (fun q => by show upd W.F a o' b = _; rw [upd_ne hb]; exact q) fun ⟨od, q⟩ => ⟨od, by show upd W.F a o' b = _; rw [upd_ne hb]; exact q⟩
  refine ⟨fun b xs q => keep q (nl (fun _ _ z => nomatch z) id), fun b xs q => keep q (nl (fun _ _ z => nomatch z) id), fun b C dx gs q => keep q (nl (fun _ _ z => nomatch z) id), fun b gs q => keep q (nl (fun _ _ z => nomatch z) id), fun b xs q => ?_, fun b kvs q => rdd b _ trivial q, fun b kvs q => rdd b _ trivial q, fun _ h => h⟩
  refine q.imp (fun q => q.imp (fun q => keep q (nl (fun _ _ z => nomatch z) id)) fun ⟨od, q⟩ => ⟨od, keep q ?_⟩) id
  rintro (z | ⟨od', z⟩)
  · subst z; exact du
  · cases z; exact du
variable {P : Hp} {G : Gm} {σ : St} {H : Hp}
/-- a lock is put on or taken off -/
theorem Rl.lck (R : Rl K W P G σ H) {a : Addr} {u o o' : HO} (du : DicO u) (e : W.F a = some o) (h : Lck u o) (h' : Lck u o') : Rl K (lckW W a o') P G σ (upd H a o') := by
  have l := lck_le2 (K := K) du e h h'
  have nF : ∀ {p}, W.F p = none → p ≠ a := fun {p} q z => by subst z; rw [e] at q; cases q
  have kF : ∀ {p}, W.F p = none → (lckW W a o').F p = none := fun {p} q => by show upd W.F a o' p = none; rw [upd_ne (nF q)]; exact q
  refine ⟨R.len, fun b v q => ?_, fun b hb => ?_, fun p v q => ?_, fun i d q => ?_, fun i d q => ?_, R.sep, R.pnt⟩
  · have q : upd W.F a o' b = some v := q
    by_cases hb : b = a
    · subst hb; rw [upd_same] at q ⊢; exact q
    · rw [upd_ne hb] at q ⊢; exact R.le b v q
  · obtain ⟨h1, h2, x, y, z, h3, h4⟩ := R.src b hb
    exact ⟨kF h1, h2, x, y, z, by rw [upd_ne (nF h1)]; exact h3, h4⟩
  · obtain ⟨h1, h2⟩ := R.prot p v q
    exact ⟨by rw [upd_ne (nF h2)]; exact h1, kF h2⟩
  · obtain ⟨v, h1, h2⟩ := R.dat i d q
    exact ⟨v, h1, Rp.mono2 l _ _ h2⟩
  · obtain ⟨p, v, h1, h2, h3⟩ := R.own i d q
    exact ⟨p, v, h1, ⟨by rw [upd_ne (nF h2.f)]; exact h2.at_, kF h2.f, h2.s, h2.n⟩, h3.mono2 l⟩
theorem RV.lck {a : Addr} {u o o' : HO} (du : DicO u) (e : W.F a = some o) (h : Lck u o) (h' : Lck u o') {sv : SV} {v : V} (r : RV K W P G σ H sv v) : RV K (lckW W a o') P G σ (upd H a o') sv v := by
  have l := lck_le2 (K := K) du e h h'
  have nF : ∀ {p}, W.F p = none → p ≠ a := fun {p} q z => by subst z; rw [e] at q; cases q
  cases sv with
  | dat d => exact Rp.mono2 l _ _ r
  | bor i => exact r
  | new d =>
    obtain ⟨p, v, e1, h2, h3, h4⟩ := r
    exact ⟨p, v, e1, ⟨by rw [upd_ne (nF h2.f)]; exact h2.at_, by show upd W.F a o' p = none; rw [upd_ne (nF h2.f)]; exact h2.f, h2.s, h2.n⟩, h3.mono2 l, h4⟩
/-- a tuple that stands anywhere counts as frozen -/
theorem Rl.tupAt (R : Rl K W P G σ H) {q : Addr} {xs : List V} {ds : List D} (e : H q = some (.tup xs)) (r : RpL K W ds xs) : ∃ W', W.le W' ∧ Rl K W' P G σ H ∧ Rp K W' (.tup ds) (.ref q) := by
  cases f : W.F q with
  | some o =>
    have := R.le _ _ f
    rw [e] at this; cases this
    exact ⟨W, .refl W, R, q, xs, rfl, f, r⟩
  | none =>
    have l : W.le ⟨upd W.F q (.tup xs), W.S⟩ := ⟨fun b u z => by
      show upd W.F q _ b = _
      rw [upd_ne (ne_of_none z f)]; exact z, fun _ h => h⟩
    have nq : ∀ {p o}, H p = some o → (∀ xs, o ≠ .tup xs) → W.F p = none → upd W.F q (.tup xs) p = none := fun {p o} h n z => by
      rw [upd_ne fun y => by subst y; rw [e] at h; cases h; exact n _ rfl]; exact z
    refine ⟨⟨upd W.F q (.tup xs), W.S⟩, l, ⟨R.len, fun b u z => ?_, fun a h => ?_, fun p u z => ?_, fun i d z => ?_, fun i d z => ?_, R.sep, R.pnt⟩, q, xs, rfl, upd_same, RpL.mono l _ _ r⟩
    · have z : upd W.F q (.tup xs) b = some u := z
      by_cases hb : b = q
      · subst hb; rw [upd_same] at z; cases z; exact e
      · rw [upd_ne hb] at z; exact R.le b u z
    · obtain ⟨h1, h2, x, y, z, h3, h4⟩ := R.src a h
      exact ⟨nq h3 (fun _ z => nomatch z) h1, h2, x, y, z, h3, h4⟩
    · obtain ⟨h1, h2⟩ := R.prot p u z
      exact ⟨h1, nq h1 (fun xs y => R.pnt p xs (by rw [z, y])) h2⟩
    · obtain ⟨v, h1, h2⟩ := R.dat i d z
      exact ⟨v, h1, Rp.mono l _ _ h2⟩
    · obtain ⟨p, o, h1, h2, h3⟩ := R.own i d z
      exact ⟨p, o, h1, ⟨h2.at_, nq h2.at_ h3.nt h2.f, h2.s, h2.n⟩, h3.mono l⟩
/-! ### what is walked of it -/
def keysT (es : List (List Key × D)) : List D := es.map fun kv => .tup (kv.1.map keyD)
def keysK (es : List (Key × D)) : List D := es.map fun kv => keyD kv.1
theorem RpT.at : ∀ {es : List (List Key × D)} {kvs : List (List Key × V)} {i : Nat} {k : List Key} {d : D}, RpT K W es kvs → es[i]? = some (k, d) → ∃ v, kvs[i]? = some (k, v) ∧ Rp K W d v
  | (k', d') :: es, _, 0, _, _, h, e => by obtain ⟨v, r, rfl, h1, _⟩ := h; cases e; exact ⟨v, rfl, h1⟩
  | (k', d') :: es, _, i + 1, _, _, h, e => by obtain ⟨v, r, rfl, _, h2⟩ := h; exact RpT.at (i := i) h2 e
theorem RpK.at : ∀ {es : List (Key × D)} {kvs : List (Key × V)} {i : Nat} {k : Key} {d : D}, RpK K W es kvs → es[i]? = some (k, d) → ∃ v, kvs[i]? = some (k, v) ∧ Rp K W d v
  | (k', d') :: es, _, 0, _, _, h, e => by obtain ⟨v, r, rfl, h1, _⟩ := h; cases e; exact ⟨v, rfl, h1⟩
  | (k', d') :: es, _, i + 1, _, _, h, e => by obtain ⟨v, r, rfl, _, h2⟩ := h; exact RpK.at (i := i) h2 e
theorem walks_keysT {p : Addr} {od : Obj} {kvs : List (List Key × V)} {es : List (List Key × D)} (e : W.F p = some (.frz od (.dT kvs))) (r : RpT K W es kvs) : Walks K W (Itkt p od kvs) (keysT es) := by
  intro W' P G σ H i l R
  have e' : H p = some (.frz od (.dT kvs)) := R.le _ _ (l.f _ _ e)
  have hlen := r.len
  refine ⟨fun d hd => ?_, fun hi => ⟨e', by unfold keysT at hi; rw [List.length_map] at hi; omega⟩⟩
  unfold keysT at hd
  rw [List.getElem?_map] at hd
  obtain ⟨⟨k, d0⟩, hk, rfl⟩ := Option.map_eq_some_iff.mp hd
  have hi : i < es.length := (List.getElem?_eq_some_iff.mp hk).1
  obtain ⟨v0, hv0, _⟩ := r.at hk
  refine ⟨⟨e', by omega⟩, fun x H' ⟨h1, k', v, q, h2, h3, h4⟩ => ?_⟩
  subst h1 h3
  rw [hv0] at h2; cases h2
  exact R.tupAt h4 (rpl_keys k)
theorem walks_keysK {p : Addr} {od : Obj} {kvs : List (Key × V)} {es : List (Key × D)} (e : W.F p = some (.frz od (.dK kvs))) (r : RpK K W es kvs) : Walks K W (Itk p od kvs) (keysK es) := by
  intro W' P G σ H i l R
  have e' : H p = some (.frz od (.dK kvs)) := R.le _ _ (l.f _ _ e)
  have hlen := r.len
  refine ⟨fun d hd => ?_, fun hi => ⟨e', by unfold keysK at hi; rw [List.length_map] at hi; omega⟩⟩
  unfold keysK at hd
  rw [List.getElem?_map] at hd
  obtain ⟨⟨k, d0⟩, hk, rfl⟩ := Option.map_eq_some_iff.mp hd
  have hi : i < es.length := (List.getElem?_eq_some_iff.mp hk).1
  obtain ⟨v0, hv0, _⟩ := r.at hk
  refine ⟨⟨e', by omega⟩, fun x H' ⟨h1, k', v, h2, h3⟩ => ?_⟩
  subst h1 h3
  rw [hv0] at h2; cases h2
  exact ⟨W', .refl W', R, by cases k <;> rfl⟩
/-- the dict in the slot i, its items in sequence -/
def keysD (d : D) (k : List D → Prop) : Prop := match d with
  | .dT es => k (keysT es)
  | .dK es => k (keysK es)
  | _ => False
def dKeys (i : Nat) : DI := fun G Q => frz G (.bor i) fun d G1 => keysD d fun ds => Q ds G1
theorem Rl.frzAt (R : Rl K W P G σ H) {i : Nat} {k : D → Gm → Prop} (t : LD.frz G (.bor i) k) : ∃ v W' d G', σ[i]? = some (some v) ∧ W.le W' ∧ Rl K W' P G' σ H ∧ Rp K W' d v ∧ k d G' := by
  cases e : gg G i with
  | none => unfold LD.frz at t; simp only [e] at t
  | some x =>
    cases x with
    | dat d =>
      unfold LD.frz at t; simp only [e] at t
      obtain ⟨v, h1, h2⟩ := R.dat i d e
      exact ⟨v, W, d, G, h1, .refl W, R, h2, t⟩
    | own d =>
      obtain ⟨p, o, h1, _⟩ := R.own i d e
      obtain ⟨W', d', G', l, R', r', q⟩ := R.frz (sv := .bor i) (v := .ref p) ⟨h1, d, e⟩ t
      exact ⟨_, W', d', G', h1, l, R', r', q⟩
theorem lck_back {W0 : Wd} {a : Addr} {u o : HO} (l : W0.le W) (f : W.F a = some u) (l2 : (lckW W a o).le W') : W0.le (lckW W' a u) := ⟨fun b v q => by
  show upd W'.F a u b = some v
  have q := l.f b v q
  by_cases hb : b = a
  · subst hb; rw [upd_same, ← f, q]
  · rw [upd_ne hb]
    exact l2.f b v (by show upd W.F a o b = some v; rw [upd_ne hb]; exact q), fun b h => l2.s b (l.s b h)⟩
end
theorem PE.or {X : Cx} {e : Expr} {t u : TE} (h : PE X e t) (g : PE X e u) : PE X e (fun σ H Q => t σ H Q ∨ u σ H Q) := ⟨fun pins s σ H Q I q => q.elim (h.run pins s σ H Q I) (g.run pins s σ H Q I)⟩
theorem PS.or {X : Cx} {e : Stmt} {t u : TS} (h : PS X e t) (g : PS X e u) : PS X e (fun D σ H => t D σ H ∨ u D σ H) := ⟨fun pins s σ H Q I q => q.elim (h.run pins s σ H Q I) (g.run pins s σ H Q I)⟩
section
variable {X : Cx} {K : PySem.W.Frag} {W : Wd} {P : Hp} {G : Gm} {σ : St} {H : Hp} {tg elt : Expr} {pos : Pos}
/-- the walk, of a locked dict or of one that is locked for it -/
theorem lck_E {i : Nat} {B : (Qv : VK) → It → Hp → Prop} {Qv : VK} {f : List D → Gm → Prop} {Q : DQ}
    (h : ∃ G, ∃ R0 : ∃ W P, Rl K W P G σ H ∧ (∀ W' sv G' v H', W.le W' → Rl K W' P G' σ H' → RV K W' P G' σ H' sv v → Q sv G' → Qv v H') ∧
        (∀ (Qv : VK) W1 G1 H1 J ds, Rl K W1 P G1 σ H1 → Walks K W1 J ds → f ds G1 → (∀ W' sv G' v H', W1.le W' → Rl K W' P G' σ H' → RV K W' P G' σ H' sv v → Q sv G' → Qv v H') → B Qv J H1), dKeys i G f) :
    tLockE (fun σ H Qv => iKeys (tVar i) σ H fun J H1 => B Qv J H1) σ H Qv ∨ iKeys (tVar i) σ H fun J H1 => B Qv J H1 := by
  obtain ⟨G, ⟨W, P, R, k, b⟩, t⟩ := h
  obtain ⟨v, W1, d, G1, e, l1, R1, r1, q1⟩ := R.frzAt t
  cases d <;> first | exact False.elim q1 | skip
  · obtain ⟨a, kvs, rfl, f1 | ⟨od, f1⟩, r⟩ := r1
    · refine .inl ⟨a, .dT kvs, R1.le _ _ f1, trivial, fun od => ?_⟩
      have RL := R1.lck (u := .dT kvs) (o' := .frz od (.dT kvs)) trivial f1 (.inl rfl) (.inr ⟨od, rfl⟩)
      refine ⟨.ref a, e, a, od, rfl, .inr ⟨kvs, upd_same, b _ _ _ _ _ _ RL (walks_keysT upd_same (RpT.mono2 (lck_le2 (u := .dT kvs) trivial f1 (.inl rfl) (.inr ⟨od, rfl⟩)) _ _ r)) q1 fun W' sv G' v H' l' R' r' q' => ?_⟩⟩
      have fa := l'.f _ _ upd_same
      exact ⟨R'.le _ _ fa, k _ sv G' v _ (lck_back l1 f1 l') (R'.lck (u := .dT kvs) trivial fa (.inr ⟨od, rfl⟩) (.inl rfl)) (RV.lck (u := .dT kvs) trivial fa (.inr ⟨od, rfl⟩) (.inl rfl) r') q'⟩
    · exact .inr ⟨.ref a, e, a, od, rfl, .inr ⟨kvs, R1.le _ _ f1, b _ _ _ _ _ _ R1 (walks_keysT f1 r) q1 fun W' sv G' v H' l' => k W' sv G' v H' (l1.trans l')⟩⟩
  · obtain ⟨a, kvs, rfl, f1 | ⟨od, f1⟩, r⟩ := r1
    · refine .inl ⟨a, .dK kvs, R1.le _ _ f1, trivial, fun od => ?_⟩
      have RL := R1.lck (u := .dK kvs) (o' := .frz od (.dK kvs)) trivial f1 (.inl rfl) (.inr ⟨od, rfl⟩)
      refine ⟨.ref a, e, a, od, rfl, .inl ⟨kvs, upd_same, b _ _ _ _ _ _ RL (walks_keysK upd_same (RpK.mono2 (lck_le2 (u := .dK kvs) trivial f1 (.inl rfl) (.inr ⟨od, rfl⟩)) _ _ r)) q1 fun W' sv G' v H' l' R' r' q' => ?_⟩⟩
      have fa := l'.f _ _ upd_same
      exact ⟨R'.le _ _ fa, k _ sv G' v _ (lck_back l1 f1 l') (R'.lck (u := .dK kvs) trivial fa (.inr ⟨od, rfl⟩) (.inl rfl)) (RV.lck (u := .dK kvs) trivial fa (.inr ⟨od, rfl⟩) (.inl rfl) r') q'⟩
    · exact .inr ⟨.ref a, e, a, od, rfl, .inl ⟨kvs, R1.le _ _ f1, b _ _ _ _ _ _ R1 (walks_keysK f1 r) q1 fun W' sv G' v H' l' => k W' sv G' v H' (l1.trans l')⟩⟩
theorem de_lcK {x : Str} {px : Pos} {i : Nat} {ifs : List Expr} {scope : Scope} {own : List (Str × Nat)} {g : DG} {tt : DT} {te : DE} (hN : X.N.Nodup) (ok : BlkOk X.N X.env.scope scope own)
    (hg : ∀ (s : Shared) (H : Hp) (C : Addr) (cl : List (Str × Addr)) (fp : List Addr), PG (X.blk s H scope (compEnvC scope cl C X.env) fp) tg (canG X.K (own.map (·.2)) g))
    (ht : ∀ (s : Shared) (H : Hp) (C : Addr) (cl : List (Str × Addr)) (fp : List Addr), PTs (X.blk s H scope (compEnvC scope cl C X.env) fp) ifs (canT X.K tt))
    (he : ∀ (s : Shared) (H : Hp) (C : Addr) (cl : List (Str × Addr)) (fp : List Addr), PE (X.blk s H scope (compEnvC scope cl C X.env) fp) elt (can X.K te)) (hi : X.N[i]? = some x := by rfl) (hv : Vis X.env.scope x := by first | exact Or.inl rfl | exact Or.inr (Or.inl rfl) | exact Or.inr (Or.inr rfl))
    (hd : (x == ("__debug__" : Str)) = false := by decide) (hcd : (x == ("__classdict__" : Str)) = false := by decide) (hc : X.calm = true := by rfl) (hs : ∀ y, foldedSetIterable (.Name x px) X.env y = pure y := by intro _; rfl) :
    PE X (.ListComp elt [⟨tg, .Name x px, ifs, 0⟩] scope pos) (can X.K (dLc (own.map (·.2)) (dKeys i) g tt te)) := by
  have h0 := pe_lc (pos := pos) hc hN (pi_keys (tg := tg) (pe_var (pos := px) hi hv hd hcd)) ok hg ht he hs
  refine PE.imp (PE.or (pe_lock h0) h0) ?_
  rintro σ H Qv ⟨W, P, G, Q, R, t, k⟩
  exact lck_E (B := fun Qv J H1 => LcB (canG X.K (own.map (·.2)) g) (canT X.K tt) (can X.K te) (own.map (·.2)) σ Qv J H1) ⟨G, ⟨W, P, R, k, fun Qv W1 G1 H1 J ds R1 w q k' => lc_J R1 w q.1 q.2 k'⟩, t⟩
theorem ds_setLcK {x y : Str} {px py spos : Pos} {j : Nat} (i : Nat) {ifs : List Expr} {scope : Scope} {own : List (Str × Nat)} {g : DG} {tt : DT} {te : DE} (hN : X.N.Nodup) (ok : BlkOk X.N X.env.scope scope own)
    (hg : ∀ (s : Shared) (H : Hp) (C : Addr) (cl : List (Str × Addr)) (fp : List Addr), PG (X.blk s H scope (compEnvC scope cl C X.env) fp) tg (canG X.K (own.map (·.2)) g))
    (ht : ∀ (s : Shared) (H : Hp) (C : Addr) (cl : List (Str × Addr)) (fp : List Addr), PTs (X.blk s H scope (compEnvC scope cl C X.env) fp) ifs (canT X.K tt))
    (he : ∀ (s : Shared) (H : Hp) (C : Addr) (cl : List (Str × Addr)) (fp : List Addr), PE (X.blk s H scope (compEnvC scope cl C X.env) fp) elt (can X.K te))
    (hsw : swapsWith (.ListComp elt [⟨tg, .Name x px, ifs, 0⟩] scope pos) (some (.Name y py)) spos.line X.env = pure true) (hj : X.N[j]? = some x := by rfl) (hv : Vis X.env.scope x := by first | exact Or.inl rfl | exact Or.inr (Or.inl rfl) | exact Or.inr (Or.inr rfl))
    (hd : (x == ("__debug__" : Str)) = false := by decide) (hcd : (x == ("__classdict__" : Str)) = false := by decide) (hy : X.N[i]? = some y := by rfl) (hyl : X.env.scope.names.lookup y = some .local := by rfl) (hc : X.calm = true := by rfl) (hs : ∀ y, foldedSetIterable (.Name x px) X.env y = pure y := by intro _; rfl) :
    PS X (.Assign [.Name y py] (.ListComp elt [⟨tg, .Name x px, ifs, 0⟩] scope pos) spos) (canS X.K (dAsg (dLc (own.map (·.2)) (dKeys j) g tt te) (dgName i))) := by
  have h0 := ps_setLc hc hN hy hyl hsw (pi_keys (tg := tg) (pe_var (pos := px) hj hv hd hcd)) ok hg ht he hs
  refine PS.imp (PS.or (ps_lock h0) h0) fun D σ H h => ?_
  obtain ⟨W, P, G, Q, R, t, k⟩ := asg_ok (ws := [i]) h
  refine lck_E (i := j)
    (B := fun Qv J H1 => LcB (canG X.K (own.map (·.2)) g) (canT X.K tt) (can X.K te) (own.map (·.2)) σ Qv J H1) (Qv := fun v H1 => D.nx (σ.set i (some v)) H1)
    ⟨G, ⟨W, P, R, ?_, fun Qv W1 G1 H1 J ds R1 w q k' => lc_J R1 w q.1 q.2 k'⟩, t⟩
  intro W1 sv G1 v H1 l1 R1 r1 q
  obtain ⟨W2, P2, G2, sv2, Q2, R2, r2, t2, k2⟩ := k W1 sv G1 v H1 l1 R1 r1 q
  obtain ⟨W', c, G', l, R', q⟩ := R2.rest (i := i) r2 t2
  exact k2 W' _ _ H1 l R' (But.set (by simp) _) q
/-- for k in d -/
theorem ds_forK {x : Str} {px : Pos} {i : Nat} {body : List Stmt} {g : DG} {tb : DS} {ws : List Nat} (hp : PassesOwn (model X.prog X.w) X.A X.env X.xe) (hg : PG X tg (canG X.K ws g)) (hb : PSs X body (canS X.K tb)) (hi : X.N[i]? = some x := by rfl) (hv : Vis X.env.scope x := by first | exact Or.inl rfl | exact Or.inr (Or.inl rfl) | exact Or.inr (Or.inr rfl))
    (hd : (x == ("__debug__" : Str)) = false := by decide) (hcd : (x == ("__classdict__" : Str)) = false := by decide) (hc : X.calm = true := by rfl) (hs : ∀ y, foldedSetIterable (.Name x px) X.env y = pure y := by intro _; rfl) :
    PS X (.For tg (.Name x px) body [] pos) (canS X.K (dFor (dKeys i) g tb)) := by
  have h0 := ps_for (pos := pos) hp hc (pi_keys (tg := tg) (pe_var (pos := px) hi hv hd hcd)) hg hb hs
  refine PS.imp (PS.or (ps_lock h0) h0) ?_
  rintro D σ H ⟨W, P, G, E, R, t, k⟩
  have t : LD.frz G (.bor i) fun d G1 => keysD d fun ds => forL g tb E ds G1 := t
  obtain ⟨v, W1, d, G1, e, l1, R1, r1, q1⟩ := R.frzAt t
  have ends : ∀ {a : Addr} {u : HO} {od : Obj}, DicO u → W1.F a = some u → EndsOk X.K (lckW W1 a (.frz od u)) P E ⟨fun σ' H' => H' a = some (.frz od u) ∧ D.nx σ' (upd H' a u), fun v H' => H' a = some (.frz od u) ∧ D.rt v (upd H' a u), fun σ' H' => H' a = some (.frz od u) ∧ D.bk σ' (upd H' a u), fun σ' H' => H' a = some (.frz od u) ∧ D.ct σ' (upd H' a u)⟩ := fun {a u od} du f1 => by
    have go : ∀ {W' : Wd}, (lckW W1 a (.frz od u)).le W' → W'.F a = some (.frz od u) := fun {W'} l => l.f _ _ upd_same
    exact ⟨fun W' G' σ' H' l' R' q' => ⟨R'.le _ _ (go l'), k.nx _ G' σ' _ (lck_back l1 f1 l') (R'.lck du (go l') (.inr ⟨od, rfl⟩) (.inl rfl)) q'⟩,
      fun W' G' σ' H' l' R' q' => ⟨R'.le _ _ (go l'), k.bk _ G' σ' _ (lck_back l1 f1 l') (R'.lck du (go l') (.inr ⟨od, rfl⟩) (.inl rfl)) q'⟩,
      fun W' G' σ' H' l' R' q' => ⟨R'.le _ _ (go l'), k.ct _ G' σ' _ (lck_back l1 f1 l') (R'.lck du (go l') (.inr ⟨od, rfl⟩) (.inl rfl)) q'⟩,
      fun W' sv n v H' l' R' r' q' => ⟨R'.le _ _ (go l'), k.rt _ sv n v _ (lck_back l1 f1 l') (R'.lck du (go l') (.inr ⟨od, rfl⟩) (.inl rfl)) (RV.lck du (go l') (.inr ⟨od, rfl⟩) (.inl rfl) r') q'⟩⟩
  cases d <;> first | exact False.elim q1 | skip
  · obtain ⟨a, kvs, rfl, f1 | ⟨od, f1⟩, r⟩ := r1
    · refine .inl ⟨a, .dT kvs, R1.le _ _ f1, trivial, fun od => ?_⟩
      have RL := R1.lck (u := .dT kvs) (o' := .frz od (.dT kvs)) trivial f1 (.inl rfl) (.inr ⟨od, rfl⟩)
      exact ⟨.ref a, e, a, od, rfl, .inr ⟨kvs, upd_same, for_J RL (walks_keysT upd_same (RpT.mono2 (lck_le2 (u := .dT kvs) trivial f1 (.inl rfl) (.inr ⟨od, rfl⟩)) _ _ r)) q1 (ends trivial f1)⟩⟩
    · exact .inr ⟨.ref a, e, a, od, rfl, .inr ⟨kvs, R1.le _ _ f1, for_J R1 (walks_keysT f1 r) q1 (k.le l1)⟩⟩
  · obtain ⟨a, kvs, rfl, f1 | ⟨od, f1⟩, r⟩ := r1
    · refine .inl ⟨a, .dK kvs, R1.le _ _ f1, trivial, fun od => ?_⟩
      have RL := R1.lck (u := .dK kvs) (o' := .frz od (.dK kvs)) trivial f1 (.inl rfl) (.inr ⟨od, rfl⟩)
      exact ⟨.ref a, e, a, od, rfl, .inl ⟨kvs, upd_same, for_J RL (walks_keysK upd_same (RpK.mono2 (lck_le2 (u := .dK kvs) trivial f1 (.inl rfl) (.inr ⟨od, rfl⟩)) _ _ r)) q1 (ends trivial f1)⟩⟩
    · exact .inr ⟨.ref a, e, a, od, rfl, .inl ⟨kvs, R1.le _ _ f1, for_J R1 (walks_keysK f1 r) q1 (k.le l1)⟩⟩
end

section
variable {X : Cx} {K : PySem.W.Frag} {W W' : Wd} {P : Hp} {G : Gm} {σ : St} {H : Hp} {e f : Expr} {es : List Expr} {pos : Pos}
/-! xs.pop(i) -/
def mPopAt : List D → List D → (List D → D → Prop) → Prop := fun ds ys k => match ys with
  | [.int i] => (0 ≤ i ∧ i < 2 ^ 62) ∧ match ds[i.toNat]? with
    | some d => k (ds.eraseIdx i.toNat) d
    | none => False
  | _ => False
theorem RpL.erase : ∀ {a : List D} {x : List V} (n : Nat), RpL K W a x → RpL K W (a.eraseIdx n) (x.eraseIdx n)
  | [], _, n, h => by obtain rfl : _ = [] := h; exact rfl
  | d :: ds, _, 0, h => by obtain ⟨v, r, rfl, h1, h2⟩ := h; exact h2
  | d :: ds, _, n + 1, h => by obtain ⟨v, r, rfl, h1, h2⟩ := h; exact ⟨v, _, rfl, h1, RpL.erase n h2⟩
theorem ml_popAt : MthL K rPopAt mPopAt := fun W H p xs us ds ys k Qv le hp r1 r2 h q => by
  match ys, h with
  | [.int i], ⟨⟨h0, h1⟩, h⟩ =>
    obtain ⟨u, r, rfl, ru, rr⟩ := r2
    obtain rfl : r = [] := rr
    obtain rfl : u = .int i := ru
    cases e : ds[i.toNat]? with
    | none => simp only [e] at h
    | some d =>
      simp only [e] at h
      obtain ⟨v, e1, e2⟩ := r1.get e
      have hl : i.toNat < xs.length := (List.getElem?_eq_some_iff.mp e1).1
      refine ⟨p, xs, i, i.toNat, v, rfl, rfl, hp, by omega, by omega, ?_, e1, q _ _ _ _ (RpL.erase _ r1) e2 h⟩
      unfold seqIndex?
      rw [if_neg (show ¬ i < 0 by omega)]
      simp only
      rw [if_pos (by rw [Bool.and_eq_true, decide_eq_true_eq, decide_eq_true_eq]; exact ⟨h0, by omega⟩)]
theorem pop_at {ds : List D} {i : Int} {k : List D → D → Prop} {d : D} (h0 : 0 ≤ i) (hl : ds.length < 2 ^ 62) (e : ds[i.toNat]? = some d) (h : k (ds.eraseIdx i.toNat) d) : mPopAt ds [.int i] k := by
  have := (List.getElem?_eq_some_iff.mp e).1
  refine ⟨⟨h0, by omega⟩, ?_⟩
  rw [e]; exact h
/-! [*xs, a] -/
def itemsD (d : D) (k : List D → Prop) : Prop := match d with
  | .lst ds => k ds
  | .tup ds => k ds
  | .scr ns => k (ns.map D.int)
  | _ => False
def dStar (t : DE) (u : DA) : DA := fun G Q => t G fun s G1 => frz G1 s fun d G2 => itemsD d fun xs => u G2 fun ds G3 => Q (xs ++ ds) G3
theorem da_star {p : Pos} {t : DE} {u : DA} (h : PE X e (can X.K t)) (h2 : PA X es (canA X.K u)) (hs : starEach (.Starred e p :: es) X.env = (true, eval e X.env) :: starEach es X.env := by rfl) : PA X (.Starred e p :: es) (canA X.K (dStar t u)) := by
  refine ⟨fun pos pins s σ H Qv I hh => (StX.pa_star h h2 hs).run pos pins s σ H Qv I ?_⟩
  obtain ⟨W, P, G, Q, R, t, k⟩ := hh
  refine ⟨W, P, G, _, R, t, fun W1 sv G1 v H1 l1 R1 r1 q1 => ?_⟩
  obtain ⟨W2, d, G2, l2, R2, r2, q2⟩ := R1.frz r1 q1
  have : ∃ a xs ds, v = .ref a ∧ (SqT X.K H1 a xs ∨ SqL X.K H1 a xs) ∧ RpL X.K W2 ds xs ∧ u G2 fun es G3 => Q (ds ++ es) G3 := by
    cases d <;> first | exact False.elim q2 | skip
    · obtain ⟨a, rfl, s⟩ := r2
      exact ⟨a, _, _, rfl, .inr (R2.sqL s), RpL.ofInts _, q2⟩
    · obtain ⟨a, xs, rfl, s, r⟩ := r2
      exact ⟨a, xs, _, rfl, .inl (R2.sqT (.of s)), r, q2⟩
    · obtain ⟨a, xs, rfl, s, r⟩ := r2
      exact ⟨a, xs, _, rfl, .inr (R2.sqL (.of s)), r, q2⟩
  obtain ⟨a, xs, ds, rfl, hq, rr, q3⟩ := this
  exact ⟨a, xs, rfl, hq, W2, P, G2, _, R2, q3, fun W3 es' G3 ys H3 l3 R3 r3 q4 => k W3 (ds ++ es') G3 _ H3 ((l1.trans l2).trans l3) R3 (RpL.append (RpL.mono l3 _ _ rr) r3) q4⟩
/-! d.get(k, x), d a dict in a slot -/
def dicM (o : Option SC) (b : D) (k : Option D → Prop) : Prop := match o with
  | some (.own d) => dAt b d k
  | some (.dat d) => dAt b d k
  | none => False
def isDic (o : Option SC) : Prop := match o with
  | some (.own d) => isD d = true
  | some (.dat d) => isD d = true
  | none => False
def dGetN (i : Nat) (tk tx : DE) : DE := fun G Q => isDic (gg G i) ∧ tk G fun sk G1 => frz G1 sk fun b G2 => tx G2 fun sx G3 => frz G3 sx fun z G4 => dicM (gg G4 i) b fun od => Q (.dat (od.getD z)) G4
def dGetN1 (i : Nat) (tk : DE) : DE := fun G Q => isDic (gg G i) ∧ tk G fun sk G1 => frz G1 sk fun b G2 => dicM (gg G2 i) b fun od => Q (.dat (od.getD .non)) G2
theorem Rl.slotN (R : Rl K W P G σ H) {i : Nat} {x : SC} (e : gg G i = some x) : ∃ v, σ[i]? = some (some v) ∧ RN K W H (match x with | .own d => d | .dat d => d) v := by
  cases x with
  | dat d => obtain ⟨v, h1, h2⟩ := R.dat i d e; exact ⟨v, h1, R.rn h2⟩
  | own d => obtain ⟨p, o, h1, h2, h3⟩ := R.own i d e; exact ⟨.ref p, h1, h3.rn h2.at_⟩
theorem isDic_of (R : Rl K W P G σ H) {i : Nat} (h : isDic (gg G i)) : ∃ a, σ[i]? = some (some (.ref a)) ∧ IsD H a := by
  cases e : gg G i with
  | none => rw [e] at h; exact h.elim
  | some x =>
    rw [e] at h
    obtain ⟨v, h1, h2⟩ := R.slotN e
    have : ∃ d, isD d = true ∧ RN K W H d v := by cases x <;> exact ⟨_, h, h2⟩
    obtain ⟨d, hd, rn⟩ := this
    cases d <;> first | exact absurd hd Bool.false_ne_true | skip
    · obtain ⟨a, kvs, rfl, rd, _⟩ := rn; exact ⟨a, h1, .inr ⟨kvs, rd⟩⟩
    · obtain ⟨a, kvs, rfl, rd, _⟩ := rn; exact ⟨a, h1, .inl ⟨kvs, rd⟩⟩
theorem dicM_of (R : Rl K W P G σ H) {i : Nat} {a : Addr} {b : D} {y : V} {k : Option D → Prop} (e1 : σ[i]? = some (some (.ref a))) (hy : RN K W H b y) (h : dicM (gg G i) b k) :
    ∃ o od, DGet H a y o ∧ k od ∧ ((od = none ∧ o = none) ∨ ∃ d v, od = some d ∧ o = some v ∧ Rp K W d v) := by
  cases e : gg G i with
  | none => rw [e] at h; exact h.elim
  | some x =>
    rw [e] at h
    obtain ⟨v, h1, h2⟩ := R.slotN e
    rw [e1] at h1; cases h1
    have : ∃ d, dAt b d k ∧ RN K W H d (.ref a) := by cases x <;> exact ⟨_, h, h2⟩
    obtain ⟨d, hd, rn⟩ := this
    obtain ⟨p, o, od, ep, g, q, r⟩ := dAt_get hy rn hd
    cases ep
    exact ⟨o, od, g, q, r⟩
theorem getD_rp {o : Option V} {od : Option D} {z : D} {w : V} (r : (od = none ∧ o = none) ∨ ∃ d v, od = some d ∧ o = some v ∧ Rp K W d v) (rz : Rp K W z w) : Rp K W (od.getD z) (o.getD w) := by
  rcases r with ⟨rfl, rfl⟩ | ⟨d, v, rfl, rfl, h⟩
  · exact rz
  · exact h
theorem de_getN {x : Str} {px apos cpos : Pos} {tk tx : DE} (i : Nat) (hu : X.A.units + 65 < cLine) (he : PE X e (can X.K tk)) (hf : PE X f (can X.K tx)) (hN : X.N[i]? = some x := by rfl) (hv : Vis X.env.scope x := by first | exact Or.inl rfl | exact Or.inr (Or.inl rfl) | exact Or.inr (Or.inr rfl))
    (hd : (x == ("__debug__" : Str)) = false := by decide) (hcd : (x == ("__classdict__" : Str)) = false := by decide) (m : M2 X (.Name x px) "get" apos e f cpos := by exact ⟨rfl, rfl, rfl, rfl⟩) :
    PE X (.Call (.Attribute (.Name x px) "get" apos) [e, f] [] cpos) (can X.K (dGetN i tk tx)) := by
  refine PE.imp (pe_dget2 (by omega) (pe_var hN hv hd hcd) he hf m) ?_
  rintro σ H Qv ⟨W, P, G, Q, R, ⟨t0, t⟩, k⟩
  obtain ⟨a, e1, hD⟩ := isDic_of R t0
  refine ⟨.ref a, e1, a, rfl, hD, W, P, G, _, R, t, fun W1 sk G1 y H1 l1 R1 r1 q1 => ?_⟩
  obtain ⟨W2, b, G2, l2, R2, r2, q2⟩ := R1.frz r1 q1
  refine ⟨W2, P, G2, _, R2, q2, fun W3 sx G3 z H3 l3 R3 r3 q3 => ?_⟩
  obtain ⟨W4, zz, G4, l4, R4, r4, q4⟩ := R3.frz r3 q3
  obtain ⟨o, od, g, q, r⟩ := dicM_of R4 e1 (R4.rn (Rp.mono (l3.trans l4) _ _ r2)) q4
  exact ⟨o, g, k W4 (.dat _) G4 _ H3 (((l1.trans l2).trans l3).trans l4) R4 (getD_rp r r4) q⟩
theorem de_getN1 {x : Str} {px apos cpos : Pos} {tk : DE} (i : Nat) (hu : X.A.units + 65 < cLine) (he : PE X e (can X.K tk)) (hN : X.N[i]? = some x := by rfl) (hv : Vis X.env.scope x := by first | exact Or.inl rfl | exact Or.inr (Or.inl rfl) | exact Or.inr (Or.inr rfl))
    (hd : (x == ("__debug__" : Str)) = false := by decide) (hcd : (x == ("__classdict__" : Str)) = false := by decide) (m : M1 X (.Name x px) "get" apos e cpos := by exact ⟨rfl, rfl, rfl, rfl⟩) :
    PE X (.Call (.Attribute (.Name x px) "get" apos) [e] [] cpos) (can X.K (dGetN1 i tk)) := by
  refine PE.imp (pe_dget1 (by omega) (pe_var hN hv hd hcd) he m) ?_
  rintro σ H Qv ⟨W, P, G, Q, R, ⟨t0, t⟩, k⟩
  obtain ⟨a, e1, hD⟩ := isDic_of R t0
  refine ⟨.ref a, e1, a, rfl, hD, W, P, G, _, R, t, fun W1 sk G1 y H1 l1 R1 r1 q1 => ?_⟩
  obtain ⟨W2, b, G2, l2, R2, r2, q2⟩ := R1.frz r1 q1
  obtain ⟨o, od, g, q, r⟩ := dicM_of R2 e1 (R2.rn r2) q2
  exact ⟨o, g, k W2 (.dat _) G2 _ H1 (l1.trans l2) R2 (getD_rp (z := .non) (w := .non) r rfl) q⟩
/-! xs[i] = v, xs an own list -/
def putL (o : Option SC) (j : Int) (dv : D) (k : D → Prop) : Prop := match o with
  | some (.own (.lst ds)) => (0 ≤ j ∧ j < ds.length) ∧ k (.lst (ds.set j.toNat dv))
  | _ => False
def intM (d : D) (k : Int → Prop) : Prop := match d with
  | .int j => k j
  | _ => False
def dPutL (i : Nat) (tv tk : DE) : DS := fun E G => tv G fun sv G1 => frz G1 sv fun dv G2 => isOwn G2 i ∧ tk G2 fun sk G3 => frz G3 sk fun b G4 => intM b fun j => putL (gg G4 i) j dv fun d' => E.nx (gset G4 i (some (.own d')))
theorem RpL.set {d : D} {v : V} (h : Rp K W d v) : ∀ {a : List D} {x : List V} (n : Nat), RpL K W a x → RpL K W (a.set n d) (x.set n v)
  | [], _, n, h => by obtain rfl : _ = [] := h; exact rfl
  | d :: ds, _, 0, h => by obtain ⟨v, r, rfl, h1, h2⟩ := h; exact ⟨_, _, rfl, by assumption, h2⟩
  | d :: ds, _, n + 1, h => by obtain ⟨v, r, rfl, h1, h2⟩ := h; exact ⟨v, _, rfl, h1, RpL.set (by assumption) n h2⟩
theorem ds_putL {x : Str} {px pt : Pos} {kx value : Expr} {tv tk : DE} (i : Nat) (hvl : PE X value (can X.K tv)) (hk : PE X kx (can X.K tk)) (hN : X.N[i]? = some x := by rfl)
    (hv : Vis X.env.scope x := by first | exact Or.inl rfl | exact Or.inr (Or.inl rfl) | exact Or.inr (Or.inr rfl)) (hd : (x == ("__debug__" : Str)) = false := by decide)
    (hcd : (x == ("__classdict__" : Str)) = false := by decide)
    (hs : swapsWithSole [.Subscript (.Name x px) kx pt] value pos.line X.env = pure false := by rfl) (hw : swappedStores [.Subscript (.Name x px) kx pt] value X.env = pure none := by rfl)
    (h1 : (assignEach [.Subscript (.Name x px) kx pt] X.env).map (·.2) = [assign (.Subscript (.Name x px) kx pt) X.env] := by rfl)
    (ha : ∀ v, assign (.Subscript (.Name x px) kx pt) X.env v = (do
      let ov ← holding [v] (eval (.Name x px) X.env)
      let iv ← holding [v, ov] (eval kx X.env)
      standAt pt
      holding [v, ov, iv] (setItem ov iv v)
      release [v, ov, iv] []) := by intro _; rfl) :
    PS X (.Assign [.Subscript (.Name x px) kx pt] value pos) (canS X.K (dPutL i tv tk)) := by
  refine PS.imp (ps_asg hvl (pg_sub (pe_var hN hv hd hcd) hk set_list ha) hs hw h1) ?_
  rintro D σ H ⟨W, P, G, E, R, t, kk⟩
  refine ⟨W, P, G, _, R, t, fun W1 sv G1 v H1 l1 R1 r1 q1 => ?_⟩
  obtain ⟨W2, dv, G2, l2, R2, r2, h0, q2⟩ := R1.frz r1 q1
  obtain ⟨d0, h0⟩ := isOwn_of h0
  obtain ⟨p, o, e1, pr, ro⟩ := R2.own i _ h0
  refine ⟨.ref p, e1, W2, P, G2, _, R2, q2, fun W3 sk G3 y H3 l3 R3 r3 q3 => ?_⟩
  obtain ⟨W4, b, G4, l4, R4, r4, q4⟩ := R3.frz r3 q3
  cases b <;> first | exact False.elim q4 | skip
  rename_i j
  obtain rfl : y = .int j := r4
  have q4 : putL (gg G4 i) j dv fun d' => E.nx (gset G4 i (some (.own d'))) := q4
  unfold putL at q4
  split at q4
  · rename_i ds e4
    obtain ⟨⟨j0, j1⟩, q4⟩ := q4
    obtain ⟨p', o', e2, pr', ro'⟩ := R4.own i _ e4
    rw [e1] at e2; cases e2
    cases o' <;> try exact False.elim ro'
    rename_i xs
    have hl : xs.length = ds.length := RpL.length ro'
    refine ⟨p, xs, j, j.toNat, rfl, rfl, pr'.at_, ?_, ?_⟩
    · unfold ixN
      rw [if_pos j0, if_pos (by omega)]
    · exact kk.nx W4 _ σ _ (((l1.trans l2).trans l3).trans l4) (R4.reown (o' := .lst _) (d' := .lst _) e4 e1 pr' (RpL.set (Rp.mono (l3.trans l4) _ _ r2) _ ro')) q4
  · exact q4.elim
end

section
variable {X : Cx} {K : PySem.W.Frag} {W W' : Wd} {P : Hp} {G : Gm} {σ : St} {H : Hp} {e f : Expr} {es : List Expr} {pos : Pos}
/-! repr([a, b]): a list for a moment, what slots own stays theirs -/
def keepS : SV → SV
  | .new d => .dat d
  | sv => sv
abbrev DAT := Gm → (List SV → Gm → Prop) → Prop
def dNilT : DAT := fun G Q => Q [] G
def dConsT (t : DE) (u : DAT) : DAT := fun G Q => t G fun s G1 => u G1 fun ss G2 => Q (keepS s :: ss) G2
def RSL (K : PySem.W.Frag) (W : Wd) (σ : St) : List SV → List V → Prop
  | [], vs => vs = []
  | s :: ss, vs => ∃ v r, vs = v :: r ∧ RS K W σ s v ∧ RSL K W σ ss r
def canAT (K : PySem.W.Frag) (t : DAT) : TA := fun σ H Qv => ∃ W P G Q, Rl K W P G σ H ∧ t G Q ∧
  ∀ W' ss G' vs H', W.le W' → Rl K W' P G' σ H' → RSL K W' σ ss vs → Q ss G' → Qv vs H'
theorem da_nilT : PA X [] (canAT X.K dNilT) := by
  refine ⟨fun pos pins s σ H Qv I ⟨W, P, G, Q, R, t, k⟩ => pa_nil.run pos pins s σ H Qv I ?_⟩
  exact k W [] G [] H (.refl W) R rfl t
theorem keep_ok {sv : SV} {v : V} (R : Rl K W P G σ H) (r : RV K W P G σ H sv v) : ∃ W', W.le W' ∧ Rl K W' P G σ H ∧ RS K W' σ (keepS sv) v := by
  cases sv with
  | dat d => exact ⟨W, .refl W, R, r⟩
  | bor i => exact ⟨W, .refl W, R, r.1⟩
  | new d =>
    obtain ⟨p, o, rfl, pr, ro, hn⟩ := r
    obtain ⟨W', l, R', r'⟩ := R.freeze pr ro hn
    exact ⟨W', l, R', r'⟩
theorem da_consT {t : DE} {u : DAT} (h : PE X e (can X.K t)) (h2 : PA X es (canAT X.K u)) (hs : starEach (e :: es) X.env = (false, eval e X.env) :: starEach es X.env := by rfl) : PA X (e :: es) (canAT X.K (dConsT t u)) := by
  refine ⟨fun pos pins s σ H Qv I ⟨W, P, G, Q, R, t, k⟩ => (pa_cons h h2 hs).run pos pins s σ H Qv I ?_⟩
  refine ⟨W, P, G, _, R, t, fun W1 sv G1 v H1 l1 R1 r1 q1 => ?_⟩
  obtain ⟨W2, l2, R2, r2⟩ := keep_ok R1 r1
  exact ⟨W2, P, G1, _, R2, q1, fun W3 ss G3 vs H3 l3 R3 r3 q3 => k W3 (keepS sv :: ss) G3 (v :: vs) H3 ((l1.trans l2).trans l3) R3 ⟨v, vs, rfl, RS.mono l3 r2, r3⟩ q3⟩
def seeAll (G : Gm) : List SV → (List D → Prop) → Prop
  | [], k => k []
  | s :: ss, k => see G s fun d => seeAll G ss fun ds => k (d :: ds)
theorem Rl.seeN (R : Rl K W P G σ H) {sv : SV} {v : V} (h : RS K W σ sv v) {k : D → Prop} (hk : LD.see G sv k) : ∃ d, Rp K (nowW W H) d v ∧ k d := by
  obtain ⟨d, n, q⟩ := R.see h hk
  exact ⟨d, R.rnow n, q⟩
theorem Rl.seeAll (R : Rl K W P G σ H) : ∀ {ss : List SV} {vs : List V} {k : List D → Prop}, RSL K W σ ss vs → LD.seeAll G ss k → ∃ ds, RpL K (nowW W H) ds vs ∧ k ds
  | [], _, k, h, q => by obtain rfl : _ = [] := h; exact ⟨[], rfl, q⟩
  | s :: ss, _, k, h, q => by
    obtain ⟨v, r, rfl, h1, h2⟩ := h
    obtain ⟨d, r1, q⟩ := R.seeN h1 q
    obtain ⟨ds, r2, q⟩ := Rl.seeAll R h2 q
    exact ⟨d :: ds, ⟨v, r, rfl, r1, r2⟩, q⟩
theorem RSL.length : ∀ {ss : List SV} {vs : List V}, RSL K W σ ss vs → vs.length = ss.length
  | [], _, h => by obtain rfl : _ = [] := h; rfl
  | s :: ss, _, h => by obtain ⟨v, r, rfl, _, h2⟩ := h; exact congrArg Nat.succ (RSL.length h2)
def dReprL (u : DAT) : DE := fun G Q => u G fun ss G1 => ss.length ≤ sizeLine ∧ seeAll G1 ss fun ds => dRepr (.lst ds) fun r => Q r G1
theorem de_reprL {u : DAT} {p lpos : Pos} (gd : X.A.guards = some []) (hu : X.A.units + 64 < cLine) (hm : X.mg "repr" = none) (h : PA X es (canAT X.K u)) (hg : Gl X "repr" := by rfl)
    (hs : starEach (Expr.List es lpos :: []) X.env = (false, eval (Expr.List es lpos) X.env) :: starEach [] X.env := by rfl) (hpl : (backTo pos (starEach [] X.env)).any (·.1) = false := by rfl) (hv : bootBuiltins "repr" = some (.builtin "repr") := by rfl) :
    PE X (.Call (.Name "repr" p) [.List es lpos] [] pos) (can X.K (dReprL u)) := by
  refine PE.imp (pe_callB (cd_reprN gd hu) hg hm hv (pa_cons (pe_lst h) pa_nil hs) (by decide) (by decide) hs hpl) ?_
  rintro σ H Qv ⟨W, P, G, Q, R, t, k⟩
  refine ⟨W, P, G, _, R, t, fun W1 ss G1 vs H1 l1 R1 r1 ⟨hz, q⟩ => ⟨by rw [RSL.length r1]; exact hz, fun p hp => ?_⟩⟩
  obtain ⟨ds, rd, q⟩ := R1.seeAll r1 q
  have R2 : Rl X.K W1 P G1 σ (upd H1 p (.lst vs)) := (R1.alloc (o := .lst []) (d := .lst []) hp rfl).1 |> fun _ => by
    have old : ∀ b o, H1 b = some o → upd H1 p (.lst vs) b = some o := fun b o e => by rw [upd_ne (ne_of_none e hp)]; exact e
    exact ⟨R1.len, fun b o e => old b o (R1.le b o e), fun a h => (by obtain ⟨h1, h2, x, y, z, h3, h4⟩ := R1.src a h; exact ⟨h1, h2, x, y, z, old _ _ h3, h4⟩), fun q o e => (by obtain ⟨h1, h2⟩ := R1.prot q o e; exact ⟨old _ _ h1, h2⟩), R1.dat,
      fun i d e => (by obtain ⟨q, o, h1, h2, h3⟩ := R1.own i d e; exact ⟨q, o, h1, ⟨old _ _ h2.at_, h2.f, h2.s, h2.n⟩, h3⟩), R1.sep, R1.pnt⟩
  have le2 : (nowW W1 H1).le (nowW W1 (upd H1 p (.lst vs))) := ⟨fun b o e => by
    show upd H1 p (.lst vs) b = some o
    rw [upd_ne (ne_of_none e hp)]; exact e, fun _ h => h⟩
  refine ⟨W1, P, G1, σ, .ref p, .lst ds, fun r => Q r G1, rfl, R2, ⟨p, vs, rfl, upd_same, RpL.mono le2 _ _ rd⟩, q, fun W3 sv v H3 l3 R3 r3 q3 => k W3 sv G1 v H3 (l1.trans l3) R3 r3 q3⟩
/-! x, y, z = a, b, c: new objects stay the slots' own -/
/-- a value that waits for its slot; an own one counts as one of the others' so long -/
def Pk (K : PySem.W.Frag) (W : Wd) (P P' : Hp) (c : SC) (v : V) : Prop := match c with
  | .dat d => P' = P ∧ Rp K W d v
  | .own d => ∃ p o, v = .ref p ∧ P p = none ∧ P' = upd P p o ∧ RO K W p o d
theorem Pk.mono {P' : Hp} {c : SC} {v : V} (l : W.le W') (h : Pk K W P P' c v) : Pk K W' P P' c v := by
  cases c with
  | dat d => exact ⟨h.1, Rp.mono l _ _ h.2⟩
  | own d => obtain ⟨p, o, e, n, q, r⟩ := h; exact ⟨p, o, e, n, q, r.mono l⟩
theorem Rl.park (R : Rl K W P G σ H) {sv : SV} {v : V} {k : SC → Gm → Prop} (r : RV K W P G σ H sv v) (t : rest1 G sv k) : ∃ W' c G' P', W.le W' ∧ Rl K W' P' G' σ H ∧ Pk K W' P P' c v ∧ k c G' := by
  cases sv with
  | dat d => exact ⟨W, .dat d, G, P, .refl W, R, ⟨rfl, r⟩, t⟩
  | new d =>
    obtain ⟨p, o, rfl, pr, ro, hn⟩ := r
    exact ⟨W, .own d, G, upd P p o, .refl W, R.guardP pr hn ro.nt, ⟨p, o, rfl, pr.n, rfl, ro⟩, t⟩
  | bor j =>
    have t : LD.frz G (SV.bor j) fun d G1 => k (.dat d) G1 := t
    obtain ⟨W', d, G', l, R', r', q⟩ := R.frz r t
    exact ⟨W', .dat d, G', P, l, R', ⟨rfl, r'⟩, q⟩
theorem Rl.unpark {P' : Hp} (R : Rl K W P' G σ H) {c : SC} {v : V} (h : Pk K W P P' c v) (i : Nat) : Rl K W P (gset G i (some c)) (σ.set i (some v)) H := by
  cases c with
  | dat d => obtain ⟨rfl, h⟩ := h; exact R.setDat i h
  | own d =>
    obtain ⟨p, o, rfl, n, rfl, ro⟩ := h
    obtain ⟨R', p', o', e, pr, ro', hn⟩ := R.unguard (d := d) n ro
    cases e
    exact R'.setOwn i pr ro' hn
def dPar3 (i j l : Nat) (ta tb tc : DE) : DS := fun E G => ta G fun sa G1 => rest1 G1 sa fun ca G2 => tb G2 fun sb G3 => rest1 G3 sb fun cb G4 => tc G4 fun sc G5 => rest1 G5 sc fun cc G6 => E.nx (gset (gset (gset G6 l (some cc)) j (some cb)) i (some ca))
theorem ds_par3 {x y z : Str} {a b c : Expr} (i j l : Nat) {ta tb tc : DE} {px py pz pt : Pos} {kt k2 pt2} (hN : X.N.Nodup) (ha : PE X a (can X.K ta)) (hb : PE X b (can X.K tb)) (hcc : PE X c (can X.K tc)) (hc : X.calm = true := by rfl) (hi : X.N[i]? = some x := by rfl) (hj : X.N[j]? = some y := by rfl) (hl : X.N[l]? = some z := by rfl) (hij : i ≠ j := by decide) (hil : i ≠ l := by decide) (hjl : j ≠ l := by decide)
    (hx : X.env.scope.names.lookup x = some .local := by rfl) (hy : X.env.scope.names.lookup y = some .local := by rfl) (hz : X.env.scope.names.lookup z = some .local := by rfl)
    (hw : swappedStores [.Tuple [.Name x px, .Name y py, .Name z pz] kt pt] (.Tuple [a, b, c] k2 pt2) X.env = pure (some [x, y, z]) := by rfl)
    (hs : swapsWithSole [.Tuple [.Name x px, .Name y py, .Name z pz] kt pt] (.Tuple [a, b, c] k2 pt2) pos.line X.env = pure false := by rfl)
    (s1 : starEach [a, b, c] X.env = (false, eval a X.env) :: starEach [b, c] X.env := by rfl) (s2 : starEach [b, c] X.env = (false, eval b X.env) :: starEach [c] X.env := by rfl) (s3 : starEach [c] X.env = (false, eval c X.env) :: starEach [] X.env := by rfl) :
    PS X (.Assign [.Tuple [.Name x px, .Name y py, .Name z pz] kt pt] (.Tuple [a, b, c] k2 pt2) pos) (canS X.K (dPar3 i j l ta tb tc)) := by
  refine PS.imp (ps_par3 hc hN hi hj hl hij hil hjl hx hy hz (pa_cons ha (pa_cons hb (pa_cons hcc pa_nil s3) s2) s1) hw hs) ?_
  rintro D σ H ⟨W, P, G, E, R, t, k⟩
  refine ⟨W, P, G, _, R, t, fun W1 sa G1 u H1 l1 R1 r1 q1 => ?_⟩
  obtain ⟨W2, ca, G2, P2, l2, R2, k2', q2⟩ := R1.park r1 q1
  refine ⟨W2, P2, G2, _, R2, q2, fun W3 sb G3 v H3 l3 R3 r3 q3 => ?_⟩
  obtain ⟨W4, cb, G4, P4, l4, R4, k4, q4⟩ := R3.park r3 q3
  refine ⟨W4, P4, G4, _, R4, q4, fun W5 sc G5 w H5 l5 R5 r5 q5 => ⟨u, v, w, rfl, ?_⟩⟩
  obtain ⟨W6, cc, G6, l6, R6, q6⟩ := R5.rest (i := l) r5 q5
  have R7 := R6.unpark (k4.mono (l5.trans l6)) j
  have R8 := R7.unpark (k2'.mono (((l3.trans l4).trans l5).trans l6)) i
  have e : ((σ.set i (some u)).set j (some v)).set l (some w) = ((σ.set l (some w)).set j (some v)).set i (some u) := by
    rw [List.set_comm _ _ (Ne.symm hjl |> Ne.symm), List.set_comm _ _ hil, List.set_comm _ _ hij]
  rw [e]
  exact k.nx W6 _ _ H5 (((((l1.trans l2).trans l3).trans l4).trans l5).trans l6) R8 q6
/-! a call to which own objects are lent: its result is flat -/
/-- the world in which all that slots own counts as frozen -/
noncomputable def lendW (W : Wd) (G : Gm) (σ : St) (H : Hp) : Wd := open Classical in ⟨fun b => if ∃ i d, gg G i = some (.own d) ∧ σ[i]? = some (some (.ref b)) then H b else W.F b, W.S⟩
theorem lend_own {i : Nat} {d : D} {p : Addr} (h : gg G i = some (.own d)) (e : σ[i]? = some (some (.ref p))) : (lendW W G σ H).F p = H p := if_pos ⟨i, d, h, e⟩
theorem lend_oth {p : Addr} (h : ¬ ∃ i d, gg G i = some (.own d) ∧ σ[i]? = some (some (.ref p))) : (lendW W G σ H).F p = W.F p := if_neg h
theorem Rl.lend (R : Rl K W P G σ H) : W.le (lendW W G σ H) ∧ Rl K (lendW W G σ H) P ⟨[], G.c⟩ [] H := by
  have nown : ∀ {p : Addr}, (W.F p ≠ none ∨ W.S p ∨ P p ≠ none) → ¬ ∃ i d, gg G i = some (.own d) ∧ σ[i]? = some (some (.ref p)) := fun {p} h => by
    rintro ⟨i, d, h1, h2⟩
    obtain ⟨q, o, e, pr, _⟩ := R.own i d h1
    rw [h2] at e; cases e
    rcases h with h | h | h
    · exact h pr.f
    · exact pr.s h
    · exact h pr.n
  refine ⟨⟨fun b o e => by rw [lend_oth (nown (.inl (by rw [e]; intro z; cases z)))]; exact e, fun _ h => h⟩, rfl, fun b o e => ?_, fun a h => ?_, fun p o e => ?_, fun i d e => (by cases e), fun i d e => (by cases e), fun i j d e _ h1 _ => (by cases h1), R.pnt⟩
  · by_cases z : ∃ i d, gg G i = some (.own d) ∧ σ[i]? = some (some (.ref b))
    · obtain ⟨i, d, h1, h2⟩ := z
      rw [lend_own h1 h2] at e; exact e
    · rw [lend_oth z] at e; exact R.le b o e
  · obtain ⟨h1, h2, h3⟩ := R.src a h
    exact ⟨by rw [lend_oth (nown (.inr (.inl h)))]; exact h1, h2, h3⟩
  · obtain ⟨h1, h2⟩ := R.prot p o e
    exact ⟨h1, by rw [lend_oth (nown (.inr (.inr (by rw [e]; intro z; cases z))))]; exact h2⟩
theorem Rl.unlend {P0 H' : Hp} {m : Nat} (R : Rl K W P G σ H) (F : Full (lendW W G σ H) P0 H) (l : (lendW W G σ H).le W') (R' : Rl K W' P0 ⟨[], m⟩ [] H') : Rl K W P (G.at m) σ H' := by
  obtain ⟨lw, RL⟩ := R.lend
  refine ⟨R.len, fun b o e => R'.le b o (l.f b o (lw.f b o e)), fun a h => ?_, fun p o e => ?_, fun i d e => ?_, fun i d e => ?_, R.sep, R.pnt⟩
  · obtain ⟨h1, h2, _⟩ := R.src a h
    obtain ⟨_, _, h3⟩ := R'.src a (l.s a (lw.s a h))
    exact ⟨h1, h2, h3⟩
  · obtain ⟨h1, h2⟩ := R.prot p o e
    obtain ⟨_, h3⟩ := RL.prot p o e
    refine ⟨(R'.prot p o (F p o h1 h3 (fun s => ?_) fun xs z => R.pnt p xs (by rw [e, z]))).1, h2⟩
    have := (R.src p s).2.1
    rw [e] at this; cases this
  · exact R.dat i d e
  · obtain ⟨p, o, h1, h2, h3⟩ := R.own i d e
    exact ⟨p, o, h1, ⟨R'.le p o (l.f p o (by rw [lend_own (G := G) e h1]; exact h2.at_)), h2.f, h2.s, h2.n⟩, h3⟩
theorem Rl.seeL (R : Rl K W P G σ H) : ∀ {ss : List SV} {vs : List V} {k : List D → Prop}, RSL K W σ ss vs → LD.seeAll G ss k → ∃ ds, RpL K (lendW W G σ H) ds vs ∧ k ds
  | [], _, k, h, q => by obtain rfl : _ = [] := h; exact ⟨[], rfl, q⟩
  | s :: ss, _, k, h, q => by
    obtain ⟨v, r, rfl, h1, h2⟩ := h
    have : ∃ d, Rp K (lendW W G σ H) d v ∧ LD.seeAll G ss fun ds => k (d :: ds) := by
      cases s with
      | dat d => exact ⟨d, Rp.mono R.lend.1 _ _ h1, q⟩
      | new d => exact ⟨d, Rp.mono R.lend.1 _ _ h1, q⟩
      | bor i =>
        have q : (match gg G i with | some (.own d) => LD.seeAll G ss fun ds => k (d :: ds) | some (.dat d) => LD.seeAll G ss fun ds => k (d :: ds) | none => False) := q
        have h1 : σ[i]? = some (some v) := h1
        cases e : gg G i with
        | none => rw [e] at q; exact q.elim
        | some x =>
          rw [e] at q
          cases x with
          | dat d =>
            obtain ⟨w, a1, a2⟩ := R.dat i d e
            rw [h1] at a1; cases a1
            exact ⟨d, Rp.mono R.lend.1 _ _ a2, q⟩
          | own d =>
            obtain ⟨p, o, a1, a2, a3⟩ := R.own i d e
            rw [h1] at a1; cases a1
            exact ⟨d, (a3.mono R.lend.1).rp (by rw [lend_own e h1]; exact a2.at_), q⟩
    obtain ⟨d, r1, q⟩ := this
    obtain ⟨ds, r2, q⟩ := Rl.seeL R h2 q
    exact ⟨d :: ds, ⟨v, r, rfl, r1, r2⟩, q⟩
def flatS : SV → Bool
  | .dat (.tup ds) => ds.all flatD
  | .dat d => flatD d
  | _ => false
theorem flat_any {d : D} {v : V} (f : flatD d = true) (h : Rp K W d v) : Rp K W' d v := by
  cases d <;> first | exact h | exact absurd f Bool.false_ne_true
theorem flats_any : ∀ {ds : List D} {xs : List V}, ds.all flatD = true → RpL K W ds xs → RpL K W' ds xs
  | [], _, _, h => h
  | d :: ds, _, f, h => by
    obtain ⟨v, r, rfl, h1, h2⟩ := h
    rw [List.all_cons, Bool.and_eq_true] at f
    exact ⟨v, r, rfl, flat_any f.1 h1, flats_any f.2 h2⟩
/-- a flat result, or a tuple of such, behind a call to which objects were lent -/
theorem flat_back {W0 : Wd} (R : Rl K W0 P G σ H) {d : D} {v : V} (f : flatS (.dat d) = true) (r : Rp K W d v) (le : ∀ b o, W.F b = some o → H b = some o) : ∃ W', W0.le W' ∧ Rl K W' P G σ H ∧ Rp K W' d v := by
  cases d <;> first | exact ⟨W0, .refl W0, R, r⟩ | skip
  all_goals first
    | (obtain ⟨a, xs, rfl, s, rr⟩ := r; exact R.tupAt (le _ _ s) (flats_any f rr))
    | exact absurd f Bool.false_ne_true
def dCallB (n : Nat) (S : DSp) (gD : List D → List D → List D) (u : DAT) : DE := fun G Q => u G fun ss G1 => ss.length = n ∧ seeAll G1 ss fun ds => S G1.c (gD ds []) fun r j => flatS r = true ∧ Q r (G1.at j)
theorem dh_callB {j k n : Nat} {st : Stmt} {dd : List D} {ps : List Str} {S : DSp} {x : Str} {p : Pos} {gD : List D → List D → List D} {u : DAT} (h : HasX X j x st dd ps S) (gd : X.A.guards = some []) (hr : Room k X.A) (hb : ∀ f fd, FunT X.K x x st dd f fd → Bnd X.K fd ps n [] gD)
    (ha : PA X (e :: es) (canAT X.K u)) (hj : j ≤ k := by decide) (hg : Gl X x := by rfl) (hdb : (x == ("__debug__" : Str)) = false := by decide) (he : starEach (e :: es) X.env = (false, eval e X.env) :: starEach es X.env := by rfl) (hpl : (backTo pos (starEach es X.env)).any (·.1) = false := by rfl) :
    PE X (.Call (.Name x p) (e :: es) [] pos) (can X.K (dCallB n S gD u)) := by
  obtain ⟨f, fd, m, F, h⟩ := h
  obtain ⟨g, gV, hb, hr2⟩ := (hb f fd F).ex
  refine PE.imp (pg_call h gd (hr.mono hj) m F.kp hb ha hg hdb he hpl) ?_
  rintro σ H Qv ⟨W, P, G, Q, R, t, kk⟩
  refine ⟨W, P, G, _, R, t, fun W1 ss G1 vs H1 l1 R1 r1 ⟨hn, q⟩ => ⟨by rw [RSL.length r1]; exact hn, rfl, ?_⟩⟩
  obtain ⟨ds, rd, q⟩ := R1.seeL r1 q
  obtain ⟨lw, RL⟩ := R1.lend
  obtain ⟨P0, R0, F0, hP⟩ := RL.enter
  refine ⟨lendW W1 G1 σ H1, P0, _, _, _, R0, F0, hr2 X.K _ ds [] vs [] rd rfl, q, fun W3 sv j v H3 l3 R3 r3 ⟨fs, q3⟩ => ?_⟩
  cases sv with
  | dat d =>
    obtain ⟨W5, l5, R5, r5⟩ := flat_back (R1.unlend F0 l3 R3) fs r3 R3.le
    exact kk W5 (.dat d) (G1.at j) v H3 (l1.trans l5) R5 r5 q3
  | _ => cases fs
end

/-! ### min of pairs -/
def encP (p : Int × Int) : PyData := .tuple [.int p.1, .int p.2]
theorem ltP (p q : Int × Int) : PySem.W.dataLt (encP p) (encP q) = decide (p.1 < q.1 ∨ (p.1 = q.1 ∧ p.2 < q.2)) := PySem.W.dataLt_ii ..
theorem minP_fold : ∀ (ps : List (Int × Int)) (p : Int × Int), ∃ m, (ps.map encP).foldl (fun a y => if PySem.W.dataLt y a then y else a) (encP p) = encP m ∧ m ∈ p :: ps ∧ ∀ q ∈ p :: ps, prLe m q
  | [], p => ⟨p, rfl, List.mem_cons_self, fun q hq => by rw [List.mem_singleton] at hq; subst hq; exact .inr ⟨rfl, Int.le_refl _⟩⟩
  | a :: ps, p => by
    rw [List.map_cons, List.foldl_cons, ltP]
    by_cases c : a.1 < p.1 ∨ (a.1 = p.1 ∧ a.2 < p.2)
    · rw [decide_eq_true c, if_pos rfl]
      obtain ⟨m, e, hm, h⟩ := minP_fold ps a
      refine ⟨m, e, List.mem_cons_of_mem _ hm, fun q hq => ?_⟩
      rcases List.mem_cons.mp hq with rfl | hq
      · have := h a List.mem_cons_self
        unfold prLe at this ⊢
        omega
      · exact h q hq
    · rw [decide_eq_false c, if_neg Bool.false_ne_true]
      obtain ⟨m, e, hm, h⟩ := minP_fold ps p
      refine ⟨m, e, ?_, fun q hq => ?_⟩
      · rcases List.mem_cons.mp hm with h | h
        · exact h ▸ List.mem_cons_self
        · exact List.mem_cons_of_mem _ (List.mem_cons_of_mem _ h)
      · rcases List.mem_cons.mp hq with rfl | hq
        · exact h _ List.mem_cons_self
        · rcases List.mem_cons.mp hq with rfl | hq
          · have := h p List.mem_cons_self
            unfold prLe at this ⊢
            omega
          · exact h q (List.mem_cons_of_mem _ hq)
section
variable {prog : Program} {w : World} {A : Around} {E : Value → Shared → Prop} {s : Shared}
theorem min_list_ix {l : Addr} {vs : Array Value} {x : PyData} {xs : List PyData} {as : List Addr} {Q : Value → Shared → Prop} (hh : A.handled = none) (hl : s.heap.IsList l vs) (hr : ReadsAll s.heap vs.toList (x :: xs) as) (ha : PySem.W.AlikeAll (x :: xs)) (hu : A.units + 1 + PyData.depthAll (x :: xs) < cLine)
    (h : ∀ (i : Nat) v h' tk, vs[i]? = some v → (x :: xs).getD i .none = PySem.W.minD x xs → (∀ b o, s.heap.get? b = some o → h'.get? b = some o) → Q v { s with heap := h', toks := tk }) :
    wpAny (model prog w) A (call (.builtin "min") [.ref l]) Q E s := by
  have hn : vs.size = xs.length + 1 := PySem.W.readsAll_len hr
  refine call_min_walkH (PySem.W.iter_listW (A := A.in1) hh hl fun s₂ e W st hfp hw hk => ?_)
  refine ⟨_, _, _, _, _, _, _, s.heap, _, rfl, W, st, hfp, by omega, hw, hk, PySem.W.cmpIn_lt (A := A.in1) hr ha (by show A.units + 1 + _ < _; exact hu), fun v s' hP m => ?_⟩
  obtain ⟨h', tk, rfl, hk'⟩ := PySem.W.moved_old e rfl m
  have e1 : vs.size - 1 = xs.length := by omega
  have e2 := (PySem.W.argBest_fold PySem.W.dataLt PyData.none x xs xs.length (Nat.le_refl _)).2
  rw [List.take_length] at e2
  refine h _ v h' tk hP ?_ hk'
  rw [e1]
  exact e2
end
section
variable {X : Cx} {K : PySem.W.Frag} {W : Wd} {P : Hp} {G : Gm} {σ : St} {H : Hp}
def rMinP (K : PySem.W.Frag) : List V → Hp → VK → Prop := fun vs H Q => ∃ (a : Addr) (xs : List V) (k : V → Int × Int), vs = [V.ref a] ∧ SqL K H a xs ∧ 0 < xs.length ∧ (∀ x ∈ xs, ∃ t, x = V.ref t ∧ H t = some (.tup [.int (k x).1, .int (k x).2])) ∧ ∀ x ∈ xs, (∀ y ∈ xs, prLe (k x) (k y)) → Q x H
theorem reads_pr {pins : List (Addr × Obj)} {s : Shared} (I : Inv X pins σ H s) {t : Addr} {i j : Int} (e : H t = some (.tup [.int i, .int j])) : ∃ as, Reads s.heap (.ref t) (.tuple [.int i, .int j]) as := by
  obtain ⟨its, rv, ⟨o, ho, hc, m, hd⟩, _⟩ := I.tuple (.of e)
  cases rv with
  | cons r1 r2 =>
    cases r2 with
    | cons r2 r3 =>
      cases r3
      obtain ⟨t1, rfl⟩ := r1
      obtain ⟨t2, rfl⟩ := r2
      exact ⟨_, Reads.tuple ho hc hd (.cons (Reads.int _ _) (.cons (Reads.int _ _) .nil))⟩
theorem reads_prs {pins : List (Addr × Obj)} {s : Shared} (I : Inv X pins σ H s) {k : V → Int × Int} : ∀ {xs : List V} {us : List Value}, Vals xs us → (∀ x ∈ xs, ∃ t, x = V.ref t ∧ H t = some (.tup [.int (k x).1, .int (k x).2])) → ∃ as, ReadsAll s.heap us (xs.map fun x => encP (k x)) as
  | [], _, r, _ => by cases r; exact ⟨[], .nil⟩
  | x :: xs, _, r, h => by
    cases r with
    | cons r1 r2 =>
      obtain ⟨t, ex, e⟩ := h x List.mem_cons_self
      obtain ⟨as1, q1⟩ := reads_pr I e
      obtain ⟨as2, q2⟩ := reads_prs I r2 fun y hy => h y (List.mem_cons_of_mem _ hy)
      subst ex
      cases r1
      exact ⟨_, ReadsAll.cons q1 q2⟩
theorem alike_prs (ps : List (Int × Int)) : PySem.W.AlikeAll (ps.map encP) := by
  refine ⟨fun x hx y hy => ?_, fun x hx => ?_⟩
  · obtain ⟨p, _, rfl⟩ := List.mem_map.mp hx
    obtain ⟨q, _, rfl⟩ := List.mem_map.mp hy
    simp [encP, PySem.W.alike, PySem.W.alikeAll]
  · obtain ⟨p, _, rfl⟩ := List.mem_map.mp hx
    intro z; cases z
theorem depth_prs : ∀ ps : List (Int × Int), PyData.depthAll (ps.map encP) ≤ 2
  | [] => by simp [PyData.depthAll]
  | p :: ps => by
    have := depth_prs ps
    simp only [List.map_cons, PyData.depthAll, encP, PyData.depth]
    omega
theorem cr_minP (hc : X.calm = true) (hu : X.A.units + 64 < cLine) : CallR X (.builtin "min") (rMinP X.K) := by
  intro pins s σ H vs us Q I r h
  obtain ⟨a, xs, k, rfl, hs, hne, hx, q⟩ := h
  obtain ⟨its, rv, hl, hz⟩ := I.list hs
  rw [Vals.ref1 r]
  obtain ⟨as, hr⟩ := reads_prs I rv hx
  cases xs with
  | nil => simp at hne
  | cons x xs =>
    have e : ((x :: xs).map fun x => encP (k x)) = encP (k x) :: (xs.map k).map encP := by rw [List.map_cons, List.map_map]; rfl
    rw [e] at hr
    have dp := depth_prs (k x :: xs.map k)
    refine min_list_ix (as := as) (x := encP (k x)) (xs := (xs.map k).map encP) (I.ok.hd hc) hl.isList (by rw [List.toList_toArray]; exact hr) (alike_prs (k x :: xs.map k)) (by rw [List.map_cons] at dp; omega) fun i v h' tk hv em hk => ?_
    obtain ⟨y, hy, ry⟩ : ∃ y, (x :: xs)[i]? = some y ∧ RelV y v := by
      have hv' : its[i]? = some v := by simpa using hv
      cases hxi : (x :: xs)[i]? with
      | none => have := rv.none_of hxi; rw [this] at hv'; cases hv'
      | some y =>
        obtain ⟨u, hu2, ru⟩ := rv.get hxi
        rw [hv'] at hu2; cases hu2
        exact ⟨y, rfl, ru⟩
    refine ⟨y, H, I.kept hk, ry, q y (List.mem_of_getElem? hy) fun z hz2 => ?_⟩
    obtain ⟨m, e1, e2, e3⟩ := minP_fold (xs.map k) (k x)
    have e4 : encP (k y) = encP m := by
      rw [← e1]
      have : (encP (k x) :: (xs.map k).map encP).getD i .none = encP (k y) := by
        rw [← e, List.getD_eq_getElem?_getD, List.getElem?_map, hy]; rfl
      rw [← this, em]
      rfl
    have e5 : k y = m := by
      unfold encP at e4
      simp only [PyData.tuple.injEq, List.cons.injEq, PyData.int.injEq, and_true] at e4
      exact Prod.ext e4.1 e4.2
    rw [e5]
    exact e3 (k z) (by rw [← List.map_cons]; exact List.mem_map_of_mem hz2)
def dMinP : D1 := fun d Q => match d with
  | .lst ds => match prsOf ds with
    | some ps => 0 < ps.length ∧ ∀ m : Int × Int, m ∈ ps → (∀ q ∈ ps, prLe m q) → Q (.dat (prD m))
    | none => False
  | _ => False
theorem cd_minP (hc : X.calm = true) (hu : X.A.units + 64 < cLine) : CallR X (.builtin "min") (canB X.K dMinP) := by
  refine CallR.imp (cr_minP hc hu) ?_
  rintro vs H Qv ⟨W, P, G, σ, v, d, Q, rfl, R, n, t, r⟩
  cases d <;> first | exact False.elim t | skip
  rename_i ds
  have t : (match prsOf ds with | some ps => 0 < ps.length ∧ ∀ m : Int × Int, m ∈ ps → (∀ q ∈ ps, prLe m q) → Q (.dat (prD m)) | none => False) := t
  cases hp : prsOf ds with
  | none => rw [hp] at t; exact t.elim
  | some ps =>
    rw [hp] at t
    obtain ⟨a, xs, rfl, e, rl⟩ := n
    rw [prsOf_eq hp] at rl
    obtain ⟨e1, e2⟩ := prs_at R rl
    have lx : xs.length = ps.length := by rw [← e1, List.length_map]
    refine ⟨a, xs, prAt H, rfl, .inl (.inl e), by rw [lx]; exact t.1, fun x hx => (e2 x hx).2, fun x hx hm => ?_⟩
    refine r.dat R (e2 x hx).1 (t.2 _ (by rw [← e1]; exact List.mem_map_of_mem hx) fun q hq => ?_)
    rw [← e1] at hq
    obtain ⟨y, hy, rfl⟩ := List.mem_map.mp hq
    exact hm y hy
/-- what no one tracks is laid -/
theorem Rl.junk (R : Rl K W P G σ H) {p : Addr} {o : HO} (hp : H p = none) : Rl K W P G σ (upd H p o) := by
  have old : ∀ b u, H b = some u → upd H p o b = some u := fun b u e => by rw [upd_ne (ne_of_none e hp)]; exact e
  exact ⟨R.len, fun b u e => old b u (R.le b u e), fun a h => (by obtain ⟨h1, h2, x, y, z, h3, h4⟩ := R.src a h; exact ⟨h1, h2, x, y, z, old _ _ h3, h4⟩), fun q u e => (by obtain ⟨h1, h2⟩ := R.prot q u e; exact ⟨old _ _ h1, h2⟩), R.dat,
    fun i d e => (by obtain ⟨q, u, h1, h2, h3⟩ := R.own i d e; exact ⟨q, u, h1, ⟨old _ _ h2.at_, h2.f, h2.s, h2.n⟩, h3⟩), R.sep, R.pnt⟩
variable {pos : Pos}
/-- x, y = a, b where one of them is a cell: by a tuple that is dropped -/
theorem ds_parC {x y : Str} {a b : Expr} (i j : Nat) {ta tb : DE} {px py pt : Pos} {kt k2 pt2} (hN : X.N.Nodup) (ha : PE X a (can X.K ta)) (hb : PE X b (can X.K tb)) (hc : X.calm = true := by rfl) (hi : X.N[i]? = some x := by rfl) (hj : X.N[j]? = some y := by rfl) (hij : i ≠ j := by decide)
    (hx : Loc X.env.scope x := by first | exact Or.inl rfl | exact Or.inr rfl) (hfx : X.fn x = true ∨ X.env.scope.names.lookup x = some .local := by first | exact .inl rfl | exact .inr rfl)
    (hy : Loc X.env.scope y := by first | exact Or.inl rfl | exact Or.inr rfl) (hfy : X.fn y = true ∨ X.env.scope.names.lookup y = some .local := by first | exact .inl rfl | exact .inr rfl)
    (hs : swapsWithSole [.Tuple [.Name x px, .Name y py] kt pt] (.Tuple [a, b] k2 pt2) pos.line X.env = pure false := by rfl) (hw : swappedStores [.Tuple [.Name x px, .Name y py] kt pt] (.Tuple [a, b] k2 pt2) X.env = pure none := by rfl)
    (h1 : (assignEach [.Tuple [.Name x px, .Name y py] kt pt] X.env).map (·.2) = [assign (.Tuple [.Name x px, .Name y py] kt pt) X.env] := by rfl)
    (s1 : starEach [a, b] X.env = (false, eval a X.env) :: starEach [b] X.env := by rfl) (s2 : starEach [b] X.env = (false, eval b X.env) :: starEach [] X.env := by rfl)
    (g1 : (assignEach [.Name x px, .Name y py] X.env).map (·.2) = assign (.Name x px) X.env :: (assignEach [.Name y py] X.env).map (·.2) := by rfl) (g2 : (assignEach [.Name y py] X.env).map (·.2) = assign (.Name y py) X.env :: (assignEach [] X.env).map (·.2) := by rfl)
    (hn : (assignEach [.Name x px, .Name y py] X.env).length = 2 := by rfl) (hst : (assignEach [.Name x px, .Name y py] X.env).findIdx? (·.1) = none := by rfl) :
    PS X (.Assign [.Tuple [.Name x px, .Name y py] kt pt] (.Tuple [a, b] k2 pt2) pos) (canS X.K (dPar2 i j ta tb)) := by
  refine PS.imp (ps_asg (pe_tup (pa_cons ha (pa_cons hb pa_nil s2) s1)) (pg_tup hc (pgs_cons (pg_name hN hi hx hfx) (pgs_cons (pg_name hN hj hy hfy) pgs_nil g2) g1) hn hst) hs hw h1) ?_
  rintro D σ H ⟨W, P, G, E, R, t, k⟩
  refine ⟨W, P, G, _, R, t, fun W1 sa G1 u H1 l1 R1 r1 q1 => ?_⟩
  obtain ⟨W2, ca, G2, P2, l2, R2, k2', q2⟩ := R1.park r1 q1
  refine ⟨W2, P2, G2, _, R2, q2, fun W3 sb G3 v H3 l3 R3 r3 q3 => ⟨by show 2 ≤ sizeLine; decide, fun p hp => ?_⟩⟩
  obtain ⟨W4, cb, G4, P4, l4, R4, k4, q4⟩ := R3.park r3 q3
  refine ⟨p, [u, v], rfl, .of upd_same, rfl, u, [v], rfl, v, [], rfl, rfl, ?_⟩
  have R5 := (R4.junk (o := .tup [u, v]) hp).unpark k4 j
  have R6 := R5.unpark (k2'.mono (l3.trans l4)) i
  rw [List.set_comm _ _ hij]
  exact k.nx W4 _ _ _ (((l1.trans l2).trans l3).trans l4) R6 q4
theorem ds_parC3 {x y z : Str} {a b c : Expr} (i j l : Nat) {ta tb tc : DE} {px py pz pt : Pos} {kt k2 pt2} (hN : X.N.Nodup) (ha : PE X a (can X.K ta)) (hb : PE X b (can X.K tb)) (hcc : PE X c (can X.K tc)) (hc : X.calm = true := by rfl) (hi : X.N[i]? = some x := by rfl) (hj : X.N[j]? = some y := by rfl) (hl : X.N[l]? = some z := by rfl) (hij : i ≠ j := by decide) (hil : i ≠ l := by decide) (hjl : j ≠ l := by decide)
    (hx : Loc X.env.scope x := by first | exact Or.inl rfl | exact Or.inr rfl) (hfx : X.fn x = true ∨ X.env.scope.names.lookup x = some .local := by first | exact .inl rfl | exact .inr rfl)
    (hy : Loc X.env.scope y := by first | exact Or.inl rfl | exact Or.inr rfl) (hfy : X.fn y = true ∨ X.env.scope.names.lookup y = some .local := by first | exact .inl rfl | exact .inr rfl)
    (hz : Loc X.env.scope z := by first | exact Or.inl rfl | exact Or.inr rfl) (hfz : X.fn z = true ∨ X.env.scope.names.lookup z = some .local := by first | exact .inl rfl | exact .inr rfl)
    (hs : swapsWithSole [.Tuple [.Name x px, .Name y py, .Name z pz] kt pt] (.Tuple [a, b, c] k2 pt2) pos.line X.env = pure false := by rfl) (hw : swappedStores [.Tuple [.Name x px, .Name y py, .Name z pz] kt pt] (.Tuple [a, b, c] k2 pt2) X.env = pure none := by rfl)
    (h1 : (assignEach [.Tuple [.Name x px, .Name y py, .Name z pz] kt pt] X.env).map (·.2) = [assign (.Tuple [.Name x px, .Name y py, .Name z pz] kt pt) X.env] := by rfl)
    (s1 : starEach [a, b, c] X.env = (false, eval a X.env) :: starEach [b, c] X.env := by rfl) (s2 : starEach [b, c] X.env = (false, eval b X.env) :: starEach [c] X.env := by rfl) (s3 : starEach [c] X.env = (false, eval c X.env) :: starEach [] X.env := by rfl)
    (g1 : (assignEach [.Name x px, .Name y py, .Name z pz] X.env).map (·.2) = assign (.Name x px) X.env :: (assignEach [.Name y py, .Name z pz] X.env).map (·.2) := by rfl) (g2 : (assignEach [.Name y py, .Name z pz] X.env).map (·.2) = assign (.Name y py) X.env :: (assignEach [.Name z pz] X.env).map (·.2) := by rfl)
    (g3 : (assignEach [.Name z pz] X.env).map (·.2) = assign (.Name z pz) X.env :: (assignEach [] X.env).map (·.2) := by rfl)
    (hn : (assignEach [.Name x px, .Name y py, .Name z pz] X.env).length = 3 := by rfl) (hst : (assignEach [.Name x px, .Name y py, .Name z pz] X.env).findIdx? (·.1) = none := by rfl) :
    PS X (.Assign [.Tuple [.Name x px, .Name y py, .Name z pz] kt pt] (.Tuple [a, b, c] k2 pt2) pos) (canS X.K (dPar3 i j l ta tb tc)) := by
  refine PS.imp (ps_asg (pe_tup (pa_cons ha (pa_cons hb (pa_cons hcc pa_nil s3) s2) s1)) (pg_tup hc (pgs_cons (pg_name hN hi hx hfx) (pgs_cons (pg_name hN hj hy hfy) (pgs_cons (pg_name hN hl hz hfz) pgs_nil g3) g2) g1) hn hst) hs hw h1) ?_
  rintro D σ H ⟨W, P, G, E, R, t, k⟩
  refine ⟨W, P, G, _, R, t, fun W1 sa G1 u H1 l1 R1 r1 q1 => ?_⟩
  obtain ⟨W2, ca, G2, P2, l2, R2, k2', q2⟩ := R1.park r1 q1
  refine ⟨W2, P2, G2, _, R2, q2, fun W3 sb G3 v H3 l3 R3 r3 q3 => ?_⟩
  obtain ⟨W4, cb, G4, P4, l4, R4, k4, q4⟩ := R3.park r3 q3
  refine ⟨W4, P4, G4, _, R4, q4, fun W5 sc G5 w H5 l5 R5 r5 q5 => ⟨by show 3 ≤ sizeLine; decide, fun p hp => ?_⟩⟩
  obtain ⟨W6, cc, G6, P6, l6, R6, k6, q6⟩ := R5.park r5 q5
  refine ⟨p, [u, v, w], rfl, .of upd_same, rfl, u, [v, w], rfl, v, [w], rfl, w, [], rfl, rfl, ?_⟩
  have R7 := (R6.junk (o := .tup [u, v, w]) hp).unpark k6 l
  have R8 := R7.unpark (k4.mono (l5.trans l6)) j
  have R9 := R8.unpark (k2'.mono (((l3.trans l4).trans l5).trans l6)) i
  have e : ((σ.set i (some u)).set j (some v)).set l (some w) = ((σ.set l (some w)).set j (some v)).set i (some u) := by
    rw [List.set_comm _ _ (Ne.symm hjl |> Ne.symm), List.set_comm _ _ hil, List.set_comm _ _ hij]
  rw [e]
  exact k.nx W6 _ _ _ (((((l1.trans l2).trans l3).trans l4).trans l5).trans l6) R9 q6
end

variable {X : Cx} {P : Hp} {pos : Pos}
/-- {"a": v} -/
def dDspS (tk tv : DE) : DE := fun G Q => tk G fun sk G1 => frz G1 sk fun b G2 => tv G2 fun sv G3 => frz G3 sv fun dv G4 => match b with
  | .str x => Q (.new (.dK [(.inr x, dv)])) G4
  | _ => False
theorem de_dspS {k v : Expr} {tk tv : DE} (hk : PE X k (can X.K tk)) (hv : PE X v (can X.K tv)) : PE X (.Dict [some k] [v] pos) (can X.K (dDspS tk tv)) := by
  refine PE.imp (pe_disp (pps_cons hk hv pps_nil) rfl rfl (by simp) (by simp)) ?_
  rintro σ H Qv ⟨W, P, G, Q, R, t, kk⟩ p hp
  obtain ⟨nP, nF, Rg⟩ := R.guard (o := .dK []) hp
  refine ⟨W, _, G, _, Rg, t, fun W1 sk G1 x H1 l1 R1 r1 q1 => ?_⟩
  obtain ⟨W2, b, G2, l2, R2, r2, q2⟩ := R1.frz r1 q1
  refine ⟨W2, _, G2, _, R2, q2, fun W3 sv G3 y H3 l3 R3 r3 q3 => ?_⟩
  obtain ⟨W4, dv, G4, l4, R4, r4, q4⟩ := R3.frz r3 q3
  cases b <;> first | exact False.elim q4 | skip
  rename_i z
  obtain rfl : x = .str z := r2
  have q4 : Q (.new (.dK [(.inr z, dv)])) G4 := q4
  obtain ⟨hp4, R5⟩ := R4.reguard (o' := .dK [(.inr z, y)])
  obtain ⟨R6, r6⟩ := R5.unguard (o := .dK [(.inr z, y)]) (d := .dK [(.inr z, dv)]) nP (show RpK X.K W4 [(.inr z, dv)] [(.inr z, y)] from ⟨y, [], rfl, r4, rfl⟩)
  exact ⟨hp4, [(.inr z, y)], rfl, by simp, kk W4 _ G4 _ _ (((l1.trans l2).trans l3).trans l4) R6 r6 q4⟩
section
variable {K : PySem.W.Frag} {j k n : Nat} {st : Stmt} {dd : List D} {ps ks : List Str} {S : DSp} {x : Str} {p : Pos} {e : Expr} {kws : List Keyword} {gD : List D → List D → List D} {u : DAT}
theorem dk_nilT : PK X [] (canAT X.K dNilT) := by
  refine ⟨fun pos pins s σ H Qv I ⟨W, P, G, Q, R, t, k⟩ => pk_nil.run pos pins s σ H Qv I ?_⟩
  exact k W [] G [] H (.refl W) R rfl t
theorem dk_consT {nm : Option Str} {kpos : Pos} {t : DE} {u : DAT} (h : PE X e (can X.K t)) (h2 : PK X kws (canAT X.K u)) : PK X (⟨nm, e, kpos⟩ :: kws) (canAT X.K (dConsT t u)) := by
  refine ⟨fun pos pins s σ H Qv I ⟨W, P, G, Q, R, t, k⟩ => (pk_cons h h2).run pos pins s σ H Qv I ?_⟩
  refine ⟨W, P, G, _, R, t, fun W1 sv G1 v H1 l1 R1 r1 q1 => ?_⟩
  obtain ⟨W2, l2, R2, r2⟩ := keep_ok R1 r1
  exact ⟨W2, P, G1, _, R2, q1, fun W3 ss G3 vs H3 l3 R3 r3 q3 => k W3 (keepS sv :: ss) G3 (v :: vs) H3 ((l1.trans l2).trans l3) R3 ⟨v, vs, rfl, RS.mono l3 r2, r3⟩ q3⟩
/-- a call by keywords to which own objects are lent -/
def dCallKB (m : Nat) (S : DSp) (gD : List D → List D → List D) (u : DAT) : DE := fun G Q => u G fun ss G1 => ss.length = m ∧ seeAll G1 ss fun ds => S G1.c (gD [] ds) fun r j => flatS r = true ∧ Q r (G1.at j)
theorem dh_callKB0 (h : HasX X j x st dd ps S) (gd : X.A.guards = some []) (hr : Room k X.A) (ks : List Str) (hb : ∀ f fd, FunT X.K x x st dd f fd → Bnd X.K fd ps 0 ks gD)
    (hw : PK X kws (canAT X.K u)) (hj : j ≤ k := by decide) (hg : Gl X x := by rfl) (hall : (backToKw pos (keywordEach kws X.env)).all (·.1.isSome) = true := by rfl) (hks : (backToKw pos (keywordEach kws X.env)).filterMap (·.1) = ks := by rfl)
    (hdb : (x == ("__debug__" : Str)) = false := by decide) (hpl : ((backTo pos (starEach [] X.env)).any (·.1) || (backToKw pos (keywordEach kws X.env)).any (·.1.isNone)) = false := by rfl) :
    PE X (.Call (.Name x p) [] kws pos) (can X.K (dCallKB ks.length S gD u)) := by
  obtain ⟨f, fd, m, F, h⟩ := h
  obtain ⟨g, gV, hb, hr2⟩ := (hb f fd F).ex
  refine PE.imp (pg_callK0 h gd (hr.mono hj) m F.kp hb hw hg hall hks hdb hpl) ?_
  rintro σ H Qv ⟨W, P, G, Q, R, t, kk⟩
  refine ⟨W, P, G, _, R, t, fun W1 ss G1 vs H1 l1 R1 r1 ⟨hn, q⟩ => ⟨rfl, by rw [RSL.length r1]; exact hn, ?_⟩⟩
  obtain ⟨ds, rd, q⟩ := R1.seeL r1 q
  obtain ⟨lw, RL⟩ := R1.lend
  obtain ⟨P0, R0, F0, hP⟩ := RL.enter
  refine ⟨lendW W1 G1 σ H1, P0, _, _, _, R0, F0, hr2 X.K _ [] ds [] vs rfl rd, q, fun W3 sv j v H3 l3 R3 r3 ⟨fs, q3⟩ => ?_⟩
  cases sv with
  | dat d =>
    obtain ⟨W5, l5, R5, r5⟩ := flat_back (R1.unlend F0 l3 R3) fs r3 R3.le
    exact kk W5 (.dat d) (G1.at j) v H3 (l1.trans l5) R5 r5 q3
  | _ => cases fs
end
/-! ### sorted(set(xs)), xs pairs -/
theorem prs_ks {K : PySem.W.Frag} {W : Wd} : ∀ {ps : List (Int × Int)} {xs : List V}, RpL K W (ps.map prD) xs → ∃ ks : List (Addr × List Int), xs = ks.map (fun p => V.ref p.1) ∧ ks.map (·.2) = ps.map (fun p => [p.1, p.2]) ∧ ∀ p ∈ ks, ∃ q ∈ ps, p.2 = [q.1, q.2] ∧ Rp K W (prD q) (.ref p.1)
  | [], _, h => by obtain rfl : _ = [] := h; exact ⟨[], rfl, rfl, fun p hp => (by cases hp)⟩
  | q :: ps, _, h => by
    obtain ⟨v, r, rfl, h1, h2⟩ := h
    obtain ⟨ks, rfl, e2, e3⟩ := prs_ks h2
    have h1' := h1
    obtain ⟨a, ys, rfl, _, _⟩ := h1'
    refine ⟨(a, [q.1, q.2]) :: ks, rfl, by rw [List.map_cons, List.map_cons, e2], fun p hp => ?_⟩
    rcases List.mem_cons.mp hp with rfl | hp
    · exact ⟨q, List.mem_cons_self, rfl, h1⟩
    · obtain ⟨q', a1, a2, a3⟩ := e3 p hp
      exact ⟨q', List.mem_cons_of_mem _ a1, a2, a3⟩
theorem pr_sq {K : PySem.W.Frag} {W : Wd} {G : Gm} {σ : St} {H : Hp} (R : Rl K W P G σ H) {q : Int × Int} {a : Addr} (h : Rp K W (prD q) (.ref a)) : SqT K H a ([q.1, q.2].map V.int) := by
  obtain ⟨b, ys, e, s, r⟩ := R.rn h
  cases e
  obtain ⟨v, r2, rfl, h1, h2⟩ := r
  obtain ⟨w, r3, rfl, h3, h4⟩ := h2
  obtain rfl : r3 = [] := h4
  obtain rfl : v = .int q.1 := h1
  obtain rfl : w = .int q.2 := h3
  exact .of s
def sortSetK (d : D) (k : List (Int × Int) → Prop) : Prop := match d with
  | .lst ds => match prsOf ds with
    | some ps => ps.length < 64 ∧ (∀ p ∈ ps, (0 ≤ p.1 ∧ p.1 < 10 ^ 40) ∧ (0 ≤ p.2 ∧ p.2 < 10 ^ 40)) ∧ ∀ qs : List (Int × Int), qs.Pairwise (fun p q => p.1 < q.1 ∨ (p.1 = q.1 ∧ p.2 < q.2)) → (∀ p, p ∈ qs ↔ p ∈ ps) → k qs
    | none => False
  | _ => False
def dSortSet (ta : DE) : DE := fun G Q => ta G fun sv G1 => frz G1 sv fun d G2 => sortSetK d fun qs => Q (.new (.lst (qs.map prD))) G2
theorem de_sortSet {e : Expr} {ta : DE} {p p2 pos2 : Pos} (hc : X.calm = true) (hu : X.A.units + 64 < cLine) (hm : X.mg "sorted" = none) (hm2 : X.mg "set" = none) (he : PE X e (can X.K ta)) (hg : Gl X "sorted" := by rfl) (hg2 : Gl X "set" := by rfl)
    (hs : starEach (e :: []) X.env = (false, eval e X.env) :: starEach [] X.env := by rfl) (hpl : (backTo pos2 (starEach [] X.env)).any (·.1) = false := by rfl)
    (hs2 : starEach [.Call (.Name "set" p2) [e] [] pos2] X.env = (false, eval (.Call (.Name "set" p2) [e] [] pos2) X.env) :: starEach [] X.env := by rfl) (hpl2 : (backTo pos (starEach [] X.env)).any (·.1) = false := by rfl) :
    PE X (.Call (.Name "sorted" p) [.Call (.Name "set" p2) [e] [] pos2] [] pos) (can X.K (dSortSet ta)) := by
  have h1 := pe_callTy (p := p2) (pos := pos2) (cr_setOfT (X := X) hc hu) hg2 hm2 rfl (pa_cons he pa_nil hs) (by decide) (by decide) hs hpl
  refine PE.imp (pe_callB (p := p) (pos := pos) (cr_sortedT (X := X) hc) hg hm rfl (pa_cons h1 pa_nil hs2) (by decide) (by decide) hs2 hpl2) ?_
  rintro σ H Qv ⟨W, P, G, Q, R, t, kk⟩
  refine ⟨W, P, G, _, R, t, fun W1 sv G1 v H1 l1 R1 r1 q1 => ?_⟩
  obtain ⟨W2, d, G2, l2, R2, r2, q2⟩ := R1.frz r1 q1
  cases d <;> first | exact False.elim q2 | skip
  rename_i ds
  have q2 : (match prsOf ds with | some ps => ps.length < 64 ∧ (∀ p ∈ ps, (0 ≤ p.1 ∧ p.1 < 10 ^ 40) ∧ (0 ≤ p.2 ∧ p.2 < 10 ^ 40)) ∧ ∀ qs : List (Int × Int), qs.Pairwise (fun p q => p.1 < q.1 ∨ (p.1 = q.1 ∧ p.2 < q.2)) → (∀ p, p ∈ qs ↔ p ∈ ps) → Q (.new (.lst (qs.map prD))) G2 | none => False) := q2
  cases hp : prsOf ds with
  | none => rw [hp] at q2; exact q2.elim
  | some ps =>
    rw [hp] at q2
    obtain ⟨n1, n2, q3⟩ := q2
    have r3 := R2.rn r2
    rw [prsOf_eq hp] at r3
    obtain ⟨l, ys, rfl, e2, rl⟩ := r3
    obtain ⟨ks, rfl, k2, k3⟩ := prs_ks rl
    have lk : ks.length = ps.length := by have := congrArg List.length k2; simpa using this
    refine ⟨l, ks, rfl, .of e2, fun p hp => ?_, by omega, fun a L hn sub all => ?_⟩
    · obtain ⟨q, _, a2, a3⟩ := k3 p hp
      rw [a2]; exact pr_sq R2 a3
    have R3 := R2.junk (o := SetTO X.prog X.w a L) hn
    refine ⟨a, L, 2, 10 ^ 40, rfl, upd_same, fun p hp => ?_, by decide, fun p hp => ?_, fun L' z pm nd fw pw hz => ?_⟩
    · obtain ⟨q, _, a2, a3⟩ := k3 p (sub p hp)
      rw [a2]; exact pr_sq R3 a3
    · obtain ⟨q, a1, a2, a3⟩ := k3 p (sub p hp)
      have := n2 q a1
      refine ⟨by rw [a2]; rfl, fun m hm => ?_⟩
      rw [a2] at hm
      simp only [List.mem_cons, List.not_mem_nil, or_false] at hm
      rcases hm with rfl | rfl <;> omega
    have inK : ∀ p ∈ L', ∃ q ∈ ps, p.2 = [q.1, q.2] ∧ Rp X.K W2 (prD q) (.ref p.1) := fun p hp => k3 p (sub p (pm.mem_iff.mp hp))
    have rp : ∀ {M : List (Addr × List Int)}, (∀ p ∈ M, ∃ q ∈ ps, p.2 = [q.1, q.2] ∧ Rp X.K W2 (prD q) (.ref p.1)) → RpL X.K W2 ((M.map fun p => (p.2.getD 0 0, p.2.getD 1 0)).map prD) (M.map fun q => V.ref q.1) := by
      intro M
      induction M with
      | nil => exact fun _ => rfl
      | cons p M ih =>
        intro h
        obtain ⟨q, _, a2, a3⟩ := h p List.mem_cons_self
        refine ⟨_, _, rfl, ?_, ih fun x hx => h x (List.mem_cons_of_mem _ hx)⟩
        show Rp X.K W2 (prD (p.2.getD 0 0, p.2.getD 1 0)) (V.ref p.1)
        rw [a2]; exact a3
    have rpL := rp inK
    have ro : ∀ p, RO X.K W2 p (.lst (L'.map fun q => V.ref q.1)) (.lst ((L'.map fun p : Addr × List Int => ((p.2.getD 0 0, p.2.getD 1 0) : Int × Int)).map prD)) := fun _ => rpL
    obtain ⟨R4, r4⟩ := R3.alloc hz (ro _)
    refine kk W2 _ G2 _ _ (l1.trans l2) R4 r4 (q3 _ ?_ ?_)
    · rw [List.pairwise_map]
      have nd2 := List.pairwise_map.mp nd
      have both := (pw.and nd2).imp_of_mem (R := _) (S := fun p q : Addr × List Int => p.2.getD 0 0 < q.2.getD 0 0 ∨ (p.2.getD 0 0 = q.2.getD 0 0 ∧ p.2.getD 1 0 < q.2.getD 1 0)) fun {p q} hp hq h => by
        obtain ⟨x, a1, a2, _⟩ := inK p hp
        obtain ⟨y, b1, b2, _⟩ := inK q hq
        have c1 := n2 x a1
        have c2 := n2 y b1
        obtain ⟨h1, h2⟩ := h
        rw [a2, b2] at h1 h2 ⊢
        have e1 : TS.code (10 ^ 40) [x.1, x.2] = x.1 * 10 ^ 40 + x.2 := by simp [TS.code]
        have e2 : TS.code (10 ^ 40) [y.1, y.2] = y.1 * 10 ^ 40 + y.2 := by simp [TS.code]
        rw [e1, e2] at h1
        show x.1 < y.1 ∨ (x.1 = y.1 ∧ x.2 < y.2)
        have ne : ¬ (x.1 = y.1 ∧ x.2 = y.2) := fun z => h2 (by rw [z.1, z.2])
        omega
      exact both
    · intro p
      rw [List.mem_map]
      constructor
      · rintro ⟨k, hk, rfl⟩
        obtain ⟨q, a1, a2, _⟩ := inK k hk
        rw [a2]; exact a1
      · intro h
        have : [p.1, p.2] ∈ ks.map (·.2) := by rw [k2]; exact List.mem_map.mpr ⟨p, h, rfl⟩
        obtain ⟨k, hk, ek⟩ := List.mem_map.mp this
        obtain ⟨k', hk', ek'⟩ := List.mem_map.mp (all k hk)
        exact ⟨k', pm.mem_iff.mpr hk', by rw [ek', ek]; rfl⟩
/-! ### the least and the greatest key of a dict with ints as keys, locked or not -/
theorem int_at {P0 : Program} {w : World} {ws : List (Key × Value)} {ns : List Int} (h : ws.map (·.1) = ns.map Sum.inl) (i : Nat) (v : Value) : (∃ k x, ws[i]? = some (k, x) ∧ (mixKind P0 w).is k v = true) → ∃ t, v = Value.int (ns.getD i 0) t := by
  rintro ⟨k, x, g, hv⟩
  have e : (ns.map (Sum.inl : Int → Key))[i]? = some k := by rw [← h, List.getElem?_map, g]; rfl
  rw [List.getElem?_map] at e
  cases z : ns[i]? with
  | none => rw [z] at e; cases e
  | some m =>
    rw [z] at e
    obtain rfl : Sum.inl m = k := Option.some.inj e
    obtain ⟨t, e2⟩ := Value.isInt_shape (k := m) (v := v) hv
    exact ⟨t, by rw [e2, List.getD_eq_getElem?_getD, z]; rfl⟩
def rExt (ok : Int → Int → Prop) : List V → Hp → VK → Prop := fun args H Q => ∃ (d : Addr) (kvs : List (Key × V)) (ns : List Int), args = [V.ref d] ∧ Rd H d (.dK kvs) ∧ kvs.map (·.1) = ns.map Sum.inl ∧ ns ≠ [] ∧ ∀ m, m ∈ ns → (∀ j ∈ ns, ok m j) → Q (.int m) H
theorem cr_maxD (hc : X.calm = true) : CallR X (.builtin "max") (rExt fun m j => j ≤ m) := by
  rintro pins s σ H args us Q I r ⟨d, kvs, ns, rfl, hd, hk, hn, q⟩
  rw [Vals.ref1 r]
  obtain ⟨-, sysm, ws, kv, dof⟩ := dk_rd I.hok hd
  obtain ⟨epoch, at_⟩ := dof.dictAt
  have keysW : ws.map (·.1) = ns.map Sum.inl := by rw [← hk]; exact (KV.keys kv).symm
  have lenW : ws.length = ns.length := by simpa using congrArg List.length keysW
  have pos : 0 < ns.length := List.length_pos_iff.mpr hn
  have isz : ∀ (i : Nat) (v : Value), (∃ k x, ws[i]? = some (k, x) ∧ (mixKind X.prog X.w).is k v = true) → ∃ t, v = Value.int (ns.getD i 0) t := int_at keysW
  have small : d < s.heap.objs.size := by obtain ⟨_, _, g, _⟩ := id at_; exact Heap.lt_size g
  refine call_max_walk (wpAny_pyIter_dict (knd := mixKind X.prog X.w) sysm at_ ⟨s.heap.objs.size, [s.heap.objs.size, d], [s.heap.objs.size], ws.length, _, _, fun i j => decide (ns.getD i 0 > ns.getD j 0), rfl, Walks.dictKeys (knd := mixKind X.prog X.w) (A := X.A.in1) (I.ok.hd hc) s.heap.objs.size d (Nat.ne_of_lt small) ws epoch, ⟨⟨_, Heap.get?_push_size _ rfl, rfl, rfl⟩, at_.keep fun _ _ g => Heap.get?_push_of_some _ g⟩, ?_, by omega, CmpOf.ints_gt (fun i => ns.getD i 0) isz, ?_⟩)
  · intro b hb
    have hb : b = s.heap.objs.size ∨ b = d := by simpa using hb
    show b < (s.heap.push _).objs.size
    rw [Heap.size_push]
    rcases hb with rfl | rfl
    · exact Nat.lt_succ_self _
    · exact Nat.lt_succ_of_lt small
  · intro v h' tk hP keep
    obtain ⟨t, rfl⟩ := isz _ v hP
    obtain ⟨c1, c2⟩ := argBest_gt (fun i => ns.getD i 0) (ws.length - 1)
    generalize argBest (fun i j => decide (ns.getD i 0 > ns.getD j 0)) (ws.length - 1) = w at c1 c2
    refine ⟨.int (ns.getD w 0), H, I.kept (t' := tk) fun b u g => keep b u (fun z => ?_) (Heap.get?_push_of_some _ g), ⟨t, rfl⟩, q _ ?_ fun j hj => ?_⟩
    · have e1 : b = s.heap.objs.size := by simpa using z
      exact absurd (e1 ▸ Heap.lt_size g) (Nat.lt_irrefl _)
    · have hw : w < ns.length := by omega
      rw [List.getD_eq_getElem?_getD, List.getElem?_eq_getElem hw]
      exact List.getElem_mem hw
    · obtain ⟨i, hi, rfl⟩ := List.mem_iff_getElem.mp hj
      have := c2 i (by omega)
      simpa only [List.getD_eq_getElem?_getD, List.getElem?_eq_getElem hi, Option.getD_some] using this
theorem cr_minD (hc : X.calm = true) : CallR X (.builtin "min") (rExt fun m j => m ≤ j) := by
  rintro pins s σ H args us Q I r ⟨d, kvs, ns, rfl, hd, hk, hn, q⟩
  rw [Vals.ref1 r]
  obtain ⟨-, sysm, ws, kv, dof⟩ := dk_rd I.hok hd
  obtain ⟨epoch, at_⟩ := dof.dictAt
  have keysW : ws.map (·.1) = ns.map Sum.inl := by rw [← hk]; exact (KV.keys kv).symm
  have lenW : ws.length = ns.length := by simpa using congrArg List.length keysW
  have pos : 0 < ns.length := List.length_pos_iff.mpr hn
  have isz : ∀ (i : Nat) (v : Value), (∃ k x, ws[i]? = some (k, x) ∧ (mixKind X.prog X.w).is k v = true) → ∃ t, v = Value.int (ns.getD i 0) t := int_at keysW
  have small : d < s.heap.objs.size := by obtain ⟨_, _, g, _⟩ := id at_; exact Heap.lt_size g
  refine call_min_walk (wpAny_pyIter_dict (knd := mixKind X.prog X.w) sysm at_ ⟨s.heap.objs.size, [s.heap.objs.size, d], [s.heap.objs.size], ws.length, _, _, fun i j => decide (ns.getD i 0 < ns.getD j 0), rfl, Walks.dictKeys (knd := mixKind X.prog X.w) (A := X.A.in1) (I.ok.hd hc) s.heap.objs.size d (Nat.ne_of_lt small) ws epoch, ⟨⟨_, Heap.get?_push_size _ rfl, rfl, rfl⟩, at_.keep fun _ _ g => Heap.get?_push_of_some _ g⟩, ?_, by omega, CmpOf.ints_lt (fun i => ns.getD i 0) isz, ?_⟩)
  · intro b hb
    have hb : b = s.heap.objs.size ∨ b = d := by simpa using hb
    show b < (s.heap.push _).objs.size
    rw [Heap.size_push]
    rcases hb with rfl | rfl
    · exact Nat.lt_succ_self _
    · exact Nat.lt_succ_of_lt small
  · intro v h' tk hP keep
    obtain ⟨t, rfl⟩ := isz _ v hP
    obtain ⟨c1, c2⟩ := argBest_lt (fun i => ns.getD i 0) (ws.length - 1)
    generalize argBest (fun i j => decide (ns.getD i 0 < ns.getD j 0)) (ws.length - 1) = w at c1 c2
    refine ⟨.int (ns.getD w 0), H, I.kept (t' := tk) fun b u g => keep b u (fun z => ?_) (Heap.get?_push_of_some _ g), ⟨t, rfl⟩, q _ ?_ fun j hj => ?_⟩
    · have e1 : b = s.heap.objs.size := by simpa using z
      exact absurd (e1 ▸ Heap.lt_size g) (Nat.lt_irrefl _)
    · have hw : w < ns.length := by omega
      rw [List.getD_eq_getElem?_getD, List.getElem?_eq_getElem hw]
      exact List.getElem_mem hw
    · obtain ⟨i, hi, rfl⟩ := List.mem_iff_getElem.mp hj
      have := c2 i (by omega)
      simpa only [List.getD_eq_getElem?_getD, List.getElem?_eq_getElem hi, Option.getD_some] using this
def keysI : List (Key × D) → Option (List Int)
  | [] => some []
  | (.inl i, _) :: es => match keysI es with
    | some ns => some (i :: ns)
    | none => none
  | _ :: _ => none
theorem keysI_eq {K : PySem.W.Frag} {W : Wd} : ∀ {es : List (Key × D)} {kvs : List (Key × V)} {ns : List Int}, keysI es = some ns → RpK K W es kvs → kvs.map (·.1) = ns.map Sum.inl
  | [], _, _, h, r => by
    obtain rfl : _ = [] := r
    cases h; rfl
  | (k, d) :: es, _, ns, h, r => by
    obtain ⟨v, r2, rfl, _, h2⟩ := r
    cases k with
    | inr x => cases h
    | inl i =>
      cases e : keysI es with
      | none => rw [keysI, e] at h; cases h
      | some ms =>
        rw [keysI, e] at h
        cases h
        rw [List.map_cons, List.map_cons, keysI_eq e h2]
def dExt (ok : Int → Int → Prop) : D1
  | .dK es, Q => match keysI es with
    | some ns => ns ≠ [] ∧ ∀ m, m ∈ ns → (∀ j ∈ ns, ok m j) → Q (.dat (.int m))
    | none => False
  | _, _ => False
def dMaxD : D1 := dExt fun m j => j ≤ m
def dMinD : D1 := dExt fun m j => m ≤ j
theorem ext_ok {ok : Int → Int → Prop} {vs : List V} {H : Hp} {Qv : VK} (h : canB X.K (dExt ok) vs H Qv) : rExt ok vs H Qv := by
  obtain ⟨W, P, G, σ, v, d, Q, rfl, R, n, t, r⟩ := h
  cases d <;> first | exact False.elim t | skip
  rename_i es
  have t : (match keysI es with | some ns => ns ≠ [] ∧ ∀ m, m ∈ ns → (∀ j ∈ ns, ok m j) → Q (.dat (.int m)) | none => False) := t
  cases hk : keysI es with
  | none => rw [hk] at t; exact t.elim
  | some ns =>
    rw [hk] at t
    obtain ⟨a, kvs, rfl, e, rk⟩ := n
    exact ⟨a, kvs, ns, rfl, e, keysI_eq hk rk, t.1, fun m h1 h2 => r.int R (t.2 m h1 h2)⟩
theorem cd_maxD (hc : X.calm = true) : CallR X (.builtin "max") (canB X.K dMaxD) := CallR.imp (cr_maxD hc) fun _ _ _ h => ext_ok h
theorem cd_minD (hc : X.calm = true) : CallR X (.builtin "min") (canB X.K dMinD) := CallR.imp (cr_minD hc) fun _ _ _ h => ext_ok h
/-! ### divmod by any number but 0 -/
theorem call_divmodF : CallR X (.builtin "divmod") (fun xs H Q => ∃ i j, xs = [.int i, .int j] ∧ (j ≠ 0 ∧ j.natAbs.log2 < 9000) ∧ ∀ p, H p = none → Q (.ref p) (upd H p (.tup [.int (i.fdiv j), .int (i.fmod j)]))) := by
  intro pins s σ H xs us Q I r h
  obtain ⟨i, j, rfl, ⟨h1, h2⟩, q⟩ := h
  obtain ⟨u, w', rfl, ⟨t, rfl⟩, ⟨t', rfl⟩⟩ := vals2 r
  have hn : H s.heap.objs.size = none := I.hok.fresh (Nat.le_refl _)
  refine divmod_int h1 ⟨.ref s.heap.objs.size, _, ?_, rfl, q _ hn⟩ (.inl (PyProof.noPylong_of_log2 h2))
  refine I.laid (fun b o e => Heap.get?_push_of_some _ e) (Nat.le_refl _) ⟨by simp only [List.length_cons, List.length_nil]; rw [sizeLine_eq]; decide, [.int (i.fdiv j) s.toks, .int (i.fmod j) (s.toks + 1)], .cons ⟨_, rfl⟩ (.cons ⟨_, rfl⟩ .nil), ?_⟩
  exact ⟨_, Heap.get?_push_size s.heap rfl, rfl, 0, rfl⟩
def dDivmodF : List D → (SV → Prop) → Prop := fun ds Q => on2 (fun i j => (j ≠ 0 ∧ j.natAbs.log2 < 9000) ∧ Q (.dat (.tup [.int (i.fdiv j), .int (i.fmod j)]))) ds
theorem cd_divmodF : CallR X (.builtin "divmod") (canC X.K dDivmodF) := by
  refine CallR.imp (call_divmodF (X := X)) ?_
  rintro vs H Qv ⟨W, P, G, σ, ds, Q, R, n, t, r⟩
  obtain ⟨i, j, rfl, h, q⟩ := two_ints n t
  exact ⟨i, j, rfl, h, fun p hp => r.newT R hp (ds := [.int (i.fdiv j), .int (i.fmod j)]) ⟨_, _, rfl, rfl, _, _, rfl, rfl, rfl⟩ q⟩

/-! sorted(r), r a thing that is walked: what the walk gives is put into a new list, and that is sorted -/
section
variable {prog : Program} {w : World} {A : Around} {E : Value → Shared → Prop} {s : Shared}
def FreshList (s : Shared) (out : List Value) (h : Heap) (q : Addr) : Prop := ∃ h1 : Heap, (∀ b o, s.heap.get? b = some o → h1.get? b = some o) ∧ (∀ b o, h1.get? b = some o → h.get? b = some o) ∧ h1.objs.size ≤ q ∧ ∃ e, h.get? q = some (seqObj "list" out.toArray e)
theorem sorted_src {T : String} {r d : Addr} {n : Nat} {P : Nat → Value → Prop} {OK : Heap → Prop} {ltv : Value → Value → Bool} {Q : Value → Shared → Prop} (K : PySem.W.KdlSrc prog w T r d n P OK) (hh : A.handled = none) (hok : OK s.heap) (hn : n ≤ sizeLine) (O : SrtO.Swo ltv)
    (hS : ∀ (h₁ : Heap) (tk : Nat) (acc : Array Value) (a : Addr), (∀ b o, s.heap.get? b = some o → h₁.get? b = some o) → ItemsOf P acc n → 2 ≤ acc.toList.length → h₁.get? a = some (seqObj "list" acc.toList.toArray 0) → SrtO.SortableO prog w A.in1.in1 { s with heap := h₁, toks := tk } a acc.toList ltv)
    (h : ∀ (h' : Heap) (tk : Nat) (acc : Array Value) (out : List Value) (q : Addr), ItemsOf P acc n → SrtO.Srtd ltv out → SrtO.Stb ltv out acc.toList → FreshList s out h' q → Q (.ref q) { s with heap := h', toks := tk }) : wpAny (model prog w) A (call (.builtin "sorted") [.ref r]) Q E s := by
  refine Calls.call_function_entry kind_sorted plain_sorted entry_sorted (args_sorted1 _) ?_
  unfold Builtin.«sorted»
  refine wpAny_bind (m := checkCount "sorted" 1 1 _) (wpAny_pure ?_)
  refine wpAny_bind (PySem.W.kdu_collect (A := A.in1) K hh hok hn fun h1 tk acc hk hi => ?_)
  have len : acc.toList.length ≤ sizeLine := by rw [Array.length_toList, hi.1]; exact hn
  have at1 : (h1.push (seqObj "list" acc.toList.toArray 0)).get? h1.objs.size = some (seqObj "list" acc.toList.toArray 0) := Heap.get?_push_size _ rfl
  have old1 : ∀ b o, s.heap.get? b = some o → (h1.push (seqObj "list" acc.toList.toArray 0)).get? b = some o := fun b o e => Heap.get?_push_of_some _ (hk b o e)
  refine wpAny_bind (wpAny_newList ?_ len)
  show wpAny _ _ _ _ _ { s with heap := h1.push (seqObj "list" acc.toList.toArray 0), toks := tk }
  refine wpAny_bind (wpAny_holding (wpAny_call_entry slot_list_sort ⟨_, at1, rfl⟩ entry_list_sort (SrtO.list_sort_ord (s := { s with heap := h1.push (seqObj "list" acc.toList.toArray 0), toks := tk }) O at1 len (fun h2 => hS _ tk acc _ old1 hi h2 at1) fun out o1 o2 => ⟨_, rfl, ?_⟩) (args_list_sort _)))
  obtain ⟨e', he'⟩ := sortedHeap_at (vs := acc.toList) (out := out.toArray) at1
  refine wpAny_pure ⟨_, rfl, h _ tk acc out _ hi o1 o2 ⟨h1, hk, fun b o e => ?_, Nat.le_refl _, e', he'⟩⟩
  have lt1 := Heap.lt_size e
  rw [sortedHeap_old (Nat.ne_of_lt lt1) (by rw [size_push']; exact Nat.lt_succ_of_lt lt1)]
  exact Heap.get?_push_of_some _ e
end
section
variable {X : Cx} {K : PySem.W.Frag} {W : Wd} {P : Hp} {G : Gm} {σ : St} {H : Hp}
theorem key_ints : ∀ {us : List Value} {ks : List Int} {vs : List (Key × Value)}, vs.map (·.1) = ks.map Sum.inl → us.length = vs.length → (∀ (j : Nat) (v : Value), us[j]? = some v → ∃ (k : Key) (x : Value), vs[j]? = some (k, x) ∧ keyIs k v = true) → IntsAre us ks
  | [], [], _, _, _, _ => .nil
  | [], k :: ks, vs, e, l, _ => by
    have := congrArg List.length e
    rw [List.length_map, List.length_map, ← l] at this
    cases this
  | u :: us, [], vs, e, l, _ => by
    have := congrArg List.length e
    rw [List.length_map, List.length_map, ← l] at this
    cases this
  | u :: us, k :: ks, [], e, _, _ => by cases e
  | u :: us, k :: ks, (c, y) :: vs, e, l, h => by
    obtain ⟨e1, e2⟩ := List.cons.inj e
    obtain ⟨c', y', q1, q2⟩ := h 0 u rfl
    cases q1
    rcases keyIs_shape q2 with ⟨i, t, ek, ev⟩ | ⟨z, t, ek, _⟩
    · rw [ek] at e1
      obtain rfl : i = k := Sum.inl.inj e1
      subst ev
      exact .cons _ _ (key_ints e2 (Nat.succ.inj l) fun j v hv => h (j + 1) v hv)
    · rw [ek] at e1
      cases e1
def rSortedDI : List V → Hp → VK → Prop := fun xs H Q => ∃ (a : Addr) (kvs : List (Key × V)) (ks : List Int), xs = [.ref a] ∧ Rd H a (.dK kvs) ∧ kvs.map (·.1) = ks.map Sum.inl ∧
  ∀ (ys : List Int) (p : Addr), ys.Perm ks → ys.Pairwise (· ≤ ·) → H p = none → Q (.ref p) (upd H p (.lst (ys.map V.int)))
theorem cr_sortedDI (hc : X.calm = true) : CallR X (.builtin "sorted") rSortedDI := by
  intro pins s σ H xs us Q I r q
  obtain ⟨a, kvs, ks, ex, hd, hks, q⟩ := q
  subst ex
  rw [Vals.ref1 r]
  obtain ⟨z, lo, vs, rel, dd⟩ := dk_rd I.hok hd
  obtain ⟨ep, hat⟩ := dd.dictAt
  have hkeys : vs.map (·.1) = ks.map Sum.inl := rel.keys.symm.trans hks
  have tellI : ∀ {acc : Array Value}, ItemsOf (fun i v => ∃ k x, vs[i]? = some (k, x) ∧ (mixKind X.prog X.w).is k v = true) acc vs.length → IntsAre acc.toList ks := fun {acc} hi => key_ints hkeys (by rw [Array.length_toList]; exact hi.1) fun j v e => hi.2 j v (by rw [← Array.getElem?_toList]; exact e)
  refine sorted_src (PySem.W.kdl_dict (knd := mixKind X.prog X.w) (kvs := vs) (ep := ep) lo) (I.ok.hd hc) hat (by rw [← rel.length]; exact z) SrtO.swo_int (fun h1 tk acc a' _ hi h2 _ => SrtO.ints_sortable (tellI hi) h2) fun h' tk acc out p hi o1 o2 ⟨h1, k1, k2, le, e', he'⟩ => ?_
  obtain ⟨g1, g2, g3⟩ := SrtO.ints_out (tellI hi) o1 o2
  have I1 : Inv X pins σ H { s with heap := h1, toks := tk } := I.kept k1
  have hlen : ((out.map SrtO.iv).map V.int).length ≤ sizeLine := by
    have e1 := congrArg List.length hkeys
    rw [List.length_map, List.length_map] at e1
    rw [List.length_map, g2.length_eq, ← e1, ← rel.length]
    exact z
  exact ⟨.ref p, upd H p (.lst ((out.map SrtO.iv).map V.int)), I1.laid (t' := tk) k2 le (show ObjOk X.prog X.w _ _ _ (.lst ((out.map SrtO.iv).map V.int)) from ⟨hlen, out, e', vals_of_ints g1, he'⟩), rfl, q _ _ g2 g3 (I1.hok.fresh le)⟩
end
section
variable {X : Cx} {K : PySem.W.Frag} {W : Wd} {P : Hp} {G : Gm} {σ : St} {H : Hp}
/-- the pair that stands at an address of the tracked heap -/
def pairV (H : Hp) : Value → Int × Int
  | .ref q => (match H q with | some (.tup [.int i, .int j]) => (i, j) | _ => (0, 0))
  | _ => (0, 0)
theorem pairV_at {q : Addr} {i j : Int} (e : H q = some (.tup [.int i, .int j])) : pairV H (.ref q) = (i, j) := by
  unfold pairV
  simp only [e]
theorem kt_each {prs : List (Int × Int)} : ∀ {kvs : List (List Key × V)} {xs : List (List Key × Addr × Value)} {ps : List (Int × Int)}, KT H kvs xs → kvs.map (·.1) = ps.map (fun p => [Sum.inl p.1, Sum.inl p.2]) → (∀ x ∈ xs, ∃ i j : Int, H x.2.1 = some (.tup [.int i, .int j])) ∧ xs.map (fun x => pairV H (.ref x.2.1)) = ps
  | [], [], [], _, _ => ⟨fun x h => (by cases h), rfl⟩
  | [], [], p :: ps, _, e => by cases e
  | kv :: kvs, x :: xs, [], _, e => by cases e
  | kv :: kvs, x :: xs, p :: ps, r, e => by
    cases r with
    | cons h t =>
      obtain ⟨h1, h2, h3⟩ := h
      obtain ⟨e1, e2⟩ := List.cons.inj e
      have e1 : kv.1 = [Sum.inl p.1, Sum.inl p.2] := e1
      rw [e1] at h2
      have h2 : H x.2.1 = some (.tup [.int p.1, .int p.2]) := h2
      obtain ⟨g1, g2⟩ := kt_each (prs := prs) t e2
      refine ⟨fun y hy => ?_, ?_⟩
      · rcases List.mem_cons.mp hy with rfl | hy
        · exact ⟨_, _, h2⟩
        · exact g1 y hy
      · rw [List.map_cons, pairV_at h2, g2]
def rSortedDT : List V → Hp → VK → Prop := fun xs H Q => ∃ (a : Addr) (kvs : List (List Key × V)) (ps : List (Int × Int)), xs = [.ref a] ∧ Rd H a (.dT kvs) ∧ kvs.map (·.1) = ps.map (fun p => [Sum.inl p.1, Sum.inl p.2]) ∧
  ∀ (ts : List Addr) (p : Addr), (∀ t ∈ ts, ∃ i j : Int, H t = some (.tup [.int i, .int j])) → (ts.map fun t => pairV H (.ref t)).Perm ps → (ts.map fun t => pairV H (.ref t)).Pairwise prLe → H p = none → Q (.ref p) (upd H p (.lst (ts.map V.ref)))
theorem refs_of : ∀ {us : List Value}, (∀ u ∈ us, ∃ a, u = Value.ref a) → ∃ ts : List Addr, us = ts.map Value.ref
  | [], _ => ⟨[], rfl⟩
  | u :: us, h => by
    obtain ⟨a, rfl⟩ := h u List.mem_cons_self
    obtain ⟨ts, e⟩ := refs_of fun x hx => h x (List.mem_cons_of_mem _ hx)
    exact ⟨a :: ts, by rw [e]; rfl⟩
theorem vals_refs : ∀ {ts : List Addr}, Vals (ts.map V.ref) (ts.map Value.ref)
  | [] => .nil
  | _ :: _ => .cons rfl vals_refs
theorem cr_sortedDT (hc : X.calm = true) : CallR X (.builtin "sorted") rSortedDT := by
  intro pins s σ H xs us Q I r q
  obtain ⟨a, kvs, ps, ex, hd, hks, q⟩ := q
  subst ex
  rw [Vals.ref1 r]
  obtain ⟨z, lo, ys, rel, o, es, ep, ho, hx, hdt, hes, hk, hn⟩ := dt_rd I.hok hd
  obtain ⟨g1, g2⟩ := kt_each (prs := ps) rel hks
  have hsz : es.size = ys.length := by
    have := congrArg List.length hes
    rw [Array.length_toList, List.length_map] at this
    exact this
  have hl : ys.length = kvs.length := (Paired.length rel).symm
  have got : ∀ {acc : Array Value}, ItemsOf (fun i v => ∃ hi : i < es.size, v = es[i].key) acc es.size → acc.toList = (ys.map fun y => y.2.1).map Value.ref := fun {acc} hi => by
    apply List.ext_getElem?
    intro i
    rw [Array.getElem?_toList, List.map_map, List.getElem?_map]
    by_cases c : i < es.size
    · have ca : i < acc.size := by rw [hi.1]; exact c
      obtain ⟨_, e⟩ := hi.2 i _ (Array.getElem?_eq_getElem ca)
      rw [Array.getElem?_eq_getElem ca, e]
      have e2 : es[i]? = (ys[i]?).map (entryOfKey (tupleKind (mixKind X.prog X.w))) := entry_at hes i
      rw [Array.getElem?_eq_getElem c] at e2
      cases q : ys[i]? with
      | none => rw [q] at e2; cases e2
      | some y =>
        rw [q] at e2
        have e3 : es[i] = entryOfKey (tupleKind (mixKind X.prog X.w)) y := Option.some.inj e2
        rw [e3]
        rfl
    · have ca : ¬ i < acc.size := by rw [hi.1]; exact c
      rw [Array.getElem?_eq_none (by omega), List.getElem?_eq_none (by omega)]
      rfl
  have pair : ∀ {t : Addr} {i j : Int}, H t = some (.tup [.int i, .int j]) → Srt.IsPair s.heap (.ref t) i j := fun {t i j} e => by
    obtain ⟨_, its, rv, o2, k1, k2, n2, k3⟩ := I.hok _ _ e
    obtain ⟨u1, u2, rfl, ⟨t1, rfl⟩, ⟨t2, rfl⟩⟩ := vals2 rv
    exact ⟨t, o2, t1, t2, n2, rfl, k1, k2, k3⟩
  have refs : ∀ v ∈ (ys.map fun y => y.2.1).map Value.ref, ∃ t i j, v = Value.ref t ∧ H t = some (.tup [.int i, .int j]) := fun v hv => by
    obtain ⟨t, ht, rfl⟩ := List.mem_map.mp hv
    obtain ⟨y, hy, rfl⟩ := List.mem_map.mp ht
    obtain ⟨i, j, e⟩ := g1 y hy
    exact ⟨_, i, j, rfl, e⟩
  refine sorted_src (PySem.KdlSrc.rawDict (es := es) (ep := ep) lo) (I.ok.hd hc) ⟨o, ho, hx, hdt⟩ (by rw [hsz, hl]; exact z) (SrtO.swo_lex (pairV H)) (fun h₁ tk acc a' kk hi h2 ha => ?_) fun h' tk acc out p hi o1 o2 ⟨h1, k1, k2, le, e', he'⟩ => ?_
  · refine SrtO.pairs_sortableO (s := { s with heap := h₁, toks := tk }) (by omega) (fun v hm => ?_) fun o2 e => ?_
    · rw [got hi] at hm
      obtain ⟨t, i, j, rfl, e⟩ := refs v hm
      rw [pairV_at e]
      exact (pair e).keeps fun b o e _ => kk b o e
    · have e2 : some o2 = some (seqObj "list" acc.toList.toArray 0) := e.symm.trans ha
      cases e2
      intro c
      exact absurd (Value.type.inj c) (by decide)
  · have inm : ∀ u ∈ out, u ∈ (ys.map fun y => y.2.1).map Value.ref := fun u hu => by rw [← got hi]; exact o2.perm.mem_iff.mp hu
    obtain ⟨ts, rfl⟩ := refs_of fun u hu => by
      obtain ⟨t, _, _, rfl, _⟩ := refs u (inm u hu)
      exact ⟨t, rfl⟩
    have I1 : Inv X pins σ H { s with heap := h1, toks := tk } := I.kept k1
    have pm : (ts.map fun t => pairV H (.ref t)).Perm ps := by
      have := o2.perm.map (pairV H)
      rw [got hi, List.map_map, List.map_map, List.map_map] at this
      rw [← g2]
      exact this
    have hlen : (ts.map V.ref).length ≤ sizeLine := by
      have e1 := pm.length_eq
      have e2 := congrArg List.length hks
      rw [List.length_map, List.length_map] at e2
      rw [List.length_map] at e1 ⊢
      omega
    refine ⟨.ref p, upd H p (.lst (ts.map V.ref)), I1.laid (t' := tk) k2 le (show ObjOk X.prog X.w _ _ _ (.lst (ts.map V.ref)) from ⟨hlen, ts.map Value.ref, e', vals_refs, he'⟩), rfl, q ts _ (fun t ht => ?_) pm ?_ (I1.hok.fresh le)⟩
    · obtain ⟨t', i, j, e1, e2⟩ := refs _ (inm _ (List.mem_map_of_mem ht))
      cases e1
      exact ⟨i, j, e2⟩
    · have := List.pairwise_map.mp o1
      refine List.pairwise_map.mpr (this.imp fun {a b} h => ?_)
      have := SrtO.lexB_no.mp h
      unfold prLe
      omega
/-- the keys of a dict, if all are pairs of ints -/
def prsK : List (List Key × D) → Option (List (Int × Int))
  | [] => some []
  | ([.inl a, .inl b], _) :: r => (match prsK r with | some ps => some ((a, b) :: ps) | none => none)
  | _ => none
theorem prsK_keys : ∀ {es : List (List Key × D)} {ps : List (Int × Int)} {kvs : List (List Key × V)}, prsK es = some ps → RpT K W es kvs → kvs.map (·.1) = ps.map (fun p => [Sum.inl p.1, Sum.inl p.2])
  | [], ps, kvs, e, r => by
    cases e
    rw [show kvs = [] from r]
    rfl
  | ([.inl a, .inl b], d) :: es, ps, kvs, e, r => by
    obtain ⟨v, r', rfl, _, h2⟩ := r
    have e : (match prsK es with | some qs => some ((a, b) :: qs) | none => none) = some ps := e
    cases q : prsK es with
    | none => rw [q] at e; cases e
    | some qs =>
      rw [q] at e
      cases e
      rw [List.map_cons, List.map_cons, prsK_keys q h2]
  | ([], _) :: _, _, _, e, _ => by cases e
  | ([c], _) :: _, _, _, e, _ => by cases c <;> cases e
  | ([.inr _, c], _) :: _, _, _, e, _ => by cases c <;> cases e
  | ([.inl _, .inr _], _) :: _, _, _, e, _ => by cases e
  | (c1 :: c2 :: _ :: _, _) :: _, _, _, e, _ => by cases c1 <;> cases c2 <;> cases e
theorem tups_at : ∀ {ts : List Addr} {W : Wd}, Rl K W P G σ H → (∀ t ∈ ts, ∃ i j : Int, H t = some (.tup [.int i, .int j])) → ∃ W', W.le W' ∧ Rl K W' P G σ H ∧ RpL K W' ((ts.map fun t => pairV H (.ref t)).map prD) (ts.map V.ref)
  | [], W, R, _ => ⟨W, .refl W, R, rfl⟩
  | t :: ts, W, R, h => by
    obtain ⟨i, j, e⟩ := h t List.mem_cons_self
    obtain ⟨W1, l1, R1, r1⟩ := R.tupAt (ds := [.int i, .int j]) e ⟨.int i, [.int j], rfl, rfl, .int j, [], rfl, rfl, rfl⟩
    obtain ⟨W2, l2, R2, r2⟩ := tups_at R1 fun x hx => h x (List.mem_cons_of_mem _ hx)
    refine ⟨W2, l1.trans l2, R2, .ref t, _, rfl, ?_, r2⟩
    show Rp K W2 (prD (pairV H (.ref t))) (V.ref t)
    rw [pairV_at e]
    exact Rp.mono l2 _ _ r1
def dSortedD : D1 := fun d Q => match d with
  | .dK es => match keysI es with
    | some ns => ∀ ms : List Int, ms.Perm ns → ms.Pairwise (· ≤ ·) → Q (.new (.lst (ms.map D.int)))
    | none => False
  | .dT es => match prsK es with
    | some ps => ∀ qs : List (Int × Int), qs.Perm ps → qs.Pairwise prLe → Q (.new (.lst (qs.map prD)))
    | none => False
  | _ => False
theorem cd_sortedD (hc : X.calm = true) : CallR X (.builtin "sorted") (canB X.K dSortedD) := by
  refine CallR.imp (CallR.or (cr_sortedDI hc) (cr_sortedDT hc)) ?_
  rintro vs H Qv ⟨W, P, G, σ, v, d, Q, rfl, R, n, t, r⟩
  cases d <;> first | exact False.elim t | skip
  · rename_i es
    obtain ⟨a, kvs, rfl, rd, rk⟩ := n
    have t : (match prsK es with
      | some ps => ∀ qs : List (Int × Int), qs.Perm ps → qs.Pairwise prLe → Q (.new (.lst (qs.map prD)))
      | none => False) := t
    cases e : prsK es with
    | none => rw [e] at t; exact t.elim
    | some ps =>
      rw [e] at t
      refine .inr ⟨a, kvs, ps, rfl, rd, prsK_keys e rk, fun ts l h1 h2 h3 hl => ?_⟩
      obtain ⟨W', lw, R', rl⟩ := tups_at R h1
      exact r W' (.new (.lst ((ts.map fun t => pairV H (.ref t)).map prD))) _ _ lw (R'.alloc (o := .lst (ts.map V.ref)) (d := .lst ((ts.map fun t => pairV H (.ref t)).map prD)) hl rl).1 (R'.alloc (o := .lst (ts.map V.ref)) (d := .lst ((ts.map fun t => pairV H (.ref t)).map prD)) hl rl).2 (t _ h2 h3)
  · rename_i es
    obtain ⟨a, kvs, rfl, rd, rk⟩ := n
    have t : (match keysI es with
      | some ns => ∀ ms : List Int, ms.Perm ns → ms.Pairwise (· ≤ ·) → Q (.new (.lst (ms.map D.int)))
      | none => False) := t
    cases e : keysI es with
    | none => rw [e] at t; exact t.elim
    | some ns =>
      rw [e] at t
      exact .inl ⟨a, kvs, ns, rfl, rd, keysI_eq e rk, fun ms l h1 h2 hl => r.new R hl (o := .lst _) (d := .lst (ms.map D.int)) (RpL.ofInts ms) (t ms h1 h2)⟩
end

/-! ### instances of the program's classes -/
section
variable {K : PySem.W.Frag} {W W' : Wd}
theorem RpF.lookup : ∀ {fs : List (Str × D)} {gs : List (Str × V)} {f : Str} {d : D}, RpF K W fs gs → fs.lookup f = some d → ∃ v, gs.lookup f = some v ∧ Rp K W d v
  | [], _, _, _, _, e => by cases e
  | (g, x) :: fs, _, f, d, h, e => by
    obtain ⟨v, r, rfl, h1, h2⟩ := h
    rw [List.lookup_cons] at e ⊢
    split at e
    · cases e; exact ⟨v, rfl, h1⟩
    · exact RpF.lookup h2 e
theorem RpF.lookup0 : ∀ {fs : List (Str × D)} {gs : List (Str × V)} {f : Str}, RpF K W fs gs → fs.lookup f = none → gs.lookup f = none
  | [], _, _, h, _ => by obtain rfl : _ = [] := h; rfl
  | (g, x) :: fs, _, f, h, e => by
    obtain ⟨v, r, rfl, h1, h2⟩ := h
    rw [List.lookup_cons] at e ⊢
    split at e
    · cases e
    · exact RpF.lookup0 h2 e
theorem RpF.length : ∀ {fs : List (Str × D)} {gs : List (Str × V)}, RpF K W fs gs → gs.length = fs.length
  | [], _, h => by obtain rfl : _ = [] := h; rfl
  | (g, x) :: fs, _, h => by obtain ⟨v, r, rfl, h1, h2⟩ := h; exact congrArg Nat.succ (RpF.length h2)
/-- a field is stored -/
def putFD (f : Str) (d : D) : List (Str × D) → List (Str × D)
  | [] => [(f, d)]
  | (g, x) :: r => if g = f then (g, d) :: r else (g, x) :: putFD f d r
theorem RpF.put {f : Str} {d : D} {v : V} (rv : Rp K W d v) : ∀ {fs : List (Str × D)} {gs : List (Str × V)}, RpF K W fs gs → RpF K W (putFD f d fs) (putF f v gs)
  | [], _, h => by obtain rfl : _ = [] := h; exact ⟨v, [], rfl, rv, rfl⟩
  | (g, x) :: fs, _, h => by
    obtain ⟨u, r, rfl, h1, h2⟩ := h
    unfold putFD putF
    by_cases e : g = f
    · rw [if_pos e, if_pos e]; exact ⟨v, r, rfl, rv, h2⟩
    · rw [if_neg e, if_neg e]; exact ⟨u, _, rfl, h1, RpF.put rv h2⟩
/-- the class of that name as the top has made it -/
def ClsH (K : PySem.W.Frag) (c : Str) : Prop := ∃ C, PySem.W.nsIn K mainGlobals c = some (some (.ref C)) ∧ Cls K C
/-- no attribute of the class has that name -/
def NoF (K : PySem.W.Frag) (c f : Str) : Prop := ∀ C, PySem.W.nsIn K mainGlobals c = some (some (.ref C)) → NoAttr K C f
theorem ClsH.at {c : Str} (h : ClsH K c) {C : Addr} (e : PySem.W.nsIn K mainGlobals c = some (some (.ref C))) : Cls K C := by
  obtain ⟨C', e', cl⟩ := h
  rw [e] at e'; cases e'; exact cl
end
section
variable {X : Cx} {K : PySem.W.Frag} {W W' : Wd} {P : Hp} {G : Gm} {σ : St} {H : Hp} {e o : Expr} {es : List Expr} {pos : Pos}
/-- a field of an instance of the class c -/
def insM (c : Str) (d : D) (k : Addr → List (Str × D) → Prop) : Prop := match d with
  | .ins a c' fs => c' = c ∧ k a fs
  | _ => False
def fldM (f : Str) (fs : List (Str × D)) (k : D → Prop) : Prop := match fs.lookup f with
  | some d => k d
  | none => False
def dFld (c f : Str) (t : DE) : DE := fun G Q => t G fun sv G1 => see G1 sv fun d => insM c d fun _ fs => fldM f fs fun x => Q (.dat x) G1
theorem de_fld {t : DE} {f c : Str} (hc : ClsH X.K c) (hf : NoF X.K c f) (he : PE X e (can X.K t)) (hb : attributeBase e f X.env (eval e X.env) = eval e X.env := by rfl) : PE X (.Attribute e f pos) (can X.K (dFld c f t)) := by
  refine PE.imp (pe_fld he hb) ?_
  rintro σ H Qv ⟨W, P, G, Q, R, t, k⟩
  refine can_one R t fun W1 G1 sa y H1 l R1 s1 q => ?_
  obtain ⟨d, n, z⟩ := R1.see s1 q
  clear q
  cases d <;> first | exact False.elim z | skip
  rename_i a c' fs
  obtain ⟨rfl, q⟩ := z
  obtain ⟨rfl, C, dx, gs, nn, hH, r⟩ := n
  unfold fldM at q
  split at q
  · rename_i x e1
    obtain ⟨v, e2, r2⟩ := r.lookup e1
    exact ⟨a, C, dx, gs, v, rfl, hH, hc.at nn, hf C nn, e2, k W1 (.dat x) G1 v H1 l R1 r2 q⟩
  · exact q.elim
/-- self.f = e, self an own instance in the slot i -/
def ownI (c : Str) (o : Option SC) (k : Addr → List (Str × D) → Prop) : Prop := match o with
  | some (.own d) => insM c d k
  | _ => False
def dSetF (i : Nat) (c f : Str) (t : DE) : DS := fun E G => t G fun sv G1 => frz G1 sv fun d G2 => ownI c (gg G2 i) fun a fs => fs.length < 1000 ∧ E.nx (gset G2 i (some (.own (.ins a c (putFD f d fs)))))
theorem ownI_of {c : Str} {i : Nat} {k : Addr → List (Str × D) → Prop} (R : Rl K W P G σ H) (h : ownI c (gg G i) k) : ∃ a C dx fs gs, gg G i = some (.own (.ins a c fs)) ∧ σ[i]? = some (some (.ref a)) ∧ PySem.W.nsIn K mainGlobals c = some (some (.ref C)) ∧ Priv W H P a (.ins C dx gs) ∧ RpF K W fs gs ∧ k a fs := by
  unfold ownI at h
  split at h
  · rename_i d e
    cases d <;> first | exact False.elim h | skip
    rename_i a c' fs
    obtain ⟨rfl, h⟩ := h
    obtain ⟨p, o, e1, pr, ro⟩ := R.own i _ e
    cases o <;> first | exact False.elim ro | skip
    rename_i C dx gs
    obtain ⟨rfl, nn, r⟩ := ro
    exact ⟨a, C, dx, fs, gs, e, e1, nn, pr, r, h⟩
  · exact h.elim
theorem ds_setF {t : DE} {x f c : Str} {px pos' : Pos} {value : Expr} (i : Nat) (hc : ClsH X.K c) (hf : NoF X.K c f) (hv : PE X value (can X.K t)) (hN : X.N[i]? = some x := by rfl) (hvx : Vis X.env.scope x := by first | exact Or.inl rfl | exact Or.inr (Or.inl rfl) | exact Or.inr (Or.inr rfl))
    (hd : (x == ("__debug__" : Str)) = false := by decide) (hcd : (x == ("__classdict__" : Str)) = false := by decide)
    (hs : swapsWith value (some (.Attribute (.Name x px) f pos')) pos.line X.env = pure false := by rfl) :
    PS X (.Assign [.Attribute (.Name x px) f pos'] value pos) (canS X.K (dSetF i c f t)) := by
  refine PS.imp (ps_fld (pe_var hN hvx hd hcd) hv hs) ?_
  rintro D σ H ⟨W, P, G, E, R, t, k⟩
  refine ⟨W, P, G, _, R, t, fun W1 sv G1 v H1 l1 R1 r1 q1 => ?_⟩
  obtain ⟨W2, d, G2, l2, R2, r2, q2⟩ := R1.frz r1 q1
  obtain ⟨a, C, dx, fs, gs, e1, e2, nn, pr, rf, hz, q⟩ := ownI_of R2 q2
  refine ⟨.ref a, e2, a, C, dx, gs, rfl, pr.at_, hc.at nn, hf C nn, by rw [rf.length]; exact hz, ?_⟩
  have ro : RO X.K W2 a (.ins C dx (putF f v gs)) (.ins a c (putFD f d fs)) := ⟨rfl, nn, rf.put r2⟩
  exact k.nx W2 _ σ _ (l1.trans l2) (R2.reown e1 e2 pr ro) q
/-- .. in a target -/
def dgFld (i : Nat) (c f : Str) : DG := fun sv G Q => frz G sv fun d G2 => ownI c (gg G2 i) fun a fs => fs.length < 1000 ∧ Q (gset G2 i (some (.own (.ins a c (putFD f d fs)))))
def gFld (K : PySem.W.Frag) (ta : TE) (f : Str) : TG := fun y σ H Q => ta σ H fun x H2 => ∃ a C dx fs, x = .ref a ∧ H2 a = some (.ins C dx fs) ∧ Cls K C ∧ NoAttr K C f ∧ fs.length < 1000 ∧ Q σ (upd H2 a (.ins C dx (putF f y fs)))
theorem pg_fld {ta : TE} {f : Str} (ho : PE X o ta) : PG X (.Attribute o f pos) (gFld X.K ta f) := by
  refine ⟨fun pins s σ H v u Q I r h => ?_⟩
  rw [arm_assign_Attribute]
  refine wpAny_bind (wpAny_holding (thn (ho.run pins s σ H _ I h) fun ov s1 ⟨x, H1, I1, r1, a, C, dx, fs, ex, ea, c, n, l, q⟩ => ?_))
  subst ex
  obtain rfl : ov = Value.ref a := r1
  refine wpAny_bind (wpAny_standAt (wpAny_bind (wpAny_holding (setattr_ok I1 ea c n l r fun s2 I2 => ?_))))
  exact wpAny_release ⟨σ, _, I2, q⟩
theorem dg_fld {x f c : Str} {px : Pos} {ws : List Nat} (i : Nat) (hc : ClsH X.K c) (hf : NoF X.K c f) (hN : X.N[i]? = some x := by rfl) (hvx : Vis X.env.scope x := by first | exact Or.inl rfl | exact Or.inr (Or.inl rfl) | exact Or.inr (Or.inr rfl))
    (hd : (x == ("__debug__" : Str)) = false := by decide) (hcd : (x == ("__classdict__" : Str)) = false := by decide) : PG X (.Attribute (.Name x px) f pos) (canG X.K ws (dgFld i c f)) := by
  refine PG.imp (pg_fld (pe_var hN hvx hd hcd)) ?_
  rintro v σ H Qs ⟨W, P, G, sv, Q, R, r, t, k⟩
  obtain ⟨W2, d, G2, l2, R2, r2, q2⟩ := R.frz r t
  obtain ⟨a, C, dx, fs, gs, e1, e2, nn, pr, rf, hz, q⟩ := ownI_of R2 q2
  refine ⟨.ref a, e2, a, C, dx, gs, rfl, pr.at_, hc.at nn, hf C nn, by rw [rf.length]; exact hz, ?_⟩
  have ro : RO X.K W2 a (.ins C dx (putF f v gs)) (.ins a c (putFD f d fs)) := ⟨rfl, nn, rf.put r2⟩
  exact k W2 _ σ _ l2 (R2.reown e1 e2 pr ro) (But.refl _ _) q
end
/-! ### methods -/
/-- the method m of the class c keeps a promise -/
def HasM (P : Program) (w : World) (K : PySem.W.Frag) (mg : Str → Option Value) (base : Heap) (k : Nat) (c m qual : Str) (st : Stmt) (dd : List D) (ps : List Str) (S : DSp) : Prop :=
  ∃ C f fd, PySem.W.nsIn K mainGlobals c = some (some (.ref C)) ∧ Cls K C ∧ Meth K C m f ∧ FunT K m qual st dd f fd ∧ FnD P w K mg base k f fd ps S
/-- a method of the text as it stands behind the top -/
def FunM (K : PySem.W.Frag) (c m qual : Str) (st : Stmt) (dd : List D) : Prop := ∃ C f fd, PySem.W.nsIn K mainGlobals c = some (some (.ref C)) ∧ Cls K C ∧ Meth K C m f ∧ FunT K m qual st dd f fd
theorem hasm_of {P : Program} {w : World} {K : PySem.W.Frag} {mg : Str → Option Value} {base : Heap} {k : Nat} {c m qual : Str} {st : Stmt} {dd : List D} {N ps : List Str} {S : DSp} {t : DS}
    (F : FunM K c m qual st dd) (C : FnScope N ps (defScope st))
    (der : ∀ (f : Addr) (cdv : Value) (A : Around) (outer : List Env) (s : Shared) (H : Hp), (A.deeper (envOfC qual (defScope st) s.heap.objs.size f cdv)).guards = some [] → Room k (A.deeper (envOfC qual (defScope st) s.heap.objs.size f cdv)) →
      PSs (cxOf CX0 P w K mg base N qual (defScope st) f cdv A outer s H E0).nox (defBody st) (canS K t))
    (len : ∀ n ds Q, S n ds Q → ds.length = ps.length) (law : ∀ n ds Q, S n ds Q → t (defE Q) (startG n N ds)) : HasM P w K mg base (k + 1) c m qual st dd ps S := by
  obtain ⟨D, f, fd, nn, cl, mm, F⟩ := F
  exact ⟨D, f, fd, nn, cl, mm, F, fd_of F C (der f) len law⟩
section
variable {X : Cx} {K : PySem.W.Frag} {W W' : Wd} {P : Hp} {G : Gm} {σ : St} {H : Hp} {e o : Expr} {es : List Expr} {pos apos : Pos} {j k n : Nat} {f C : Addr} {fd : FuncData} {ps : List Str} {m c qual : Str} {st : Stmt} {dd : List D} {S : DSp} {gD : List D → List D → List D}
/-- o.m(..), by the promise of the values as they are bound -/
def tMethG (C : Addr) (n : Nat) (m : Str) (sp : Sp) (gV : List V → List V → List V) (ta : TE) (t : TA) : TE := fun σ H Q => ta σ H fun x H1 => ∃ a dx fs, x = .ref a ∧ H1 a = some (.ins C dx fs) ∧ fs.lookup m = none ∧
  t σ H1 fun vs H2 => vs.length + 1 = n ∧ sp (gV (x :: vs) []) H2 Q E0
theorem pg_meth {sp : Sp} {ta : TE} {t : TA} {g : List Value → List Value → List Value} {gV : List V → List V → List V} {pl : Sem Bool} (he : PE X o ta) (c : Cls X.K C) (hm : Meth X.K C m f) (F : FnG X.prog X.w X.K X.mg X.base k f fd ps sp) (gd : X.A.guards = some []) (hr : Room k X.A) (hb : KBn X.K fd ps n [] g gV) (ha : PA X (e :: es) t)
    (hst : starEach (e :: es) X.env = (false, eval e X.env) :: starEach es X.env := by rfl) (hpl : (backTo pos (starEach es X.env)).any (·.1) = false := by rfl)
    (ht : eval (.Call (.Attribute o m apos) (e :: es) [] pos) X.env = (do
      let ov ← eval o X.env
      standAt apos.atName
      let (f, first) ← holding [ov] (getMethod ov m pl)
      callWith pos f first (backTo pos (starEach (e :: es) X.env)) (backToKw pos (keywordEach [] X.env))) := by rfl) :
    PE X (.Call (.Attribute o m apos) (e :: es) [] pos) (tMethG C n m sp gV ta t) := by
  refine ⟨fun pins s σ H Q I h => ?_⟩
  refine PySem.W.methodCall_KW (pl := pl) (thn (he.run pins s σ H _ I h) fun u s1 ⟨x, H1, I1, rx, a, dx, fs, ex, ea, l, q⟩ => ?_) ht
  subst ex
  obtain rfl : u = Value.ref a := rx
  refine getmeth_ok I1 ea c hm l ?_
  refine PySem.W.callWith_K (first := [.ref a]) (h₀ := X.base) I.ok.mod.kin hm.kp (thn (ha.run pos pins s1 σ H1 _ I1 q) fun us s2 ⟨vs, H2, I2, r, hn, q2⟩ => ⟨I2.kIn, ?_⟩) hst hpl
  exact run_g (us := .ref a :: us) (vs := .ref a :: vs) (ws := []) F gd hr hb I2 (.cons rfl r) .nil hn rfl q2
theorem pg_meth0 {sp : Sp} {ta : TE} {g : List Value → List Value → List Value} {gV : List V → List V → List V} {pl : Sem Bool} (he : PE X o ta) (c : Cls X.K C) (hm : Meth X.K C m f) (F : FnG X.prog X.w X.K X.mg X.base k f fd ps sp) (gd : X.A.guards = some []) (hr : Room k X.A) (hb : KBn X.K fd ps n [] g gV)
    (ht : eval (.Call (.Attribute o m apos) [] [] pos) X.env = (do
      let ov ← eval o X.env
      standAt apos.atName
      let (f, first) ← holding [ov] (getMethod ov m pl)
      callWith pos f first (backTo pos (starEach [] X.env)) (backToKw pos (keywordEach [] X.env))) := by rfl) :
    PE X (.Call (.Attribute o m apos) [] [] pos) (tMethG C n m sp gV ta tNil) := by
  refine ⟨fun pins s σ H Q I h => ?_⟩
  refine PySem.W.methodCall_KW (pl := pl) (thn (he.run pins s σ H _ I h) fun u s1 ⟨x, H1, I1, rx, a, dx, fs, ex, ea, l, hn, q⟩ => ?_) ht
  subst ex
  obtain rfl : u = Value.ref a := rx
  refine getmeth_ok I1 ea c hm l ?_
  exact PySem.W.callWith_K0 (first := [.ref a]) I1.kIn hm.kp (run_g (us := [.ref a]) (vs := [.ref a]) (ws := []) F gd hr hb I1 (.cons rfl .nil) .nil hn rfl q)
def dMeth (n : Nat) (c m : Str) (S : DSp) (gD : List D → List D → List D) (ta : DE) (t : DA) : DE := fun G Q => ta G fun sv G1 => frz G1 sv fun d G2 => insM c d fun _ fs => fs.lookup m = none ∧ t G2 fun ds G3 => ds.length + 1 = n ∧ S G3.c (gD (d :: ds) []) fun r j => Q r (G3.at j)
theorem meth_dat {ta : DE} {t : DA} {gV : List V → List V → List V} {σ : St} {H : Hp} {Qv : VK} (nn : PySem.W.nsIn K mainGlobals c = some (some (.ref C))) (hg : ∀ (W : Wd) (ds es : List D) (vs zs : List V), RpL K W ds vs → RpL K W es zs → RpL K W (gD ds es) (gV vs zs)) (h : can K (dMeth n c m S gD ta t) σ H Qv) :
    tMethG C n m (dSp K S) gV (can K ta) (canA K t) σ H Qv := by
  obtain ⟨W, P, G, Q, R, t0, kk⟩ := h
  refine ⟨W, P, G, _, R, t0, fun W1 sv G1 v H1 l1 R1 r1 q1 => ?_⟩
  obtain ⟨W2, d, G2, l2, R2, r2, q2⟩ := R1.frz r1 q1
  have r2' := r2
  cases d <;> first | exact False.elim q2 | skip
  rename_i a c' fs
  obtain ⟨rfl, q2, q3⟩ := q2
  obtain ⟨rfl, C', dx, gs, nn', hW, rf⟩ := r2
  rw [nn] at nn'; cases nn'
  refine ⟨a, dx, gs, rfl, R2.le _ _ hW, rf.lookup0 q2, W2, P, G2, _, R2, q3, fun W3 ds G3 vs H3 l3 R3 r3 ⟨hn, q4⟩ => ⟨by rw [r3.length]; exact hn, ?_⟩⟩
  obtain ⟨P0, R0, F, hP⟩ := R3.enter
  have rl : RpL K W3 (.ins a c' fs :: ds) (.ref a :: vs) := ⟨_, _, rfl, Rp.mono l3 _ _ r2', r3⟩
  refine ⟨W3, P0, _, _, _, R0, F, hg W3 _ [] _ [] rl rfl, q4, fun W4 sv4 j v4 H4 l4 R4 r4 q5 => ?_⟩
  exact kk W4 sv4 (G3.at j) v4 H4 (((l1.trans l2).trans l3).trans l4) (R3.leave F hP l4 R4) (R3.result F r4) q5
theorem dh_meth {ta : DE} {t : DA} {pl : Sem Bool} (h : HasM X.prog X.w X.K X.mg X.base j c m qual st dd ps S) (gd : X.A.guards = some []) (hr : Room k X.A) (hb : ∀ f fd, FunT X.K m qual st dd f fd → Bnd X.K fd ps n [] gD)
    (he : PE X o (can X.K ta)) (ha : PA X (e :: es) (canA X.K t)) (hj : j ≤ k := by decide)
    (hst : starEach (e :: es) X.env = (false, eval e X.env) :: starEach es X.env := by rfl) (hpl : (backTo pos (starEach es X.env)).any (·.1) = false := by rfl)
    (ht : eval (.Call (.Attribute o m apos) (e :: es) [] pos) X.env = (do
      let ov ← eval o X.env
      standAt apos.atName
      let (f, first) ← holding [ov] (getMethod ov m pl)
      callWith pos f first (backTo pos (starEach (e :: es) X.env)) (backToKw pos (keywordEach [] X.env))) := by rfl) :
    PE X (.Call (.Attribute o m apos) (e :: es) [] pos) (can X.K (dMeth n c m S gD ta t)) := by
  obtain ⟨C, f, fd, nn, cl, mm, F, h⟩ := h
  obtain ⟨g, gV, hb, hg⟩ := (hb f fd F).ex
  exact PE.imp (pg_meth he cl mm h gd (hr.mono hj) hb ha hst hpl ht) fun σ H Q q => meth_dat nn (hg X.K) q
theorem dh_meth0 {ta : DE} {pl : Sem Bool} (h : HasM X.prog X.w X.K X.mg X.base j c m qual st dd ps S) (gd : X.A.guards = some []) (hr : Room k X.A) (hb : ∀ f fd, FunT X.K m qual st dd f fd → Bnd X.K fd ps n [] gD)
    (he : PE X o (can X.K ta)) (hj : j ≤ k := by decide)
    (ht : eval (.Call (.Attribute o m apos) [] [] pos) X.env = (do
      let ov ← eval o X.env
      standAt apos.atName
      let (f, first) ← holding [ov] (getMethod ov m pl)
      callWith pos f first (backTo pos (starEach [] X.env)) (backToKw pos (keywordEach [] X.env))) := by rfl) :
    PE X (.Call (.Attribute o m apos) [] [] pos) (can X.K (dMeth n c m S gD ta dNil)) := by
  obtain ⟨C, f, fd, nn, cl, mm, F, h⟩ := h
  obtain ⟨g, gV, hb, hg⟩ := (hb f fd F).ex
  refine PE.imp (pg_meth0 he cl mm h gd (hr.mono hj) hb ht) fun σ H Q q => ?_
  obtain ⟨W, P, G, Q', R, t0, kk⟩ := meth_dat nn (hg X.K) q
  refine ⟨W, P, G, Q', R, t0, fun W1 sv G1 v H1 l1 R1 r1 q1 => ?_⟩
  obtain ⟨a, dx, fs, e1, e2, e3, W2, P2, G2, Q2, R2, t2, k2⟩ := kk W1 sv G1 v H1 l1 R1 r1 q1
  exact ⟨a, dx, fs, e1, e2, e3, k2 W2 [] G2 [] _ (.refl W2) R2 rfl t2⟩
end

/-! ### __init__, making -/
/-- what an __init__ promises: the arguments behind self, the fields that it leaves -/
abbrev ISp := Nat → List D → (List (Str × D) → Nat → Prop) → Prop
def iSp (K : PySem.W.Frag) (c : Str) (S : ISp) : Sp := fun vs H Q _ => ∃ W P n ds Qd a C dx us, vs = .ref a :: us ∧ PySem.W.nsIn K mainGlobals c = some (some (.ref C)) ∧ Rl K W P ⟨[], n⟩ [] H ∧ Priv W H P a (.ins C dx []) ∧ RpL K W ds us ∧ S n ds Qd ∧
  ∀ W' fs dx' gs m H', W.le W' → Rl K W' P ⟨[], m⟩ [] H' → Priv W' H' P a (.ins C dx' gs) → RpF K W' fs gs → Qd fs m → Q .non H'
def startI (n : Nat) (N : List Str) (a : Addr) (c : Str) (ds : List D) : Gm := gset (startG n N (.ref a :: ds)) 0 (some (.own (.ins a c [])))
def defI (a : Addr) (c : Str) (Q : List (Str × D) → Nat → Prop) : DEnds := { nx := fun G => ownI c (gg G 0) fun b fs => b = a ∧ Q fs G.c, rt := fun _ _ => False }
theorem fi_of {P : Program} {w : World} {K : PySem.W.Frag} {mg : Str → Option Value} {base : Heap} {k : Nat} {f : Addr} {m qual c : Str} {st : Stmt} {dd : List D} {fd : FuncData} {N ps : List Str} {S : ISp} {t : DS}
    (F : FunT K m qual st dd f fd) (C : FnScope N ps (defScope st))
    (der : ∀ (cdv : Value) (A : Around) (outer : List Env) (s : Shared) (H : Hp), (A.deeper (envOfC qual (defScope st) s.heap.objs.size f cdv)).guards = some [] → Room k (A.deeper (envOfC qual (defScope st) s.heap.objs.size f cdv)) →
      PSs (cxOf CX0 P w K mg base N qual (defScope st) f cdv A outer s H E0).nox (defBody st) (canS K t))
    (len : ∀ n ds Q, S n ds Q → ds.length + 1 = ps.length) (law : ∀ a n ds Q, S n ds Q → t (defI a c Q) (startI n N a c ds)) : FnG P w K mg base (k + 1) f fd ps (iSp K c S) := by
  refine fg_of F C (fun vs H Q E h => ?_) fun cdv A outer s H vs Q gd hr h => ?_
  · obtain ⟨W, P0, n, ds, Qd, a, C, dx, us, rfl, _, _, _, r, q, _⟩ := h
    rw [List.length_cons, r.length]; exact len _ _ _ q
  · obtain ⟨W, P0, n, ds, Qd, a, D0, dx, us, rfl, nn, R, pr, r, q, kk⟩ := h
    have rl : RpL K W (.ref a :: ds) (.ref a :: us) := ⟨_, _, rfl, rfl, r⟩
    have ro : RO K W a (.ins D0 dx []) (.ins a c []) := ⟨rfl, nn, rfl⟩
    have R1 := (R.start rl N).setOwn 0 pr ro (fun i e h1 _ => by obtain ⟨d, e1, _⟩ := start_dat h1; cases e1)
    have e0 : (L2.start N (.ref a :: us)).set 0 (some (.ref a)) = L2.start N (.ref a :: us) := rfl
    rw [e0] at R1
    refine ⟨_, der cdv A outer s H gd hr, W, P0, startI n N a c ds, defI a c Qd, R1, law _ _ _ _ q, fun W' G σ H' l R' q => ?_, fun _ _ _ _ _ _ q => q.elim, fun _ _ _ _ _ _ q => q.elim, fun W' sv m v H' l R' rv q => q.elim⟩
    obtain ⟨b, C', dx', fs, gs, e1, e2, nn', pr', rf, eb, z⟩ := ownI_of R' q
    subst eb
    rw [nn] at nn'; cases nn'
    exact kk W' fs dx' gs G.c H' l R'.bare pr' rf z
section
variable {K : PySem.W.Frag} {W W' : Wd} {P P0 : Hp} {G : Gm} {σ : St} {H H' : Hp}
theorem Rl.grow (R : Rl K W P G σ H) {p : Addr} {o : HO} (hp : H p = none) : Rl K W P G σ (upd H p o) := by
  have old : ∀ b u, H b = some u → upd H p o b = some u := fun b u e => by rw [upd_ne (ne_of_none e hp)]; exact e
  exact ⟨R.len, fun b u e => old b u (R.le b u e), fun a h => (by obtain ⟨h1, h2, x, y, z, h3, h4⟩ := R.src a h; exact ⟨h1, h2, x, y, z, old _ _ h3, h4⟩), fun q u e => (by obtain ⟨h1, h2⟩ := R.prot q u e; exact ⟨old _ _ h1, h2⟩), R.dat,
    fun i d e => (by obtain ⟨q, u, h1, h2, h3⟩ := R.own i d e; exact ⟨q, u, h1, ⟨old _ _ h2.at_, h2.f, h2.s, h2.n⟩, h3⟩), R.sep, R.pnt⟩
/-- what has its own address and is new is no one's -/
theorem Rl.priv (R : Rl K W P G σ H) {p : Addr} {o : HO} (hp : H p = none) : Priv W (upd H p o) P p o := by
  refine ⟨upd_same, ?_, fun h => ?_, ?_⟩
  · cases e : W.F p with
    | none => rfl
    | some u => rw [R.le _ _ e] at hp; cases hp
  · obtain ⟨_, _, x, y, z, e, _⟩ := R.src p h
    rw [hp] at e; cases e
  · cases e : P p with
    | none => rfl
    | some u => rw [(R.prot _ _ e).1] at hp; cases hp
end
/-- the class of that name, its __init__ and its promise -/
def HasI (P : Program) (w : World) (K : PySem.W.Frag) (mg : Str → Option Value) (base : Heap) (k : Nat) (c qual : Str) (st : Stmt) (dd : List D) (ps : List Str) (S : ISp) : Prop :=
  ∃ C f fd, PySem.W.nsIn K mainGlobals c = some (some (.ref C)) ∧ mg c = some (.ref C) ∧ Mk K C f ∧ FunT K "__init__" qual st dd f fd ∧ FnG P w K mg base k f fd ps (iSp K c S)
def FunI (K : PySem.W.Frag) (mg : Str → Option Value) (c qual : Str) (st : Stmt) (dd : List D) : Prop := ∃ C f fd, PySem.W.nsIn K mainGlobals c = some (some (.ref C)) ∧ mg c = some (.ref C) ∧ Mk K C f ∧ FunT K "__init__" qual st dd f fd
theorem hasi_of {P : Program} {w : World} {K : PySem.W.Frag} {mg : Str → Option Value} {base : Heap} {k : Nat} {c qual : Str} {st : Stmt} {dd : List D} {N ps : List Str} {S : ISp} {t : DS}
    (F : FunI K mg c qual st dd) (C : FnScope N ps (defScope st))
    (der : ∀ (f : Addr) (cdv : Value) (A : Around) (outer : List Env) (s : Shared) (H : Hp), (A.deeper (envOfC qual (defScope st) s.heap.objs.size f cdv)).guards = some [] → Room k (A.deeper (envOfC qual (defScope st) s.heap.objs.size f cdv)) →
      PSs (cxOf CX0 P w K mg base N qual (defScope st) f cdv A outer s H E0).nox (defBody st) (canS K t))
    (len : ∀ n ds Q, S n ds Q → ds.length + 1 = ps.length) (law : ∀ a n ds Q, S n ds Q → t (defI a c Q) (startI n N a c ds)) : HasI P w K mg base (k + 1) c qual st dd ps S := by
  obtain ⟨D, f, fd, nn, m, mm, F⟩ := F
  exact ⟨D, f, fd, nn, m, mm, F, fi_of F C (der f) len law⟩
section
variable {X : Cx} {K : PySem.W.Frag} {W W' : Wd} {P : Hp} {G : Gm} {σ : St} {H : Hp} {e : Expr} {es : List Expr} {kws : List Keyword} {p pos : Pos} {j k n : Nat} {f C : Addr} {fd : FuncData} {ps ks : List Str} {c qual : Str} {st : Stmt} {dd : List D} {S : ISp} {gD : List D → List D → List D} {g2 : List D → List D}
def tMakeG (C : Addr) (n m : Nat) (sp : Sp) (gV : List V → List V → List V) (t tk : TA) : TE := fun σ H Q => t σ H fun vs H1 => tk σ H1 fun zs H2 => vs.length + 1 = n ∧ zs.length = m ∧ ∀ x dx, H2 x = none → H2 dx = none → dx ≠ x →
  sp (gV (.ref x :: vs) zs) (upd (upd H2 dx (.own x)) x (.ins C dx [])) (fun v H3 => v = .non ∧ Q (.ref x) H3) E0
theorem run_gmake {sp : Sp} {g : List Value → List Value → List Value} {gV : List V → List V → List V} {pins : List (Addr × Obj)} {s : Shared} {Q : VK} {us ws : List Value} {vs zs : List V} (M : Mk X.K C f) (F : FnG X.prog X.w X.K X.mg X.base k f fd ps sp) (gd : X.A.guards = some []) (hr : Room (k + 1) X.A) (hb : KBn X.K fd ps n ks g gV)
    (I : Inv X pins σ H s) (r : Vals vs us) (rz : Vals zs ws) (l1 : vs.length + 1 = n) (l2 : zs.length = ks.length)
    (h : ∀ x dx, H x = none → H dx = none → dx ≠ x → sp (gV (.ref x :: vs) zs) (upd (upd H dx (.own x)) x (.ins C dx [])) (fun v H2 => v = .non ∧ Q (.ref x) H2) E0) :
    wpAny (model X.prog X.w) X.A (call (.ref C) us (ks.zip ws)) (EP X pins σ Q) X.xe s := by
  have hq := h (s.heap.objs.size + 1) s.heap.objs.size (I.hok.fresh (Nat.le_succ _)) (I.hok.fresh (Nat.le_refl _)) (Nat.ne_of_lt (Nat.lt_succ_self _))
  have I2 := Inv.made (C := C) I
  have r1 : Vals (V.ref (s.heap.objs.size + 1) :: vs) (Value.ref (s.heap.objs.size + 1) :: us) := .cons rfl r
  have r2 := hb.rel r1 rz
  have e1 : (Value.ref (s.heap.objs.size + 1) :: us).length = n := r1.length.symm.trans l1
  have e2 : ws.length = ks.length := rz.length.symm.trans l2
  refine wpAny_call (make_map (f := f) I.kIn M.makes M.init (beq_iff_eq.mp M.fn) (codeAny_mono (F.run _ X.stack _ _ ⟨Value.ref (s.heap.objs.size + 1) :: us, ks.zip ws⟩ (g (Value.ref (s.heap.objs.size + 1) :: us) ws) _ _ gd (hr.make C us (ks.zip ws))
    (I2.env0.make C us (ks.zip ws)) (hb.to _ (Value.ref (s.heap.objs.size + 1) :: us) ws I2.kIn e1 e2) r2 hq) fun r s' hq' => ?_))
  cases r with
  | error e => exact False.elim hq'
  | ok fl =>
    cases fl with
    | ret u =>
      obtain ⟨v, H', I3, rv, ev, q3⟩ := I2.after hq'
      subst ev
      exact ⟨rv, ⟨V.ref (s.heap.objs.size + 1), H', I3, rfl, q3⟩⟩
    | next => exact False.elim hq'
    | brk => exact False.elim hq'
    | cont => exact False.elim hq'
theorem pg_make {sp : Sp} {t : TA} {g : List Value → List Value → List Value} {gV : List V → List V → List V} (M : Mk X.K C f) (F : FnG X.prog X.w X.K X.mg X.base k f fd ps sp) (gd : X.A.guards = some []) (hr : Room (k + 1) X.A) (hm : X.mg c = some (.ref C)) (hb : KBn X.K fd ps n [] g gV)
    (ha : PA X (e :: es) t) (hg : Gl X c := by rfl) (hdb : (c == ("__debug__" : Str)) = false := by decide) (he : starEach (e :: es) X.env = (false, eval e X.env) :: starEach es X.env := by rfl) (hpl : (backTo pos (starEach es X.env)).any (·.1) = false := by rfl) :
    PE X (.Call (.Name c p) (e :: es) [] pos) (tMakeG C n 0 sp gV t tNil) := by
  refine ⟨fun pins s σ H Q I h => wpAny_Call_Name_kw (ld_glob I hg hm ?_ hdb)⟩
  refine PySem.W.callWith_K (h₀ := X.base) I.ok.mod.kin M.kp (thn (ha.run pos pins s σ H _ I h) fun us s1 ⟨vs, H1, I1, r, l1, l2, q⟩ => ⟨I1.kIn, ?_⟩) he hpl
  exact run_gmake (ks := []) (ws := []) M F gd hr hb I1 r .nil l1 rfl q
theorem pg_makeK {sp : Sp} {t tk : TA} {g : List Value → List Value → List Value} {gV : List V → List V → List V} (M : Mk X.K C f) (F : FnG X.prog X.w X.K X.mg X.base k f fd ps sp) (gd : X.A.guards = some []) (hr : Room (k + 1) X.A) (hm : X.mg c = some (.ref C)) (hb : KBn X.K fd ps n ks g gV)
    (ha : PA X (e :: es) t) (hw : PK X kws tk) (hg : Gl X c := by rfl) (hall : (backToKw pos (keywordEach kws X.env)).all (·.1.isSome) = true := by rfl) (hks : (backToKw pos (keywordEach kws X.env)).filterMap (·.1) = ks := by rfl)
    (hdb : (c == ("__debug__" : Str)) = false := by decide) (he : starEach (e :: es) X.env = (false, eval e X.env) :: starEach es X.env := by rfl)
    (hpl : ((backTo pos (starEach (e :: es) X.env)).any (·.1) || (backToKw pos (keywordEach kws X.env)).any (·.1.isNone)) = false := by rfl) :
    PE X (.Call (.Name c p) (e :: es) kws pos) (tMakeG C n ks.length sp gV t tk) := by
  refine ⟨fun pins s σ H Q I h => wpAny_Call_Name_kw (ld_glob I hg hm ?_ hdb)⟩
  refine PySem.W.callWith_KW (h₀ := X.base) I.ok.mod.kin M.kp hall (thn (ha.run pos pins s σ H _ I h) fun us s1 ⟨vs, H1, I1, r, q⟩ => ?_) hpl he
  refine thn (hw.run pos pins s1 σ H1 _ I1 q) fun ws s2 ⟨zs, H2, I2, rz, l1, l2, q2⟩ => ⟨I2.kIn, ?_⟩
  rw [hks]
  exact run_gmake M F gd hr hb I2 r rz l1 l2 q2
/-- C(..): a new instance, at once counted as frozen -/
def dMake (n m : Nat) (c : Str) (S : ISp) (g2 : List D → List D → List D) (t tk : DA) : DE := fun G Q => t G fun ds G1 => tk G1 fun es G2 => ds.length + 1 = n ∧ es.length = m ∧ S G2.c (g2 ds es) fun fs j => ∀ a, Q (.dat (.ins a c fs)) (G2.at j)
theorem make_dat {t tk : DA} {gV : List V → List V → List V} {g2 : List D → List D → List D} {m : Nat} {Qv : VK} (nn : PySem.W.nsIn K mainGlobals c = some (some (.ref C))) (hg : ∀ (W : Wd) (ds es : List D) (vs zs : List V), RpL K W ds vs → RpL K W es zs → RpL K W (gD ds es) (gV vs zs))
    (h2 : ∀ a ds es, gD (.ref a :: ds) es = .ref a :: g2 ds es) (h : can K (dMake n m c S g2 t tk) σ H Qv) : tMakeG C n m (iSp K c S) gV (canA K t) (canA K tk) σ H Qv := by
  obtain ⟨W, P, G, Q, R, t0, kk⟩ := h
  refine ⟨W, P, G, _, R, t0, fun W1 ds G1 vs H1 l1 R1 r1 q1 => ⟨W1, P, G1, _, R1, q1, fun W2 es G2 zs H2 l2 R2 r2 ⟨hn, hm, q2⟩ => ⟨by rw [r1.length]; exact hn, by rw [r2.length]; exact hm, fun x dx hx hdx ne => ?_⟩⟩⟩
  obtain ⟨P0, R0, F, hP⟩ := R2.enter
  have hx' : upd H2 dx (.own x) x = none := by rw [upd_ne (Ne.symm ne)]; exact hx
  have R3 := (R0.grow (o := .own x) hdx).grow (o := .ins C dx []) hx'
  have pr := (R0.grow (o := .own x) hdx).priv (o := .ins C dx []) hx'
  have rl : RpL K W2 (.ref x :: ds) (.ref x :: vs) := ⟨_, _, rfl, rfl, RpL.mono l2 _ _ r1⟩
  have rg := hg W2 _ _ _ _ rl r2
  rw [h2] at rg
  obtain ⟨v0, us, ev, e0, ru⟩ := rg
  obtain rfl : v0 = .ref x := e0
  refine ⟨W2, P0, _, _, _, x, C, dx, us, ev, nn, R3, pr, ru, q2, fun W' fs dx' gs m H' l R' pr' rf q => ⟨rfl, ?_⟩⟩
  have rr : RV K W' P0 ⟨[], m⟩ [] H' (.new (.ins x c fs)) (.ref x) := ⟨x, .ins C dx' gs, rfl, pr', ⟨rfl, nn, rf⟩, fun i e h => (by cases h)⟩
  have R4 := R2.leave F hP l R'
  obtain ⟨W5, l5, R5, r5⟩ := R4.settle (R2.result F rr)
  exact kk W5 (.dat _) _ _ _ (((l1.trans l2).trans l).trans l5) R5 r5 (q x)
theorem dh_make {t : DA} {g2 : List D → List D → List D} (h : HasI X.prog X.w X.K X.mg X.base j c qual st dd ps S) (gd : X.A.guards = some []) (hr : Room k X.A) (hb : ∀ f fd, FunT X.K "__init__" qual st dd f fd → Bnd X.K fd ps n [] gD) (h2 : ∀ a ds es, gD (.ref a :: ds) es = .ref a :: g2 ds es)
    (ha : PA X (e :: es) (canA X.K t)) (hj : j + 1 ≤ k := by decide) (hg : Gl X c := by rfl) (hdb : (c == ("__debug__" : Str)) = false := by decide) (he : starEach (e :: es) X.env = (false, eval e X.env) :: starEach es X.env := by rfl) (hpl : (backTo pos (starEach es X.env)).any (·.1) = false := by rfl) :
    PE X (.Call (.Name c p) (e :: es) [] pos) (can X.K (dMake n 0 c S g2 t dNil)) := by
  obtain ⟨C, f, fd, nn, hm, M, F, h⟩ := h
  obtain ⟨g, gV, hb, hG⟩ := (hb f fd F).ex
  refine PE.imp (pg_make M h gd (hr.mono hj) hm hb ha hg hdb he hpl) fun σ H Q q => ?_
  obtain ⟨W, P, G, Q', R, t0, kk⟩ := make_dat nn (hG X.K) h2 q
  refine ⟨W, P, G, Q', R, t0, fun W1 ds G1 vs H1 l1 R1 r1 q1 => ?_⟩
  obtain ⟨W2, P2, G2, Q2, R2, t2, k2⟩ := kk W1 ds G1 vs H1 l1 R1 r1 q1
  exact k2 W2 [] G2 [] _ (.refl W2) R2 rfl t2
theorem dh_makeK {t tk : DA} {g2 : List D → List D → List D} (h : HasI X.prog X.w X.K X.mg X.base j c qual st dd ps S) (gd : X.A.guards = some []) (hr : Room k X.A) (ks : List Str) (hb : ∀ f fd, FunT X.K "__init__" qual st dd f fd → Bnd X.K fd ps n ks gD) (h2 : ∀ a ds es, gD (.ref a :: ds) es = .ref a :: g2 ds es)
    (ha : PA X (e :: es) (canA X.K t)) (hw : PK X kws (canA X.K tk)) (hj : j + 1 ≤ k := by decide) (hg : Gl X c := by rfl) (hall : (backToKw pos (keywordEach kws X.env)).all (·.1.isSome) = true := by rfl) (hks : (backToKw pos (keywordEach kws X.env)).filterMap (·.1) = ks := by rfl)
    (hdb : (c == ("__debug__" : Str)) = false := by decide) (he : starEach (e :: es) X.env = (false, eval e X.env) :: starEach es X.env := by rfl)
    (hpl : ((backTo pos (starEach (e :: es) X.env)).any (·.1) || (backToKw pos (keywordEach kws X.env)).any (·.1.isNone)) = false := by rfl) :
    PE X (.Call (.Name c p) (e :: es) kws pos) (can X.K (dMake n ks.length c S g2 t tk)) := by
  obtain ⟨C, f, fd, nn, hm, M, F, h⟩ := h
  obtain ⟨g, gV, hb, hG⟩ := (hb f fd F).ex
  exact PE.imp (pg_makeK M h gd (hr.mono hj) hm hb ha hw hg hall hks hdb he hpl) fun σ H Q q => make_dat nn (hG X.K) h2 q
end
/-! ### a method of the own instance, its result free of instances -/
mutual
/-- no instance is in it -/
def NoI : D → Prop
  | .tup ds => NoIL ds
  | .lst ds => NoIL ds
  | .dT es => NoIT es
  | .dK es => NoIK es
  | .ins _ _ _ => False
  | .exc _ _ _ _ => False
  | _ => True
def NoIL : List D → Prop
  | [] => True
  | d :: ds => NoI d ∧ NoIL ds
def NoIT : List (List Key × D) → Prop
  | [] => True
  | (_, d) :: ds => NoI d ∧ NoIT ds
def NoIK : List (Key × D) → Prop
  | [] => True
  | (_, d) :: ds => NoI d ∧ NoIK ds
end
/-- the world without what stands at a -/
noncomputable def outW (W : Wd) (a : Addr) : Wd := open Classical in ⟨fun b => if b = a then none else W.F b, W.S⟩
section
variable {K : PySem.W.Frag} {W W' : Wd} {P P0 : Hp} {G : Gm} {σ : St} {H H' : Hp} {a : Addr}
theorem out_ne {b : Addr} (h : b ≠ a) : (outW W a).F b = W.F b := if_neg h
theorem out_at : (outW W a).F a = none := if_pos rfl
theorem outw_some {b : Addr} {o : HO} (h : (outW W a).F b = some o) : b ≠ a ∧ W.F b = some o := by
  by_cases e : b = a
  · subst e; rw [out_at] at h; cases h
  · rw [out_ne e] at h; exact ⟨e, h⟩
theorem out_keep {C dx : Addr} {gs : List (Str × V)} (e : W.F a = some (.ins C dx gs)) {b : Addr} {o : HO} (h : W.F b = some o) (n : ∀ C dx gs, o ≠ .ins C dx gs) : (outW W a).F b = some o := by
  rw [out_ne fun z => by subst z; rw [e] at h; cases h; exact n _ _ _ rfl]; exact h
mutual
theorem NoI.out {C dx : Addr} {gs : List (Str × V)} (e : W.F a = some (.ins C dx gs)) : ∀ (d : D) (v : V), NoI d → Rp K W d v → Rp K (outW W a) d v
  | .non, _, _, h => h
  | .bl _, _, _, h => h
  | .int _, _, _, h => h
  | .str _, _, _, h => h
  | .ty _, _, _, h => h
  | .ref _, _, _, h => h
  | .src, _, _, h => h
  | .tup ds, _, n, h => by obtain ⟨b, xs, e1, s, r⟩ := h; exact ⟨b, xs, e1, out_keep e s (fun _ _ _ z => nomatch z), NoI.outL e ds xs n r⟩
  | .scr ns, _, _, h => by
    obtain ⟨b, e1, s⟩ := h
    exact ⟨b, e1, s.imp (fun q => q.imp (fun q => out_keep e q (fun _ _ _ z => nomatch z)) fun ⟨o, q⟩ => ⟨o, out_keep e q (fun _ _ _ z => nomatch z)⟩) id⟩
  | .lst ds, _, n, h => by obtain ⟨b, xs, e1, s, r⟩ := h; exact ⟨b, xs, e1, out_keep e s (fun _ _ _ z => nomatch z), NoI.outL e ds xs n r⟩
  | .dT ds, _, n, h => by obtain ⟨b, xs, e1, s, r⟩ := h; exact ⟨b, xs, e1, s.imp (fun q => out_keep e q (fun _ _ _ z => nomatch z)) fun ⟨o, q⟩ => ⟨o, out_keep e q (fun _ _ _ z => nomatch z)⟩, NoI.outT e ds xs n r⟩
  | .dK ds, _, n, h => by obtain ⟨b, xs, e1, s, r⟩ := h; exact ⟨b, xs, e1, s.imp (fun q => out_keep e q (fun _ _ _ z => nomatch z)) fun ⟨o, q⟩ => ⟨o, out_keep e q (fun _ _ _ z => nomatch z)⟩, NoI.outK e ds xs n r⟩
  | .ins _ _ _, _, n, _ => n.elim
  | .exc _ _ _ _, _, n, _ => n.elim
theorem NoI.outL {C dx : Addr} {gs : List (Str × V)} (e : W.F a = some (.ins C dx gs)) : ∀ (d : List D) (v : List V), NoIL d → RpL K W d v → RpL K (outW W a) d v
  | [], _, _, h => h
  | d :: ds, _, n, h => by obtain ⟨v, r, e1, h, t⟩ := h; exact ⟨v, r, e1, NoI.out e d v n.1 h, NoI.outL e ds r n.2 t⟩
theorem NoI.outT {C dx : Addr} {gs : List (Str × V)} (e : W.F a = some (.ins C dx gs)) : ∀ (d : List (List Key × D)) (v : List (List Key × V)), NoIT d → RpT K W d v → RpT K (outW W a) d v
  | [], _, _, h => h
  | (_, d) :: ds, _, n, h => by obtain ⟨v, r, e1, h, t⟩ := h; exact ⟨v, r, e1, NoI.out e d v n.1 h, NoI.outT e ds r n.2 t⟩
theorem NoI.outK {C dx : Addr} {gs : List (Str × V)} (e : W.F a = some (.ins C dx gs)) : ∀ (d : List (Key × D)) (v : List (Key × V)), NoIK d → RpK K W d v → RpK K (outW W a) d v
  | [], _, _, h => h
  | (_, d) :: ds, _, n, h => by obtain ⟨v, r, e1, h, t⟩ := h; exact ⟨v, r, e1, NoI.out e d v n.1 h, NoI.outK e ds r n.2 t⟩
end
def NoIS : SV → Prop
  | .dat d => NoI d
  | .new d => NoI d
  | .bor _ => False
def inW (W : Wd) (a : Addr) (o : HO) : Wd := ⟨upd W.F a o, W.S⟩
theorem in_le {o : HO} (h : W.F a = none) : W.le (inW W a o) := ⟨fun b u e => by
  show upd W.F a o b = _
  rw [upd_ne (ne_of_none e h)]; exact e, fun _ h => h⟩
/-- the own instance counts as frozen for a while -/
theorem Rl.inI (R : Rl K W P G σ H) {C dx : Addr} {gs : List (Str × V)} (pr : Priv W H P a (.ins C dx gs)) : Rl K (inW W a (.ins C dx gs)) P ⟨[], G.c⟩ [] H := by
  refine ⟨rfl, fun b u e => ?_, fun b h => ?_, fun p o e => ?_, fun i d e => (by cases e), fun i d e => (by cases e), fun i j d e _ h1 _ => (by cases h1), R.pnt⟩
  · have e : upd W.F a _ b = some u := e
    by_cases hb : b = a
    · subst hb; rw [upd_same] at e; cases e; exact pr.at_
    · rw [upd_ne hb] at e; exact R.le b u e
  · obtain ⟨h1, h2, h3⟩ := R.src b h
    refine ⟨?_, h2, h3⟩
    show upd W.F a _ b = none
    rw [upd_ne fun z => by subst z; exact pr.s h]; exact h1
  · obtain ⟨h1, h2⟩ := R.prot p o e
    refine ⟨h1, ?_⟩
    show upd W.F a _ p = none
    rw [upd_ne fun z => by subst z; rw [pr.n] at e; cases e]; exact h2
/-- .. and is the slot's own again -/
theorem Rl.outI (R : Rl K W P G σ H) {i : Nat} {c : Str} {fs : List (Str × D)} {C dx : Addr} {gs : List (Str × V)} {m : Nat} (e : gg G i = some (.own (.ins a c fs))) (es : σ[i]? = some (some (.ref a))) (pr : Priv W H P a (.ins C dx gs))
    (F : Full (inW W a (.ins C dx gs)) P0 H) (l : (inW W a (.ins C dx gs)).le W') (R' : Rl K W' P0 ⟨[], m⟩ [] H') : Rl K (outW W' a) P (G.at m) σ H' ∧ W.le (outW W' a) ∧
      ∀ sv v, NoIS sv → RV K W' P0 ⟨[], m⟩ [] H' sv v → RV K (outW W' a) P (G.at m) σ H' sv v := by
  have fa : W'.F a = some (.ins C dx gs) := l.f _ _ upd_same
  have lw : W.le (outW W' a) := ⟨fun b u q => by
    have hb : b ≠ a := ne_of_none q pr.f
    rw [out_ne hb]; exact l.f b u (by show upd W.F a _ b = _; rw [upd_ne hb]; exact q), fun b h => l.s b h⟩
  have inN : ∀ {p : Addr}, p ≠ a → W.F p = none → (inW W a (.ins C dx gs)).F p = none := fun {p} h q => by show upd W.F a _ p = none; rw [upd_ne h]; exact q
  have P0of : ∀ {p o}, p ≠ a → H p = some o → W.F p = none → ¬ W.S p → (∀ xs, o ≠ .tup xs) → P0 p = some o := fun {p o} h q f s n => F p o q (inN h f) s n
  have pp : ∀ p o, P p = some o → P0 p = some o := fun p o q => by
    obtain ⟨h1, h2⟩ := R.prot p o q
    exact P0of (fun z => by subst z; rw [pr.n] at q; cases q) h1 h2 (fun s => by have := (R.src p s).2.1; rw [q] at this; cases this) fun xs z => R.pnt p xs (by rw [q, z])
  have oN : ∀ {p : Addr}, W'.F p = none → (outW W' a).F p = none := fun {p} q => by
    by_cases h : p = a
    · subst h; exact out_at
    · rw [out_ne h]; exact q
  have oth : ∀ {j : Nat} {d : D}, gg G j = some (.own d) → j ≠ i → ∃ p o, σ[j]? = some (some (.ref p)) ∧ p ≠ a ∧ Priv W H P p o ∧ RO K W p o d ∧ P0 p = some o := fun {j d} q hj => by
    obtain ⟨p, o, h1, h2, h3⟩ := R.own j d q
    have hp : p ≠ a := fun z => R.sep j i d _ hj q e (by rw [h1, es, z])
    exact ⟨p, o, h1, hp, h2, h3, P0of hp h2.at_ h2.f h2.s h3.nt⟩
  refine ⟨⟨R.len, fun b u q => R'.le b u (outw_some q).2, fun b h => ?_, fun p o q => ?_, fun j d q => ?_, fun j d q => ?_, R.sep, R.pnt⟩, lw, fun sv v n r => ?_⟩
  · obtain ⟨h1, h2, h3⟩ := R'.src b h
    refine ⟨oN h1, ?_, h3⟩
    cases q : P b with
    | none => rfl
    | some o => rw [pp b o q] at h2; cases h2
  · obtain ⟨h1, h2⟩ := R'.prot p o (pp p o q)
    exact ⟨h1, oN h2⟩
  · obtain ⟨v, h1, h2⟩ := R.dat j d q
    exact ⟨v, h1, Rp.mono lw _ _ h2⟩
  · by_cases hj : j = i
    · subst hj
      have q : gg G j = some (.own d) := q
      rw [e] at q; cases q
      obtain ⟨p, o, h1, h2, h3⟩ := R.own j _ e
      rw [es] at h1; cases h1
      have := h2.at_; rw [pr.at_] at this; cases this
      refine ⟨a, _, es, ⟨R'.le _ _ fa, out_at, fun s => ?_, pr.n⟩, h3.mono lw⟩
      have := (R'.src a s).1
      rw [fa] at this; cases this
    · obtain ⟨p, o, h1, hp, h2, h3, h4⟩ := oth q hj
      obtain ⟨a1, a2⟩ := R'.prot p o h4
      exact ⟨p, o, h1, ⟨a1, oN a2, (fun s => by have := (R'.src p s).2.1; rw [h4] at this; cases this), h2.n⟩, h3.mono lw⟩
  · cases sv with
    | bor j => exact n.elim
    | dat d => exact NoI.out fa d v n r
    | new d =>
      obtain ⟨p, o, rfl, p1, ro, _⟩ := r
      refine ⟨p, o, rfl, ⟨p1.at_, oN p1.f, p1.s, ?_⟩, ?_, fun j x h1 h2 => ?_⟩
      · cases q : P p with
        | none => rfl
        | some u => have := pp p u q; rw [p1.n] at this; cases this
      · cases o <;> cases d <;> first | exact False.elim ro | exact NoI.outL fa _ _ n ro | exact NoI.outT fa _ _ n ro | exact NoI.outK fa _ _ n ro | exact False.elim n
      · by_cases hj : j = i
        · subst hj
          rw [es] at h2; cases h2
          have := p1.f; rw [fa] at this; cases this
        · obtain ⟨q, u, h3, _, _, _, h4⟩ := oth h1 hj
          rw [h2] at h3; cases h3
          have := p1.n; rw [h4] at this; cases this
end
section
variable {X : Cx} {K : PySem.W.Frag} {W W' : Wd} {P : Hp} {G : Gm} {σ : St} {H : Hp} {e : Expr} {es : List Expr} {p pos apos : Pos} {j k n : Nat} {f C : Addr} {fd : FuncData} {ps ks : List Str} {c m qual : Str} {st : Stmt} {dd : List D} {S : DSp} {gD : List D → List D → List D}
def dMethL (i : Nat) (c m : Str) (S : DSp) : DE := fun G Q => ownI c (gg G i) fun a fs => fs.lookup m = none ∧ S G.c [.ins a c fs] fun r j => NoIS r ∧ Q r (G.at j)
/-- self.m() in an __init__ -/
theorem dh_methL {x : Str} {px : Pos} {pl : Sem Bool} (i : Nat) (h : HasM X.prog X.w X.K X.mg X.base j c m qual st dd ps S) (gd : X.A.guards = some []) (hr : Room k X.A) (hb : ∀ f fd, FunT X.K m qual st dd f fd → Bnd X.K fd ps 1 [] fun ds _ => ds) (hj : j ≤ k := by decide)
    (hN : X.N[i]? = some x := by rfl) (hvx : Vis X.env.scope x := by first | exact Or.inl rfl | exact Or.inr (Or.inl rfl) | exact Or.inr (Or.inr rfl))
    (hd : (x == ("__debug__" : Str)) = false := by decide) (hcd : (x == ("__classdict__" : Str)) = false := by decide)
    (ht : eval (.Call (.Attribute (.Name x px) m apos) [] [] pos) X.env = (do
      let ov ← eval (.Name x px) X.env
      standAt apos.atName
      let (f, first) ← holding [ov] (getMethod ov m pl)
      callWith pos f first (backTo pos (starEach [] X.env)) (backToKw pos (keywordEach [] X.env))) := by rfl) :
    PE X (.Call (.Attribute (.Name x px) m apos) [] [] pos) (can X.K (dMethL i c m S)) := by
  obtain ⟨C, f, fd, nn, cl, mm, F, h⟩ := h
  obtain ⟨g, gV, hb, hg⟩ := (hb f fd F).ex
  refine PE.imp (pg_meth0 (pe_var hN hvx hd hcd) cl mm h gd (hr.mono hj) hb ht) ?_
  rintro σ H Qv ⟨W, P, G, Q, R, t, kk⟩
  obtain ⟨a, C', dx, fs, gs, e1, e2, nn', pr, rf, q1, q⟩ := ownI_of R t
  rw [nn] at nn'; cases nn'
  refine ⟨.ref a, e2, a, dx, gs, rfl, pr.at_, rf.lookup0 q1, rfl, ?_⟩
  have R1 := R.inI pr
  obtain ⟨P0, R0, F0, hP⟩ := R1.enter
  have rl : RpL X.K (inW W a (.ins C dx gs)) [.ins a c fs] [.ref a] := ⟨_, _, rfl, ⟨rfl, C, dx, gs, nn, upd_same, RpF.mono (in_le pr.f) _ _ rf⟩, rfl⟩
  refine ⟨inW W a (.ins C dx gs), P0, _, _, _, R0, F0, hg X.K _ _ [] _ [] rl rfl, q, fun W3 sv j v H3 l3 R3 r3 ⟨ni, q3⟩ => ?_⟩
  obtain ⟨R4, l4, k4⟩ := R.outI e1 e2 pr F0 l3 R3
  exact kk _ sv (G.at j) v H3 l4 R4 (k4 sv v ni r3) q3
end

/-! ### the values of a dict with tuple keys -/
def Itdt (d : Addr) (o : Obj) (kvs : List (List Key × V)) : It :=
  ⟨fun i H => H d = some (.frz o (.dT kvs)) ∧ i < kvs.length, fun i H x H' => H' = H ∧ ∃ k, kvs[i]? = some (k, x), fun i H => H d = some (.frz o (.dT kvs)) ∧ kvs.length ≤ i⟩
section
variable {X : Cx} {pins : List (Addr × Obj)} {σ : St} {H : Hp} {s : Shared} {d : Addr} {o : Obj}
theorem frzTV {kvs : List (List Key × V)} (I : Inv X pins σ H s) (h : H d = some (.frz o (.dT kvs))) :
    (d == sysModules) = false ∧ s.heap.get? d = some o ∧ o.ExactDict ∧ ∃ (es : Array DictEntry) (ep : Nat), o.data = .dict es ep ∧ es.size = kvs.length ∧
      ∀ (i : Nat) (k : List Key) (v : V), kvs[i]? = some (k, v) → ∃ (en : DictEntry) (q : Addr), es[i]? = some en ∧ en.key = .ref q ∧ H q = some (.tup (k.map kV)) ∧ RelV v en.val := by
  obtain ⟨hd, z, hs, xs, pr, o', es, ep, ho, hx, hdt, he, _⟩ := I.hok d _ h
  rw [hd] at ho
  cases ho
  refine ⟨hs, hd, hx, es, ep, hdt, ?_, fun i k v e => ?_⟩
  · have l1 : es.size = xs.length := size_of_entries he
    have l2 : kvs.length = xs.length := Paired.length pr
    omega
  · obtain ⟨b, hb, e1, e2, e3⟩ := paired_get pr e
    have q := entry_at he i
    rw [hb] at q
    exact ⟨_, b.2.1, q, rfl, e2, e3⟩
end
section
variable {P : Program} {w : World} {K : PySem.W.Frag} {tg : Expr} {d : Addr} {o : Obj} {es : Array DictEntry} {ep : Nat}
theorem turn_valsT {kvs : List (List Key × V)} (it : Addr) (hod : o.data = .dict es ep) : Turn P w K tg (Itdt d o kvs) [it] it (fun i h => h.IsValIter it d i kvs.length ep) where
  mem := by simp
  obj := fun i h st b hb => by
    have e : b = it := by simpa using hb
    subst e
    obtain ⟨oi, e, c, dd⟩ := st
    exact ⟨oi, e, fun v z => by rw [dd] at z; cases z⟩
  keep := fun i h h' st k => st.at fun oi e => k it (by simp) oi e
  item := by
    intro X hP hw hK hc i pins s σ H E I hf st hg
    subst hP hw hK
    obtain ⟨hd, hi⟩ := hg
    obtain ⟨f0, f1, f2, f3, f4, f5⟩ := hf it (by simp)
    obtain ⟨hs, hgd, hx, es', ep', hdt, hsz, ent⟩ := frzTV I hd
    obtain ⟨rfl, rfl⟩ := dict_ep hod hdt
    obtain ⟨⟨k, v⟩, hkv⟩ : ∃ p, kvs[i]? = some p := ⟨kvs[i], List.getElem?_eq_getElem hi⟩
    obtain ⟨en, q, hen, hkey, hq, ru⟩ := ent i k v hkv
    have hlt : i < es'.size := by omega
    have een : es'[i] = en := by rw [Array.getElem?_eq_getElem hlt] at hen; exact Option.some.inj hen
    rw [← hsz] at st
    refine wpAny_pyNext_values_item_raw st ⟨o, hgd, hx, hod⟩ hlt fun h' st' sb => ?_
    have I1 : Inv X pins σ H { s with heap := h' } := I.turned (t' := s.toks) (fun b ob hb e => (sb.2 b hb).trans e) f0 f1 f3 f4 f5
    obtain ⟨oi, e, c, dd⟩ := id st'
    refine ⟨es'[i].val, rfl, go_of (s := { s with heap := h' }) e c dd (by decide) ⟨v, H, I1, by rw [een]; exact ru, ⟨rfl, k, hkv⟩, ?_, fun b hb => (hf b hb).1⟩⟩
    show h'.IsValIter it d (i + 1) kvs.length _
    rw [← hsz]
    exact st'
  done := by
    intro X hP hw hK hc i pins s σ H E I hf st hg
    subst hP hw hK
    obtain ⟨hd, hi⟩ := hg
    obtain ⟨f0, f1, f2, f3, f4, f5⟩ := hf it (by simp)
    obtain ⟨hs, hgd, hx, es', ep', hdt, hsz, ent⟩ := frzTV I hd
    obtain ⟨rfl, rfl⟩ := dict_ep hod hdt
    rw [← hsz] at st
    exact wpAny_pyNext_values_end_raw (I.ok.hd hc) st ⟨o, hgd, hx, hod⟩ (by omega) fun h' eb => ⟨rfl, I.turned (t' := s.toks) (fun b ob hb e => eb b ob hb e) f0 f1 f3 f4 f5⟩
  self := fun A i s Q E st h => wpAny_pyIter_valiter st h
end
def iValsE (td : TE) : TI := fun σ H R => td σ H fun x H1 => ∃ d o, x = .ref d ∧ ((∃ kvs, H1 d = some (.frz o (.dK kvs)) ∧ R (Itd d o kvs) H1) ∨ ∃ kvs, H1 d = some (.frz o (.dT kvs)) ∧ R (Itdt d o kvs) H1)
section
variable {X : Cx} {tg e : Expr} {td : TE} {apos cpos : Pos}
theorem pi_valsE (he : PE X e td) (hbase : attributeBase e "values" X.env (eval e X.env) = eval e X.env := by rfl) (hline : (apos.endLine == cpos.line) = true := by rfl) : PI X tg (.Call (.Attribute e "values" apos) [] [] cpos) (iValsE td) := by
  refine ⟨fun pins s σ H R I h => ?_⟩
  refine wpAny_Call_method (T := "dict") (id := "dict.values") hbase rfl hline F.plainAttrs_dict F.slot_dict_values F.type_dict_values (thn (he.run pins s σ H _ I h) fun u s1 ⟨x, H1, I1, rx, d, o, ex, q⟩ => ?_)
  subst ex
  obtain rfl : u = Value.ref d := rx
  have I2 : Inv X pins σ H1 { s1 with heap := s1.heap.push { cls := .type "dict_values", data := .fields #[.ref d] } } := I1.kept (t' := s1.toks) fun b ob q => Heap.get?_push_of_some _ q
  rcases q with ⟨kvs, hd, q⟩ | ⟨kvs, hd, q⟩
  · obtain ⟨hs, hgd, hx, es, ep, vs, hdt, hsz, kv, hm⟩ := I1.frzK hd
    have hl : kvs.length = vs.length := Paired.length kv
    refine ⟨hm.dictOf.typeIs, hm.dictOf.mapOf.noDict, ?_⟩
    have fin : wpAny (model X.prog X.w) X.A (pyIter (.ref s1.heap.objs.size)) (PIE X pins σ tg R) X.xe { s1 with heap := s1.heap.push { cls := .type "dict_values", data := .fields #[.ref d] } } := by
      refine wpAny_pyIter_values (d := d) (knd := mixKind X.prog X.w) ⟨_, Heap.get?_push_size _ rfl, rfl, rfl⟩ (hm.push _) (pi_one (tk := s1.toks) I2 _ (turn_vals _ hdt) ⟨_, Heap.get?_push_size _ rfl, rfl, ?_⟩ q)
      rw [hl] <;> rfl
    show wpAny _ _ (callWith cpos (.builtin "dict.values") [.ref d] [] []) _ X.xe s1
    exact method_meetsIn F.slot_dict_values F.entry_dict_values rfl (PySem.evalArgs_none ⟨rfl, hm.dictOf.typeIs, F.args_dict_values_1 _, _, meets_dict_values (mixKind X.prog X.w) d hs, ⟨vs, hm.dictOf⟩, fin⟩)
  · obtain ⟨hs, hgd, hx, es, ep, hdt, hsz, ent⟩ := frzTV I1 hd
    have hm : s1.heap.DictRaw d es ep := ⟨o, hgd, hx, hdt⟩
    refine ⟨hm.typeIs, fun b z => by cases z; exact ⟨o, hgd, hx.2.1⟩, ?_⟩
    have fin : wpAny (model X.prog X.w) X.A (pyIter (.ref s1.heap.objs.size)) (PIE X pins σ tg R) X.xe { s1 with heap := s1.heap.push { cls := .type "dict_values", data := .fields #[.ref d] } } := by
      refine wpAny_pyIter_values_raw (d := d) (es := es) (ep := ep) ⟨_, Heap.get?_push_size _ rfl, rfl, rfl⟩ (hm.at fun _ q => Heap.get?_push_of_some _ q) (pi_one (tk := s1.toks) I2 _ (turn_valsT _ hdt) ⟨_, Heap.get?_push_size _ rfl, rfl, ?_⟩ q)
      rw [hsz] <;> rfl
    show wpAny _ _ (callWith cpos (.builtin "dict.values") [.ref d] [] []) _ X.xe s1
    exact method_meetsIn F.slot_dict_values F.entry_dict_values rfl (PySem.evalArgs_none ⟨rfl, hm.typeIs, F.args_dict_values_1 _, _, meets_dict_values_raw d hs, ⟨es, ep, hm⟩, fin⟩)
end
section
variable {K : PySem.W.Frag} {W W' : Wd}
def valsT (es : List (List Key × D)) : List D := es.map (·.2)
def valsK (es : List (Key × D)) : List D := es.map (·.2)
theorem walks_valsT {p : Addr} {od : Obj} {kvs : List (List Key × V)} {es : List (List Key × D)} (e : W.F p = some (.frz od (.dT kvs))) (r : RpT K W es kvs) : Walks K W (Itdt p od kvs) (valsT es) := by
  intro W' P G σ H i l R
  have e' : H p = some (.frz od (.dT kvs)) := R.le _ _ (l.f _ _ e)
  have hlen := r.len
  refine ⟨fun d hd => ?_, fun hi => ⟨e', by unfold valsT at hi; rw [List.length_map] at hi; omega⟩⟩
  unfold valsT at hd
  rw [List.getElem?_map] at hd
  obtain ⟨⟨k, d0⟩, hk, rfl⟩ := Option.map_eq_some_iff.mp hd
  have hi : i < es.length := (List.getElem?_eq_some_iff.mp hk).1
  obtain ⟨v0, hv0, r0⟩ := r.at hk
  refine ⟨⟨e', by omega⟩, fun x H' ⟨h1, k', h2⟩ => ?_⟩
  subst h1
  rw [hv0] at h2; cases h2
  exact ⟨W', .refl W', R, Rp.mono l _ _ r0⟩
theorem walks_valsK {p : Addr} {od : Obj} {kvs : List (Key × V)} {es : List (Key × D)} (e : W.F p = some (.frz od (.dK kvs))) (r : RpK K W es kvs) : Walks K W (Itd p od kvs) (valsK es) := by
  intro W' P G σ H i l R
  have e' : H p = some (.frz od (.dK kvs)) := R.le _ _ (l.f _ _ e)
  have hlen := r.len
  refine ⟨fun d hd => ?_, fun hi => ⟨e', by unfold valsK at hi; rw [List.length_map] at hi; omega⟩⟩
  unfold valsK at hd
  rw [List.getElem?_map] at hd
  obtain ⟨⟨k, d0⟩, hk, rfl⟩ := Option.map_eq_some_iff.mp hd
  have hi : i < es.length := (List.getElem?_eq_some_iff.mp hk).1
  obtain ⟨v0, hv0, r0⟩ := r.at hk
  refine ⟨⟨e', by omega⟩, fun x H' ⟨h1, k', h2⟩ => ?_⟩
  subst h1
  rw [hv0] at h2; cases h2
  exact ⟨W', .refl W', R, Rp.mono l _ _ r0⟩
end
def valsD (d : D) (k : List D → Prop) : Prop := match d with
  | .dT es => k (valsT es)
  | .dK es => k (valsK es)
  | _ => False
def dVals (i : Nat) : DI := fun G Q => frz G (.bor i) fun d G1 => valsD d fun ds => Q ds G1
section
variable {X : Cx} {K : PySem.W.Frag} {W : Wd} {P : Hp} {G : Gm} {σ : St} {H : Hp} {tg elt : Expr} {pos : Pos}
/-- the walk, of a locked dict or of one that is locked for it -/
theorem lck_EV {i : Nat} {B : (Qv : VK) → It → Hp → Prop} {Qv : VK} {f : List D → Gm → Prop} {Q : DQ}
    (h : ∃ G, ∃ R0 : ∃ W P, Rl K W P G σ H ∧ (∀ W' sv G' v H', W.le W' → Rl K W' P G' σ H' → RV K W' P G' σ H' sv v → Q sv G' → Qv v H') ∧
        (∀ (Qv : VK) W1 G1 H1 J ds, Rl K W1 P G1 σ H1 → Walks K W1 J ds → f ds G1 → (∀ W' sv G' v H', W1.le W' → Rl K W' P G' σ H' → RV K W' P G' σ H' sv v → Q sv G' → Qv v H') → B Qv J H1), dVals i G f) :
    tLockE (fun σ H Qv => iValsE (tVar i) σ H fun J H1 => B Qv J H1) σ H Qv ∨ iValsE (tVar i) σ H fun J H1 => B Qv J H1 := by
  obtain ⟨G, ⟨W, P, R, k, b⟩, t⟩ := h
  obtain ⟨v, W1, d, G1, e, l1, R1, r1, q1⟩ := R.frzAt t
  cases d <;> first | exact False.elim q1 | skip
  · obtain ⟨a, kvs, rfl, f1 | ⟨od, f1⟩, r⟩ := r1
    · refine .inl ⟨a, .dT kvs, R1.le _ _ f1, trivial, fun od => ?_⟩
      have RL := R1.lck (u := .dT kvs) (o' := .frz od (.dT kvs)) trivial f1 (.inl rfl) (.inr ⟨od, rfl⟩)
      refine ⟨.ref a, e, a, od, rfl, .inr ⟨kvs, upd_same, b _ _ _ _ _ _ RL (walks_valsT upd_same (RpT.mono2 (lck_le2 (u := .dT kvs) trivial f1 (.inl rfl) (.inr ⟨od, rfl⟩)) _ _ r)) q1 fun W' sv G' v H' l' R' r' q' => ?_⟩⟩
      have fa := l'.f _ _ upd_same
      exact ⟨R'.le _ _ fa, k _ sv G' v _ (lck_back l1 f1 l') (R'.lck (u := .dT kvs) trivial fa (.inr ⟨od, rfl⟩) (.inl rfl)) (RV.lck (u := .dT kvs) trivial fa (.inr ⟨od, rfl⟩) (.inl rfl) r') q'⟩
    · exact .inr ⟨.ref a, e, a, od, rfl, .inr ⟨kvs, R1.le _ _ f1, b _ _ _ _ _ _ R1 (walks_valsT f1 r) q1 fun W' sv G' v H' l' => k W' sv G' v H' (l1.trans l')⟩⟩
  · obtain ⟨a, kvs, rfl, f1 | ⟨od, f1⟩, r⟩ := r1
    · refine .inl ⟨a, .dK kvs, R1.le _ _ f1, trivial, fun od => ?_⟩
      have RL := R1.lck (u := .dK kvs) (o' := .frz od (.dK kvs)) trivial f1 (.inl rfl) (.inr ⟨od, rfl⟩)
      refine ⟨.ref a, e, a, od, rfl, .inl ⟨kvs, upd_same, b _ _ _ _ _ _ RL (walks_valsK upd_same (RpK.mono2 (lck_le2 (u := .dK kvs) trivial f1 (.inl rfl) (.inr ⟨od, rfl⟩)) _ _ r)) q1 fun W' sv G' v H' l' R' r' q' => ?_⟩⟩
      have fa := l'.f _ _ upd_same
      exact ⟨R'.le _ _ fa, k _ sv G' v _ (lck_back l1 f1 l') (R'.lck (u := .dK kvs) trivial fa (.inr ⟨od, rfl⟩) (.inl rfl)) (RV.lck (u := .dK kvs) trivial fa (.inr ⟨od, rfl⟩) (.inl rfl) r') q'⟩
    · exact .inr ⟨.ref a, e, a, od, rfl, .inl ⟨kvs, R1.le _ _ f1, b _ _ _ _ _ _ R1 (walks_valsK f1 r) q1 fun W' sv G' v H' l' => k W' sv G' v H' (l1.trans l')⟩⟩
theorem de_lcV {x : Str} {px apos cpos : Pos} {i : Nat} {ifs : List Expr} {scope : Scope} {own : List (Str × Nat)} {g : DG} {tt : DT} {te : DE} (hN : X.N.Nodup) (ok : BlkOk X.N X.env.scope scope own)
    (hg : ∀ (s : Shared) (H : Hp) (C : Addr) (cl : List (Str × Addr)) (fp : List Addr), PG (X.blk s H scope (compEnvC scope cl C X.env) fp) tg (canG X.K (own.map (·.2)) g))
    (ht : ∀ (s : Shared) (H : Hp) (C : Addr) (cl : List (Str × Addr)) (fp : List Addr), PTs (X.blk s H scope (compEnvC scope cl C X.env) fp) ifs (canT X.K tt))
    (he : ∀ (s : Shared) (H : Hp) (C : Addr) (cl : List (Str × Addr)) (fp : List Addr), PE (X.blk s H scope (compEnvC scope cl C X.env) fp) elt (can X.K te)) (hi : X.N[i]? = some x := by rfl) (hv : Vis X.env.scope x := by first | exact Or.inl rfl | exact Or.inr (Or.inl rfl) | exact Or.inr (Or.inr rfl))
    (hline : (apos.endLine == cpos.line) = true := by rfl) (hd : (x == ("__debug__" : Str)) = false := by decide) (hcd : (x == ("__classdict__" : Str)) = false := by decide) (hc : X.calm = true := by rfl) (hs : ∀ y, foldedSetIterable (.Call (.Attribute (.Name x px) "values" apos) [] [] cpos) X.env y = pure y := by intro _; rfl) :
    PE X (.ListComp elt [⟨tg, .Call (.Attribute (.Name x px) "values" apos) [] [] cpos, ifs, 0⟩] scope pos) (can X.K (dLc (own.map (·.2)) (dVals i) g tt te)) := by
  have h0 := pe_lc (pos := pos) hc hN (pi_valsE (tg := tg) (apos := apos) (cpos := cpos) (pe_var (pos := px) hi hv hd hcd) rfl hline) ok hg ht he hs
  refine PE.imp (PE.or (pe_lock h0) h0) ?_
  rintro σ H Qv ⟨W, P, G, Q, R, t, k⟩
  exact lck_EV (B := fun Qv J H1 => LcB (canG X.K (own.map (·.2)) g) (canT X.K tt) (can X.K te) (own.map (·.2)) σ Qv J H1) ⟨G, ⟨W, P, R, k, fun Qv W1 G1 H1 J ds R1 w q k' => lc_J R1 w q.1 q.2 k'⟩, t⟩
theorem ds_setLcV {x y : Str} {px py apos cpos spos : Pos} {j : Nat} (i : Nat) {ifs : List Expr} {scope : Scope} {own : List (Str × Nat)} {g : DG} {tt : DT} {te : DE} (hN : X.N.Nodup) (ok : BlkOk X.N X.env.scope scope own)
    (hg : ∀ (s : Shared) (H : Hp) (C : Addr) (cl : List (Str × Addr)) (fp : List Addr), PG (X.blk s H scope (compEnvC scope cl C X.env) fp) tg (canG X.K (own.map (·.2)) g))
    (ht : ∀ (s : Shared) (H : Hp) (C : Addr) (cl : List (Str × Addr)) (fp : List Addr), PTs (X.blk s H scope (compEnvC scope cl C X.env) fp) ifs (canT X.K tt))
    (he : ∀ (s : Shared) (H : Hp) (C : Addr) (cl : List (Str × Addr)) (fp : List Addr), PE (X.blk s H scope (compEnvC scope cl C X.env) fp) elt (can X.K te))
    (hsw : swapsWith (.ListComp elt [⟨tg, .Call (.Attribute (.Name x px) "values" apos) [] [] cpos, ifs, 0⟩] scope pos) (some (.Name y py)) spos.line X.env = pure true) (hj : X.N[j]? = some x := by rfl) (hv : Vis X.env.scope x := by first | exact Or.inl rfl | exact Or.inr (Or.inl rfl) | exact Or.inr (Or.inr rfl))
    (hline : (apos.endLine == cpos.line) = true := by rfl) (hd : (x == ("__debug__" : Str)) = false := by decide) (hcd : (x == ("__classdict__" : Str)) = false := by decide) (hy : X.N[i]? = some y := by rfl) (hyl : X.env.scope.names.lookup y = some .local := by rfl) (hc : X.calm = true := by rfl) (hs : ∀ y, foldedSetIterable (.Call (.Attribute (.Name x px) "values" apos) [] [] cpos) X.env y = pure y := by intro _; rfl) :
    PS X (.Assign [.Name y py] (.ListComp elt [⟨tg, .Call (.Attribute (.Name x px) "values" apos) [] [] cpos, ifs, 0⟩] scope pos) spos) (canS X.K (dAsg (dLc (own.map (·.2)) (dVals j) g tt te) (dgName i))) := by
  have h0 := ps_setLc hc hN hy hyl hsw (pi_valsE (tg := tg) (apos := apos) (cpos := cpos) (pe_var (pos := px) hj hv hd hcd) rfl hline) ok hg ht he hs
  refine PS.imp (PS.or (ps_lock h0) h0) fun D σ H h => ?_
  obtain ⟨W, P, G, Q, R, t, k⟩ := asg_ok (ws := [i]) h
  refine lck_EV (i := j)
    (B := fun Qv J H1 => LcB (canG X.K (own.map (·.2)) g) (canT X.K tt) (can X.K te) (own.map (·.2)) σ Qv J H1) (Qv := fun v H1 => D.nx (σ.set i (some v)) H1)
    ⟨G, ⟨W, P, R, ?_, fun Qv W1 G1 H1 J ds R1 w q k' => lc_J R1 w q.1 q.2 k'⟩, t⟩
  intro W1 sv G1 v H1 l1 R1 r1 q
  obtain ⟨W2, P2, G2, sv2, Q2, R2, r2, t2, k2⟩ := k W1 sv G1 v H1 l1 R1 r1 q
  obtain ⟨W', c, G', l, R', q⟩ := R2.rest (i := i) r2 t2
  exact k2 W' _ _ H1 l R' (But.set (by simp) _) q
/-- for k in d -/
theorem ds_forV {x : Str} {px apos cpos : Pos} {i : Nat} {body : List Stmt} {g : DG} {tb : DS} {ws : List Nat} (hp : PassesOwn (model X.prog X.w) X.A X.env X.xe) (hg : PG X tg (canG X.K ws g)) (hb : PSs X body (canS X.K tb)) (hi : X.N[i]? = some x := by rfl) (hv : Vis X.env.scope x := by first | exact Or.inl rfl | exact Or.inr (Or.inl rfl) | exact Or.inr (Or.inr rfl))
    (hline : (apos.endLine == cpos.line) = true := by rfl) (hd : (x == ("__debug__" : Str)) = false := by decide) (hcd : (x == ("__classdict__" : Str)) = false := by decide) (hc : X.calm = true := by rfl) (hs : ∀ y, foldedSetIterable (.Call (.Attribute (.Name x px) "values" apos) [] [] cpos) X.env y = pure y := by intro _; rfl) :
    PS X (.For tg (.Call (.Attribute (.Name x px) "values" apos) [] [] cpos) body [] pos) (canS X.K (dFor (dVals i) g tb)) := by
  have h0 := ps_for (pos := pos) hp hc (pi_valsE (tg := tg) (apos := apos) (cpos := cpos) (pe_var (pos := px) hi hv hd hcd) rfl hline) hg hb hs
  refine PS.imp (PS.or (ps_lock h0) h0) ?_
  rintro D σ H ⟨W, P, G, E, R, t, k⟩
  have t : LD.frz G (.bor i) fun d G1 => valsD d fun ds => forL g tb E ds G1 := t
  obtain ⟨v, W1, d, G1, e, l1, R1, r1, q1⟩ := R.frzAt t
  have ends : ∀ {a : Addr} {u : HO} {od : Obj}, DicO u → W1.F a = some u → EndsOk X.K (lckW W1 a (.frz od u)) P E ⟨fun σ' H' => H' a = some (.frz od u) ∧ D.nx σ' (upd H' a u), fun v H' => H' a = some (.frz od u) ∧ D.rt v (upd H' a u), fun σ' H' => H' a = some (.frz od u) ∧ D.bk σ' (upd H' a u), fun σ' H' => H' a = some (.frz od u) ∧ D.ct σ' (upd H' a u)⟩ := fun {a u od} du f1 => by
    have go : ∀ {W' : Wd}, (lckW W1 a (.frz od u)).le W' → W'.F a = some (.frz od u) := fun {W'} l => l.f _ _ upd_same
    exact ⟨fun W' G' σ' H' l' R' q' => ⟨R'.le _ _ (go l'), k.nx _ G' σ' _ (lck_back l1 f1 l') (R'.lck du (go l') (.inr ⟨od, rfl⟩) (.inl rfl)) q'⟩,
      fun W' G' σ' H' l' R' q' => ⟨R'.le _ _ (go l'), k.bk _ G' σ' _ (lck_back l1 f1 l') (R'.lck du (go l') (.inr ⟨od, rfl⟩) (.inl rfl)) q'⟩,
      fun W' G' σ' H' l' R' q' => ⟨R'.le _ _ (go l'), k.ct _ G' σ' _ (lck_back l1 f1 l') (R'.lck du (go l') (.inr ⟨od, rfl⟩) (.inl rfl)) q'⟩,
      fun W' sv n v H' l' R' r' q' => ⟨R'.le _ _ (go l'), k.rt _ sv n v _ (lck_back l1 f1 l') (R'.lck du (go l') (.inr ⟨od, rfl⟩) (.inl rfl)) (RV.lck du (go l') (.inr ⟨od, rfl⟩) (.inl rfl) r') q'⟩⟩
  cases d <;> first | exact False.elim q1 | skip
  · obtain ⟨a, kvs, rfl, f1 | ⟨od, f1⟩, r⟩ := r1
    · refine .inl ⟨a, .dT kvs, R1.le _ _ f1, trivial, fun od => ?_⟩
      have RL := R1.lck (u := .dT kvs) (o' := .frz od (.dT kvs)) trivial f1 (.inl rfl) (.inr ⟨od, rfl⟩)
      exact ⟨.ref a, e, a, od, rfl, .inr ⟨kvs, upd_same, for_J RL (walks_valsT upd_same (RpT.mono2 (lck_le2 (u := .dT kvs) trivial f1 (.inl rfl) (.inr ⟨od, rfl⟩)) _ _ r)) q1 (ends trivial f1)⟩⟩
    · exact .inr ⟨.ref a, e, a, od, rfl, .inr ⟨kvs, R1.le _ _ f1, for_J R1 (walks_valsT f1 r) q1 (k.le l1)⟩⟩
  · obtain ⟨a, kvs, rfl, f1 | ⟨od, f1⟩, r⟩ := r1
    · refine .inl ⟨a, .dK kvs, R1.le _ _ f1, trivial, fun od => ?_⟩
      have RL := R1.lck (u := .dK kvs) (o' := .frz od (.dK kvs)) trivial f1 (.inl rfl) (.inr ⟨od, rfl⟩)
      exact ⟨.ref a, e, a, od, rfl, .inl ⟨kvs, upd_same, for_J RL (walks_valsK upd_same (RpK.mono2 (lck_le2 (u := .dK kvs) trivial f1 (.inl rfl) (.inr ⟨od, rfl⟩)) _ _ r)) q1 (ends trivial f1)⟩⟩
    · exact .inr ⟨.ref a, e, a, od, rfl, .inl ⟨kvs, R1.le _ _ f1, for_J R1 (walks_valsK f1 r) q1 (k.le l1)⟩⟩
end

section
variable {X : Cx} {K : PySem.W.Frag} {W W' : Wd} {P : Hp} {G : Gm} {σ : St} {H : Hp} {e f o : Expr} {pos : Pos}
/-! o.get(k, x), o a dict told by an expression -/
def dicD (d b : D) (k : Option D → Prop) : Prop := dAt b d k
def dGetE (te tk tx : DE) : DE := fun G Q => te G fun so G0 => frz G0 so fun d G1 => isD d = true ∧ tk G1 fun sk G2 => frz G2 sk fun b G3 => tx G3 fun sx G4 => frz G4 sx fun z G5 => dicD d b fun od => Q (.dat (od.getD z)) G5
theorem de_getE {te tk tx : DE} {apos cpos : Pos} (hu : X.A.units + 65 < cLine) (ho : PE X o (can X.K te)) (he : PE X e (can X.K tk)) (hf : PE X f (can X.K tx)) (m : M2 X o "get" apos e f cpos := by exact ⟨rfl, rfl, rfl, rfl⟩) :
    PE X (.Call (.Attribute o "get" apos) [e, f] [] cpos) (can X.K (dGetE te tk tx)) := by
  refine PE.imp (pe_dget2 (by omega) ho he hf m) ?_
  rintro σ H Qv ⟨W, P, G, Q, R, t, k⟩
  refine ⟨W, P, G, _, R, t, fun W0 so G0 v H0 l0 R0 r0 q0 => ?_⟩
  obtain ⟨W1, d, G1, l1, R1, r1, hd, q1⟩ := R0.frz r0 q0
  obtain ⟨a, rfl, hD⟩ : ∃ a, v = .ref a ∧ IsD H0 a := by
    have rn := R1.rn r1
    cases d <;> first | exact absurd hd Bool.false_ne_true | skip
    · obtain ⟨a, kvs, rfl, rd, _⟩ := rn; exact ⟨a, rfl, .inr ⟨kvs, rd⟩⟩
    · obtain ⟨a, kvs, rfl, rd, _⟩ := rn; exact ⟨a, rfl, .inl ⟨kvs, rd⟩⟩
  refine ⟨a, rfl, hD, W1, P, G1, _, R1, q1, fun W2 sk G2 y H2 l2 R2 r2 q2 => ?_⟩
  obtain ⟨W3, b, G3, l3, R3, r3, q3⟩ := R2.frz r2 q2
  refine ⟨W3, P, G3, _, R3, q3, fun W4 sx G4 z H4 l4 R4 r4 q4 => ?_⟩
  obtain ⟨W5, zz, G5, l5, R5, r5, q5⟩ := R4.frz r4 q4
  have q5 : dAt b d fun od => Q (.dat (od.getD zz)) G5 := q5
  obtain ⟨p, o, od, ep, g, q, r⟩ := dAt_get (R5.rn (Rp.mono (l4.trans l5) _ _ r3)) (R5.rn (Rp.mono (((l2.trans l3).trans l4).trans l5) _ _ r1)) q5
  cases ep
  exact ⟨o, g, k W5 (.dat _) G5 _ H4 (((((l0.trans l1).trans l2).trans l3).trans l4).trans l5) R5 (getD_rp r r5) q⟩
/-! l.index(x), flat items -/
def idxM (ds : List D) (y : D) (k : Nat → Prop) : Prop := ds.all flatD = true ∧ flatD y = true ∧ ∃ j z, ds[j]? = some z ∧ eqD z y = true ∧ (∀ m z', m < j → ds[m]? = some z' → eqD z' y = false) ∧ k j
def isLst : D → Bool
  | .lst _ => true
  | _ => false
def lstM (d : D) (k : List D → Prop) : Prop := match d with
  | .lst ds => k ds
  | _ => False
def dIndex (to te : DE) : DE := fun G Q => to G fun so G1 => (see G1 so fun d => isLst d = true) ∧ te G1 fun sy G2 => see G2 so fun d => see G2 sy fun y => lstM d fun ds => idxM ds y fun j => Q (.dat (.int j)) G2
theorem sl_at {d : D} {v : V} (h : isLst d = true) (r : RN K W H d v) : ∃ a ds xs, d = .lst ds ∧ v = .ref a ∧ H a = some (.lst xs) ∧ RpL K W ds xs := by
  cases d <;> first | exact absurd h Bool.false_ne_true | skip
  rename_i ds
  obtain ⟨a, xs, rfl, s, rr⟩ := r
  exact ⟨a, ds, xs, rfl, rfl, s, rr⟩
theorem flats_V : ∀ {ds : List D} {xs : List V}, ds.all flatD = true → RpL K W ds xs → xs = ds.map flV
  | [], _, _, h => h
  | d :: ds, _, f, h => by
    obtain ⟨v, r, rfl, h1, h2⟩ := h
    rw [List.all_cons, Bool.and_eq_true] at f
    rw [flat_eq f.1 h1, flats_V f.2 h2]; rfl
theorem flatV_fl {d : D} (f : flatD d = true) : flatV (flV d) = true := by cases d <;> first | rfl | exact absurd f Bool.false_ne_true
theorem de_index {to te : DE} {apos cpos : Pos} (ho : PE X o (can X.K to)) (he : PE X e (can X.K te)) (hbase : attributeBase o "index" X.env (eval o X.env) = eval o X.env := by rfl)
    (hfew : ((backTo cpos (starEach [e] X.env)).all (fun x => !x.1) && (backToKw cpos (keywordEach [] X.env)).all (fun x => x.1.isSome)
      && decide ([e].length + ([] : List Keyword).length + (if ([] : List Keyword).isEmpty then 0 else 1) < 30)) = true := by rfl)
    (hline : (apos.endLine == cpos.line) = true := by rfl) (hs : starEach (e :: []) X.env = (false, eval e X.env) :: starEach [] X.env := by rfl) (hplain : (backTo cpos (starEach [] X.env)).any (·.1) = false := by rfl) :
    PE X (.Call (.Attribute o "index" apos) [e] [] cpos) (can X.K (dIndex to te)) := by
  refine PE.imp (pe_bm PySem.F.plainAttrs_list PySem.F.slot_list_index PySem.F.type_list_index mt_index ho (pa_cons he pa_nil hs) hbase hfew hline hs hplain) ?_
  rintro σ H Qv ⟨W, P, G, Q, R, t, k⟩
  refine can_one R t fun W1 G1 so v H1 l1 R1 s1 ⟨h0, q1⟩ => ?_
  obtain ⟨d0, n0, i0⟩ := R1.see s1 h0
  obtain ⟨a, ds0, xs0, _, rfl, hH, _⟩ := sl_at i0 n0
  refine ⟨.inl ⟨rfl, xs0, .of hH⟩, ?_⟩
  refine can_one R1 q1 fun W2 G2 sy y H2 l2 R2 s2 q3 => ?_
  obtain ⟨d, n1, q4⟩ := R2.see (s1.mono l2) q3
  obtain ⟨dy, n2, q2⟩ := R2.see s2 q4
  clear q3 q4
  cases d <;> first | exact False.elim q2 | skip
  rename_i ds
  obtain ⟨b, xs, eb, hb, rl⟩ := n1
  cases eb
  obtain ⟨f1, f2, j, z, h1, h2, h3, q⟩ := q2
  have ex := flats_V f1 rl
  have ey : y = flV dy := by
    cases dy <;> first | exact absurd f2 Bool.false_ne_true | exact n2
  subst ex; subst ey
  have fa : ∀ {m : Nat} {u : D}, ds[m]? = some u → flatD u = true := fun {m u} h => by
    have hm : u ∈ _ := List.mem_of_getElem? h
    exact List.all_eq_true.mp f1 u hm
  refine ⟨a, ds.map flV, _, j, flV z, rfl, rfl, .of hb, flatV_fl f2, ?_, by rw [List.getElem?_map, h1]; rfl, by rw [eqV_flat (fa h1) f2]; exact h2, fun m z' hm hz => ?_, k W2 (.dat (.int j)) G2 _ H2 (l1.trans l2) R2 rfl q⟩
  · rw [List.all_map]
    exact List.all_eq_true.mpr fun u hu => flatV_fl (List.all_eq_true.mp f1 u hu)
  · rw [List.getElem?_map] at hz
    obtain ⟨u, hu, rfl⟩ := Option.map_eq_some_iff.mp hz
    rw [eqV_flat (fa hu) f2]
    exact h3 m u hm hu
/-! xs[i] = v in a target, xs[i] += v; xs an own list -/
def dgPutL (i : Nat) (tk : DE) : DG := fun sv G Q => frz G sv fun dv G1 => isOwn G1 i ∧ tk G1 fun sk G2 => frz G2 sk fun b G3 => intM b fun j => putL (gg G3 i) j dv fun d' => Q (gset G3 i (some (.own d')))
theorem dg_putL {x : Str} {px pt : Pos} {kx : Expr} {tk : DE} {ws : List Nat} (i : Nat) (hk : PE X kx (can X.K tk)) (hN : X.N[i]? = some x := by rfl)
    (hv : Vis X.env.scope x := by first | exact Or.inl rfl | exact Or.inr (Or.inl rfl) | exact Or.inr (Or.inr rfl)) (hd : (x == ("__debug__" : Str)) = false := by decide)
    (hcd : (x == ("__classdict__" : Str)) = false := by decide)
    (ha : ∀ v, assign (.Subscript (.Name x px) kx pt) X.env v = (do
      let ov ← holding [v] (eval (.Name x px) X.env)
      let iv ← holding [v, ov] (eval kx X.env)
      standAt pt
      holding [v, ov, iv] (setItem ov iv v)
      release [v, ov, iv] []) := by intro _; rfl) :
    PG X (.Subscript (.Name x px) kx pt) (canG X.K ws (dgPutL i tk)) := by
  refine PG.imp (pg_sub (pe_var hN hv hd hcd) hk set_list ha) ?_
  rintro v σ H Qs ⟨W, P, G, sv, Q, R, r, t, kk⟩
  obtain ⟨W2, dv, G2, l2, R2, r2, h0, q2⟩ := R.frz r t
  obtain ⟨d0, h0⟩ := isOwn_of h0
  obtain ⟨p, o, e1, pr, ro⟩ := R2.own i _ h0
  refine ⟨.ref p, e1, W2, P, G2, _, R2, q2, fun W3 sk G3 y H3 l3 R3 r3 q3 => ?_⟩
  obtain ⟨W4, b, G4, l4, R4, r4, q4⟩ := R3.frz r3 q3
  cases b <;> first | exact False.elim q4 | skip
  rename_i j
  obtain rfl : y = .int j := r4
  have q4 : putL (gg G4 i) j dv fun d' => Q (gset G4 i (some (.own d'))) := q4
  unfold putL at q4
  split at q4
  · rename_i ds e4
    obtain ⟨⟨j0, j1⟩, q4⟩ := q4
    obtain ⟨p', o', e2, pr', ro'⟩ := R4.own i _ e4
    rw [e1] at e2; cases e2
    cases o' <;> try exact False.elim ro'
    rename_i xs
    have hl : xs.length = ds.length := RpL.length ro'
    refine ⟨p, xs, j, j.toNat, rfl, rfl, pr'.at_, ?_, ?_⟩
    · unfold ixN
      rw [if_pos j0, if_pos (by omega)]
    · exact kk W4 _ σ _ ((l2.trans l3).trans l4) (R4.reown (o' := .lst _) (d' := .lst _) e4 e1 pr' (RpL.set (Rp.mono (l3.trans l4) _ _ r2) _ ro')) (But.refl _ _) q4
  · exact q4.elim
def rGetL (K : PySem.W.Frag) : V → V → Hp → VK → Prop := fun x y H Q => ∃ p xs i v, x = .ref p ∧ y = .int i ∧ SqL K H p xs ∧ 0 ≤ i ∧ xs[i.toNat]? = some v ∧ Q v H
theorem get_listP : PGet X (rGetL X.K) := by
  intro pins s σ H x y v u Q I rx ry h
  obtain ⟨p, xs, i, z, rfl, rfl, hq, h0, he, q⟩ := h
  cases rx
  obtain ⟨t, rfl⟩ := ry
  obtain ⟨its, r, pl, hz⟩ := I.list hq
  obtain ⟨w, ew, rw'⟩ := r.get he
  have hl := r.length
  have hn := line63
  have fin : EP X pins σ Q w s := ⟨z, H, I, rw', q⟩
  have hlt : i.toNat < its.length := (List.getElem?_eq_some_iff.mp ew).1
  exact wpAny_getItem_list pl.isList h0 (by omega) (by simpa using ew) fin
def getL (o : Option SC) (j : Int) (k : D → Prop) : Prop := match o with
  | some (.own (.lst ds)) => 0 ≤ j ∧ match ds[j.toNat]? with | some d => k d | none => False
  | _ => False
def dAugL (i : Nat) (op : Int → Int → Int) (tv tk : DE) : DS := fun E G => isOwn G i ∧ tk G fun sk G1 => frz G1 sk fun b G2 => intM b fun j => getL (gg G2 i) j fun d => intM d fun x => tv G2 fun sv G3 => frz G3 sv fun dv G4 => intM dv fun y => putL (gg G4 i) j (.int (op x y)) fun d' => E.nx (gset G4 i (some (.own d')))
theorem ds_augL {x : Str} {px tpos : Pos} {kx e : Expr} {tv tk : DE} {op : Operator} {fo : Int → Int → Int} (i : Nat) (hp : PIp X op (ipI fo)) (hvl : PE X e (can X.K tv)) (hk : PE X kx (can X.K tk)) (hN : X.N[i]? = some x := by rfl)
    (hv : Vis X.env.scope x := by first | exact Or.inl rfl | exact Or.inr (Or.inl rfl) | exact Or.inr (Or.inr rfl)) (hd : (x == ("__debug__" : Str)) = false := by decide)
    (hcd : (x == ("__classdict__" : Str)) = false := by decide)
    (ha : ∀ ov iv new, augStore kx ov iv new = (do holding [new, ov, iv] (setItem ov iv new); release [new, ov, iv] []; pure .next) := by intros; rfl) :
    PS X (.AugAssign (.Subscript (.Name x px) kx tpos) op e pos) (canS X.K (dAugL i fo tv tk)) := by
  refine PS.imp (ps_augS (pe_var hN hv hd hcd) hk get_listP hvl hp set_list ha) ?_
  rintro D σ H ⟨W, P, G, E, R, ⟨h0, t⟩, kk⟩
  obtain ⟨d0, h0⟩ := isOwn_of h0
  obtain ⟨p, o, e1, pr, ro⟩ := R.own i _ h0
  refine ⟨.ref p, e1, W, P, G, _, R, t, fun W1 sk G1 y H1 l1 R1 r1 q1 => ?_⟩
  obtain ⟨W2, b, G2, l2, R2, r2, q2⟩ := R1.frz r1 q1
  cases b <;> first | exact False.elim q2 | skip
  rename_i j
  obtain rfl : y = .int j := r2
  have q2 : getL (gg G2 i) j fun d => intM d fun x => tv G2 fun sv G3 => frz G3 sv fun dv G4 => intM dv fun y => putL (gg G4 i) j (.int (fo x y)) fun d' => E.nx (gset G4 i (some (.own d'))) := q2
  unfold getL at q2
  split at q2
  · rename_i ds e2
    obtain ⟨j0, q2⟩ := q2
    obtain ⟨p', o', e3, pr', ro'⟩ := R2.own i _ e2
    rw [e1] at e3; cases e3
    cases o' <;> try exact False.elim ro'
    rename_i xs
    split at q2
    · rename_i d ed
      cases d <;> first | exact False.elim q2 | skip
      rename_i x0
      obtain ⟨v0, ev, rv⟩ := RpL.get ro' ed
      obtain rfl : v0 = .int x0 := rv
      refine ⟨p, xs, j, .int x0, rfl, rfl, .of pr'.at_, j0, ev, W2, P, G2, _, R2, q2, fun W3 sv G3 y H3 l3 R3 r3 q3 => ?_⟩
      obtain ⟨W4, dv, G4, l4, R4, r4, q4⟩ := R3.frz r3 q3
      cases dv <;> first | exact False.elim q4 | skip
      rename_i y0
      obtain rfl : y = .int y0 := r4
      have q4 : putL (gg G4 i) j (.int (fo x0 y0)) fun d' => E.nx (gset G4 i (some (.own d'))) := q4
      unfold putL at q4
      split at q4
      · rename_i ds4 e4
        obtain ⟨⟨_, j1⟩, q4⟩ := q4
        obtain ⟨p5, o5, e5, pr5, ro5⟩ := R4.own i _ e4
        rw [e1] at e5; cases e5
        cases o5 <;> try exact False.elim ro5
        rename_i xs5
        have hl : xs5.length = ds4.length := RpL.length ro5
        refine ⟨x0, y0, rfl, rfl, p, xs5, j, j.toNat, rfl, rfl, pr5.at_, ?_, ?_⟩
        · unfold ixN
          rw [if_pos j0, if_pos (by omega)]
        · exact kk.nx W4 _ σ _ (((l1.trans l2).trans l3).trans l4) (R4.reown (o' := .lst _) (d' := .lst _) e4 e1 pr5 (RpL.set (d := .int (fo x0 y0)) (v := .int (fo x0 y0)) rfl _ ro5)) q4
      · exact q4.elim
    · exact q2.elim
  · exact q2.elim
end

/-! ### to reckon with instances -/
section
variable {E : DEnds} {G : Gm} {Q : SV → Gm → Prop} {a b e : DE} {as bs : DA} {i n m : Nat} {c f : Str} {L : List (Option SC)} {k0 : Nat}
theorem x_fld : dFld c f a G Q = a G fun sv G1 => see G1 sv fun d => insM c d fun _ fs => fldM f fs fun x => Q (.dat x) G1 := rfl
theorem x_insm {ad : Addr} {fs : List (Str × D)} {k : Addr → List (Str × D) → Prop} : insM c (.ins ad c fs) k = k ad fs := by unfold insM; simp
theorem x_setf : dSetF i c f a E G = a G fun sv G1 => frz G1 sv fun d G2 => ownI c (gg G2 i) fun ad fs => fs.length < 1000 ∧ E.nx (gset G2 i (some (.own (.ins ad c (putFD f d fs))))) := rfl
theorem x_owni {ad : Addr} {fs : List (Str × D)} {k : Addr → List (Str × D) → Prop} : ownI c (some (.own (.ins ad c fs))) k = k ad fs := by unfold ownI insM; simp
theorem x_dgfld {sv : SV} {Qn : Gm → Prop} : dgFld i c f sv G Qn = frz G sv fun d G2 => ownI c (gg G2 i) fun ad fs => fs.length < 1000 ∧ Qn (gset G2 i (some (.own (.ins ad c (putFD f d fs))))) := rfl
theorem x_meth {m' : Str} {S : DSp} {gD : List D → List D → List D} : dMeth n c m' S gD a as G Q = a G fun sv G1 => frz G1 sv fun d G2 => insM c d fun _ fs => fs.lookup m' = none ∧ as G2 fun ds G3 => ds.length + 1 = n ∧ S G3.c (gD (d :: ds) []) (callK Q G3) := rfl
theorem x_make {S : ISp} {g2 : List D → List D → List D} : dMake n m c S g2 as bs G Q = as G fun ds G1 => bs G1 fun es G2 => ds.length + 1 = n ∧ es.length = m ∧ S G2.c (g2 ds es) fun fs j => ∀ ad, Q (.dat (.ins ad c fs)) (G2.at j) := rfl
theorem x_methl {S : DSp} : dMethL i c f S G Q = ownI c (gg G i) fun ad fs => fs.lookup f = none ∧ S G.c [.ins ad c fs] fun r j => NoIS r ∧ Q r (G.at j) := rfl
theorem x_getE : dGetE a b e G Q = a G fun so G0 => frz G0 so fun d G1 => isD d = true ∧ b G1 fun sk G2 => frz G2 sk fun k G3 => e G3 fun sx G4 => frz G4 sx fun z G5 => dAt k d fun od => Q (.dat (od.getD z)) G5 := rfl
theorem x_idT' {es : List (List Key × D)} : (isD (.dT es) = true) = True := by simp [isD]
theorem x_idK' {es : List (Key × D)} : (isD (.dK es) = true) = True := by simp [isD]
theorem x_index : dIndex a b G Q = a G fun so G1 => (see G1 so fun d => isLst d = true) ∧ b G1 fun sy G2 => see G2 so fun d => see G2 sy fun y => lstM d fun ds => idxM ds y fun j => Q (.dat (.int j)) G2 := rfl
theorem x_isl {ds : List D} : (isLst (.lst ds) = true) = True := by simp [isLst]
theorem x_lstm {ds : List D} {k : List D → Prop} : lstM (.lst ds) k = k ds := rfl
theorem x_augl {op : Int → Int → Int} : dAugL i op a b E G = (isOwn G i ∧ b G fun sk G1 => frz G1 sk fun k G2 => intM k fun j => getL (gg G2 i) j fun d => intM d fun x => a G2 fun sv G3 => frz G3 sv fun dv G4 => intM dv fun y => putL (gg G4 i) j (.int (op x y)) fun d' => E.nx (gset G4 i (some (.own d')))) := rfl
def getLM (o : Option D) (k : D → Prop) : Prop := match o with | some d => k d | none => False
theorem x_getl {ds : List D} {j : Int} {k : D → Prop} : getL (some (.own (.lst ds))) j k = (0 ≤ j ∧ getLM ds[j.toNat]? k) := rfl
theorem x_getlm {d : D} {k : D → Prop} : getLM (some d) k = k d := rfl
theorem x_dgputl {sv : SV} {Qn : Gm → Prop} : dgPutL i b sv G Qn = frz G sv fun dv G1 => isOwn G1 i ∧ b G1 fun sk G2 => frz G2 sk fun k G3 => intM k fun j => putL (gg G3 i) j dv fun d' => Qn (gset G3 i (some (.own d'))) := rfl
def vaM (o : Option SC) (G : Gm) (i : Nat) (f : D → Gm → Prop) : Prop := match o with | some (.own d) => f d (gset G i (some (.dat d))) | some (.dat d) => f d G | none => False
theorem x_vals {Qa : List D → Gm → Prop} {k1 : Nat} : dVals i ⟨L, k1⟩ Qa = vaM (ggl L i) ⟨L, k1⟩ i fun d G1 => valsD d fun ds => Qa ds G1 := rfl
theorem x_vao {d : D} {f : D → Gm → Prop} : vaM (some (.own d)) G i f = f d (gset G i (some (.dat d))) := rfl
theorem x_vad {d : D} {f : D → Gm → Prop} : vaM (some (.dat d)) G i f = f d G := rfl
def zipK (Qa : List D → Gm → Prop) (ds : List D) (G1 : Gm) : Prop := (dZip (fun G Q => Q ds G)) G1 Qa
theorem x_zip {Qa : List D → Gm → Prop} : dZip as G Qa = as G (zipK Qa) := rfl
theorem x_zipk {x y : List D} {Qa : List D → Gm → Prop} : zipK Qa [.lst x, .lst y] G = Qa (zipD x y) G := by
  show (([] : List D) = [] ∧ Qa (zipD x y) G) = _
  simp
theorem x_vdT {es : List (List Key × D)} {k : List D → Prop} : valsD (.dT es) k = k (valsT es) := rfl
theorem x_vdK {es : List (Key × D)} {k : List D → Prop} : valsD (.dK es) k = k (valsK es) := rfl
end

/-! an expression over an own list that stays the slot's own; its result is flat, or a new list of flat data -/
def lendL : List (Option SC) → List (Option SC)
  | [] => []
  | o :: r => datO o :: lendL r
theorem lendL_len : ∀ L : List (Option SC), (lendL L).length = L.length
  | [] => rfl
  | _ :: r => congrArg Nat.succ (lendL_len r)
theorem lendL_get : ∀ (L : List (Option SC)) (i : Nat), ggl (lendL L) i = datO (ggl L i)
  | [], i => rfl
  | o :: r, 0 => rfl
  | o :: r, i + 1 => lendL_get r i
def lendG (G : Gm) (i : Nat) (ds : List D) : Gm := ⟨gsl (lendL G.sl) i (some (.dat (.lst ds))), G.c⟩
def flatN : SV → Bool
  | .dat (.tup ds) => ds.all flatD
  | .dat d => flatD d
  | .new (.lst ds) => ds.all flatD
  | _ => false
def ownLst (o : Option SC) (f : List D → Prop) : Prop := match o with | some (.own (.lst ds)) => f ds | _ => False
def dLend (i : Nat) (t : DE) : DE := fun G Q => ownLst (gg G i) fun ds => t (lendG G i ds) fun sv G2 => G2.sl = (lendG G i ds).sl ∧ flatN sv = true ∧ Q sv ⟨G.sl, G2.c⟩
section
variable {K : PySem.W.Frag} {W W' : Wd} {P P0 : Hp} {G : Gm} {σ : St} {H H' : Hp}
theorem can_lend {X : Cx} {t : DE} {i : Nat} {σ : St} {H : Hp} {Qv : VK} (h : can X.K (dLend i t) σ H Qv) : can X.K t σ H Qv := by
  obtain ⟨W, P, G, Q, R, t0, kk⟩ := h
  unfold dLend ownLst at t0
  split at t0
  · rename_i ds e0
    obtain ⟨p, o, e1, pr, ro⟩ := R.own i _ e0
    cases o <;> try exact False.elim ro
    rename_i xs
    have nF : ∀ {b u}, W.F b = some u → b ≠ p := fun {b u} q => ne_of_none q pr.f
    have l1 : W.le ⟨upd W.F p (.lst xs), W.S⟩ := ⟨fun b u q => by
      show upd W.F p _ b = _
      rw [upd_ne (nF q)]; exact q, fun _ h => h⟩
    have R1 : Rl X.K ⟨upd W.F p (.lst xs), W.S⟩ P ⟨[], G.c⟩ [] H := by
      refine ⟨rfl, fun b u q => ?_, fun a h => ?_, fun q u z => ?_, fun i d e => (by cases e), fun i d e => (by cases e), fun i j d e _ h1 _ => (by cases h1), R.pnt⟩
      · have q : upd W.F p (.lst xs) b = some u := q
        by_cases hb : b = p
        · subst hb; rw [upd_same] at q; cases q; exact pr.at_
        · rw [upd_ne hb] at q; exact R.le b u q
      · obtain ⟨h1, h2, h3⟩ := R.src a h
        refine ⟨?_, h2, h3⟩
        show upd W.F p _ a = none
        rw [upd_ne fun z => pr.s (by rw [← z]; exact h)]; exact h1
      · obtain ⟨h1, h2⟩ := R.prot q u z
        refine ⟨h1, ?_⟩
        show upd W.F p _ q = none
        rw [upd_ne fun y => by subst y; rw [pr.n] at z; cases z]; exact h2
    obtain ⟨P0, R0, F0, hP⟩ := R1.enter
    have hi : i < G.sl.length := gg_lt e0
    have gd : ∀ {j d}, gg (lendG G i ds) j = some (.dat d) → (j = i ∧ d = .lst ds) ∨ (j ≠ i ∧ gg G j = some (.dat d)) := fun {j d} q => by
      have q : ggl (gsl (lendL G.sl) i (some (.dat (.lst ds)))) j = some (.dat d) := q
      by_cases hj : j = i
      · subst hj
        rw [ggl_set_self _ _ _ (by rw [lendL_len]; exact hi)] at q
        cases q; exact .inl ⟨rfl, rfl⟩
      · rw [ggl_set_ne _ _ _ _ hj, lendL_get] at q
        refine .inr ⟨hj, ?_⟩
        show ggl G.sl j = _
        cases z : ggl G.sl j with
        | none => rw [z] at q; cases q
        | some y => rw [z] at q; cases y with
          | dat d' => cases q; rfl
          | own d' => cases q
    have go : ∀ {j d}, gg (lendG G i ds) j ≠ some (.own d) := fun {j d} q => by
      have q : ggl (gsl (lendL G.sl) i (some (.dat (.lst ds)))) j = some (.own d) := q
      by_cases hj : j = i
      · subst hj
        rw [ggl_set_self _ _ _ (by rw [lendL_len]; exact hi)] at q
        cases q
      · rw [ggl_set_ne _ _ _ _ hj, lendL_get] at q
        cases z : ggl G.sl j with
        | none => rw [z] at q; cases q
        | some y => rw [z] at q; cases y <;> cases q
    have R2 : Rl X.K ⟨upd W.F p (.lst xs), W.S⟩ P0 (lendG G i ds) σ H := by
      refine ⟨?_, R0.le, R0.src, R0.prot, fun j d q => ?_, fun j d q => absurd q go, fun j k d e _ q _ => absurd q go, R0.pnt⟩
      · show (gsl (lendL G.sl) i _).length = _
        rw [gsl_len, lendL_len]; exact R.len
      · rcases gd q with ⟨rfl, rfl⟩ | ⟨hj, q⟩
        · exact ⟨_, e1, p, xs, rfl, upd_same, RpL.mono l1 _ _ ro⟩
        · obtain ⟨v, h1, h2⟩ := R.dat j d q
          exact ⟨v, h1, Rp.mono l1 _ _ h2⟩
    have P0of : ∀ {q o}, q ≠ p → H q = some o → W.F q = none → ¬ W.S q → (∀ xs, o ≠ .tup xs) → P0 q = some o := fun {q o} hq h f s n => F0 q o h (by show upd W.F p _ q = none; rw [upd_ne hq]; exact f) s n
    have pp : ∀ q o, P q = some o → P0 q = some o := fun q o z => by
      obtain ⟨h1, h2⟩ := R.prot q o z
      exact P0of (fun y => by subst y; rw [pr.n] at z; cases z) h1 h2 (fun s => by have := (R.src q s).2.1; rw [z] at this; cases this) fun xs y => R.pnt q xs (by rw [z, y])
    have own' : ∀ {j d}, gg G j = some (.own d) → j ≠ i → ∃ q o, σ[j]? = some (some (.ref q)) ∧ Priv W H P q o ∧ RO X.K W q o d ∧ P0 q = some o := fun {j d} z hj => by
      obtain ⟨q, o, h1, h2, h3⟩ := R.own j d z
      exact ⟨q, o, h1, h2, h3, P0of (fun y => R.sep j i d _ hj z e0 (by rw [h1, e1, y])) h2.at_ h2.f h2.s h3.nt⟩
    refine ⟨_, P0, _, _, R2, t0, fun W3 sv G3 v H3 l3 R3 r3 qq => ?_⟩
    obtain ⟨eG, fl, q3⟩ := qq
    have fp : W3.F p = some (.lst xs) := l3.f _ _ upd_same
    have R4 : Rl X.K W P ⟨G.sl, G3.c⟩ σ H3 := by
      refine ⟨R.len, fun b u q => R3.le b u (l3.f b u (l1.f b u q)), fun a h => ?_, fun q u z => ⟨(R3.prot q u (pp q u z)).1, (R.prot q u z).2⟩, fun j d z => R.dat j d z, fun j d z => ?_, fun j k d e n a b => R.sep j k d e n a b, R.pnt⟩
      · obtain ⟨h1, h2, _⟩ := R.src a h
        exact ⟨h1, h2, (R3.src a (l3.s a h)).2.2⟩
      · by_cases hj : j = i
        · subst hj
          have z : gg G j = some (.own d) := z
          rw [e0] at z; cases z
          exact ⟨p, _, e1, ⟨R3.le _ _ fp, pr.f, pr.s, pr.n⟩, ro⟩
        · obtain ⟨q, o, h1, h2, h3, h4⟩ := own' z hj
          exact ⟨q, o, h1, ⟨(R3.prot q o h4).1, h2.f, h2.s, h2.n⟩, h3⟩
    cases sv with
    | bor j => cases fl
    | dat d =>
      obtain ⟨W5, l5, R5, r5⟩ := flat_back R4 (d := d) (by cases d <;> exact fl) r3 R3.le
      exact kk W5 (.dat d) _ v H3 l5 R5 r5 q3
    | new d =>
      cases d <;> first | (cases fl; done) | skip
      rename_i ys
      obtain ⟨q, o, rfl, pq, rq, _⟩ := r3
      cases o <;> try exact False.elim rq
      rename_i zs
      refine kk W (.new (.lst ys)) _ _ H3 (.refl W) R4 ⟨q, .lst zs, rfl, ⟨pq.at_, ?_, fun s => pq.s (l3.s q s), ?_⟩, flats_any fl rq, fun j d z1 z2 => ?_⟩ q3
      · cases z : W.F q with
        | none => rfl
        | some u => have := l3.f q u (l1.f q u z); rw [pq.f] at this; cases this
      · cases z : P q with
        | none => rfl
        | some u => have := pp q u z; rw [pq.n] at this; cases this
      · by_cases hj : j = i
        · subst hj
          rw [e1] at z2; cases z2
          rw [pq.f] at fp; cases fp
        · obtain ⟨q', o', h1, _, _, h4⟩ := own' z1 hj
          rw [h1] at z2; cases z2
          rw [pq.n] at h4; cases h4
  · exact t0.elim
theorem de_lend {X : Cx} {e : Expr} {t : DE} (i : Nat) (h : PE X e (can X.K t)) : PE X e (can X.K (dLend i t)) := PE.imp h fun _ _ _ q => can_lend q
theorem ds_setLend {X : Cx} {tg iter elt : Expr} {pos : Pos} {y : Str} {py spos : Pos} (k i : Nat) {ifs : List Expr} {scope : Scope} {own : List (Str × Nat)} {t : DI} {g : DG} {tt : DT} {te : DE} (hN : X.N.Nodup) (hi : PI X tg iter (canI X.K t)) (ok : BlkOk X.N X.env.scope scope own)
    (hg : ∀ (s : Shared) (H : Hp) (C : Addr) (cl : List (Str × Addr)) (fp : List Addr), PG (X.blk s H scope (compEnvC scope cl C X.env) fp) tg (canG X.K (own.map (·.2)) g))
    (ht : ∀ (s : Shared) (H : Hp) (C : Addr) (cl : List (Str × Addr)) (fp : List Addr), PTs (X.blk s H scope (compEnvC scope cl C X.env) fp) ifs (canT X.K tt))
    (he : ∀ (s : Shared) (H : Hp) (C : Addr) (cl : List (Str × Addr)) (fp : List Addr), PE (X.blk s H scope (compEnvC scope cl C X.env) fp) elt (can X.K te))
    (hsw : swapsWith (.ListComp elt [⟨tg, iter, ifs, 0⟩] scope pos) (some (.Name y py)) spos.line X.env = pure true) (hy : X.N[i]? = some y := by rfl) (hyl : X.env.scope.names.lookup y = some .local := by rfl) (hc : X.calm = true := by rfl) (hs : ∀ x, foldedSetIterable iter X.env x = pure x := by intro _; rfl) :
    PS X (.Assign [.Name y py] (.ListComp elt [⟨tg, iter, ifs, 0⟩] scope pos) spos) (canS X.K (dAsg (dLend k (dLc (own.map (·.2)) t g tt te)) (dgName i))) := by
  refine PS.imp (ps_setLc hc hN hy hyl hsw hi ok hg ht he hs) fun D σ H h => ?_
  obtain ⟨W, P, G, Q, R, t0, kk⟩ := asg_ok (ws := [i]) h
  have hh : can X.K (dLend k (dLc (own.map (·.2)) t g tt te)) σ H fun v H1 => D.nx (σ.set i (some v)) H1 := ⟨W, P, G, Q, R, t0, fun W1 sv G1 v H1 l1 R1 r1 q => by
    obtain ⟨W2, P2, G2, sv2, Q2, R2, r2, t2, k2⟩ := kk W1 sv G1 v H1 l1 R1 r1 q
    obtain ⟨W', c, G', l, R', q⟩ := R2.rest (i := i) r2 t2
    exact k2 W' _ _ H1 l R' (But.set (by simp) _) q⟩
  exact lc_ok (can_lend hh)
end
section
variable {G : Gm} {Q : SV → Gm → Prop} {t : DE} {i k : Nat} {L : List (Option SC)} {o : Option SC}
theorem x_lend : dLend i t ⟨L, k⟩ Q = ownLst (ggl L i) fun ds => t ⟨gsl (lendL L) i (some (.dat (.lst ds))), k⟩ fun sv G2 => G2.sl = gsl (lendL L) i (some (.dat (.lst ds))) ∧ flatN sv = true ∧ Q sv ⟨L, G2.c⟩ := rfl
theorem x_lendG {ds : List D} : lendG ⟨L, k⟩ i ds = ⟨gsl (lendL L) i (some (.dat (.lst ds))), k⟩ := rfl
theorem x_owlst {ds : List D} {f : List D → Prop} : ownLst (some (.own (.lst ds))) f = f ds := rfl
theorem x_lel0 : lendL [] = [] := rfl
theorem x_lel1 : lendL (o :: L) = datO o :: lendL L := rfl
theorem x_fnn {ds : List D} : flatN (.new (.lst ds)) = ds.all flatD := rfl
theorem x_fnt {ds : List D} : flatN (.dat (.tup ds)) = ds.all flatD := rfl
end

section
variable {X : Cx} {K : PySem.W.Frag} {W W' : Wd} {P : Hp} {G : Gm} {σ : St} {H : Hp} {e f o : Expr} {pos : Pos}
/-! l.count(x), l a list of strs, x a str -/
def rCountS (K : PySem.W.Frag) : V → List V → Hp → VK → Prop := fun x xs H Q => ∃ (a : Addr) (ys : List Str) (y : Str), x = V.ref a ∧ xs = [.str y] ∧ SqL K H a (ys.map V.str) ∧ Q (.int (ys.count y : Nat)) H
theorem cnt_in {y : Str} : ∀ {ys : List Str}, countIn (.str y) (ys.map PyData.str) = ((ys.count y : Nat) : Int)
  | [] => rfl
  | z :: ys => by
    rw [List.map_cons, countIn, cnt_in (ys := ys), List.count_cons]
    show (if (z == y) = true then (1 : Int) else 0) + _ = _
    by_cases q : (z == y) = true
    · rw [if_pos q, if_pos q]; omega
    · rw [if_neg q, if_neg q]; omega
theorem mt_countS : MtR X "list.count" (rCountS X.K) := by
  intro pins s σ H x xs v us Q I rx rxs h
  obtain ⟨a, ys, y, rfl, rfl, hs, q⟩ := h
  cases rx
  cases rxs with
  | cons ry rt =>
    cases rt
    obtain ⟨t, rfl⟩ := ry
    obtain ⟨its, rv, hl, _⟩ := I.list hs
    refine count_list_strs hl.isList rv.strs ?_
    rw [cnt_in]
    exact ⟨.int _, H, I.tok _, ⟨_, rfl⟩, q⟩
def strD : D → Bool
  | .str _ => true
  | _ => false
def strOf : D → Str
  | .str y => y
  | _ => Str.empty
def cntM (ds : List D) (y : D) (k : Nat → Prop) : Prop := ds.all strD = true ∧ strD y = true ∧ k ((ds.map strOf).count (strOf y))
def dCount (to te : DE) : DE := fun G Q => to G fun so G1 => (see G1 so fun d => isLst d = true) ∧ te G1 fun sy G2 => see G2 so fun d => see G2 sy fun y => lstM d fun ds => cntM ds y fun j => Q (.dat (.int j)) G2
theorem strs_V : ∀ {ds : List D} {xs : List V}, ds.all strD = true → RpL K W ds xs → xs = (ds.map strOf).map V.str
  | [], _, _, h => h
  | d :: ds, _, f, h => by
    obtain ⟨v, r, rfl, h1, h2⟩ := h
    rw [List.all_cons, Bool.and_eq_true] at f
    rw [strs_V f.2 h2]
    cases d <;> first | exact absurd f.1 Bool.false_ne_true | skip
    rw [show v = .str _ from h1]; rfl
theorem de_count {to te : DE} {apos cpos : Pos} (ho : PE X o (can X.K to)) (he : PE X e (can X.K te)) (hbase : attributeBase o "count" X.env (eval o X.env) = eval o X.env := by rfl)
    (hfew : ((backTo cpos (starEach [e] X.env)).all (fun x => !x.1) && (backToKw cpos (keywordEach [] X.env)).all (fun x => x.1.isSome)
      && decide ([e].length + ([] : List Keyword).length + (if ([] : List Keyword).isEmpty then 0 else 1) < 30)) = true := by rfl)
    (hline : (apos.endLine == cpos.line) = true := by rfl) (hs : starEach (e :: []) X.env = (false, eval e X.env) :: starEach [] X.env := by rfl) (hplain : (backTo cpos (starEach [] X.env)).any (·.1) = false := by rfl) :
    PE X (.Call (.Attribute o "count" apos) [e] [] cpos) (can X.K (dCount to te)) := by
  refine PE.imp (pe_bm PySem.F.plainAttrs_list PySem.F.slot_list_count PySem.F.type_list_count mt_countS ho (pa_cons he pa_nil hs) hbase hfew hline hs hplain) ?_
  rintro σ H Qv ⟨W, P, G, Q, R, t, k⟩
  refine can_one R t fun W1 G1 so v H1 l1 R1 s1 ⟨h0, q1⟩ => ?_
  obtain ⟨d0, n0, i0⟩ := R1.see s1 h0
  obtain ⟨a, ds0, xs0, _, rfl, hH, _⟩ := sl_at i0 n0
  refine ⟨.inl ⟨rfl, xs0, .of hH⟩, ?_⟩
  refine can_one R1 q1 fun W2 G2 sy y H2 l2 R2 s2 q3 => ?_
  obtain ⟨d, n1, q4⟩ := R2.see (s1.mono l2) q3
  obtain ⟨dy, n2, q2⟩ := R2.see s2 q4
  cases d <;> first | exact False.elim q2 | skip
  rename_i ds
  obtain ⟨b, xs, eb, hb, rl⟩ := n1
  cases eb
  obtain ⟨f1, f2, q⟩ := q2
  have ex := strs_V f1 rl
  subst ex
  cases dy <;> first | exact absurd f2 Bool.false_ne_true | skip
  rename_i z
  obtain rfl : y = .str z := n2
  exact ⟨a, ds.map strOf, z, rfl, rfl, .of hb, k W2 (.dat (.int _)) G2 _ H2 (l1.trans l2) R2 rfl q⟩
/-! {"a": v, "b": w, ..}: distinct strs with any data -/
def dPrs : List (DE × DE) → (List (Str × D) → Gm → Prop) → Gm → Prop
  | [], Q, G => Q [] G
  | (tk, tv) :: r, Q, G => tk G fun sk G1 => frz G1 sk fun b G2 => tv G2 fun sv G3 => frz G3 sv fun dv G4 => match b with
    | .str x => dPrs r (fun ps G => Q ((x, dv) :: ps) G) G4
    | _ => False
def strK (ps : List (Str × D)) : List (Key × D) := ps.map fun kv => (.inr kv.1, kv.2)
def dDspN (ts : List (DE × DE)) : DE := fun G Q => dPrs ts (fun ps G => (ps.map (·.1)).Nodup ∧ ps.length ≤ 15 ∧ Q (.new (.dK (strK ps))) G) G
def canPs (K : PySem.W.Frag) (ts : List (DE × DE)) : List (TE × TE) := ts.map fun t => (can K t.1, can K t.2)
theorem prs_can : ∀ {ts : List (DE × DE)} {W : Wd} {P : Hp} {G : Gm} {H : Hp} {Q : List (V × V) → Hp → Prop} {Qd : List (Str × D) → Gm → Prop}, Rl K W P G σ H → dPrs ts Qd G →
    (∀ W' G' H' (ps : List (Str × D)) (kvs : List (Key × V)), W.le W' → Rl K W' P G' σ H' → RpK K W' (strK ps) kvs → Qd ps G' → Q (kvs.map fun kv => (kV kv.1, kv.2)) H') → tPairs (canPs K ts) σ H Q
  | [], W, P, G, H, Q, Qd, R, t, k => k W G H [] [] (.refl W) R rfl t
  | (tk, tv) :: r, W, P, G, H, Q, Qd, R, t, k => by
    refine ⟨W, P, G, _, R, t, fun W1 sk G1 x H1 l1 R1 r1 q1 => ?_⟩
    obtain ⟨W2, b, G2, l2, R2, r2, q2⟩ := R1.frz r1 q1
    refine ⟨W2, P, G2, _, R2, q2, fun W3 sv G3 y H3 l3 R3 r3 q3 => ?_⟩
    obtain ⟨W4, dv, G4, l4, R4, r4, q4⟩ := R3.frz r3 q3
    cases b <;> first | exact False.elim q4 | skip
    rename_i z
    obtain rfl : x = .str z := r2
    refine prs_can (ts := r) (Qd := fun ps G => Qd ((z, dv) :: ps) G) R4 q4 fun W5 G5 H5 ps kvs l5 R5 r5 q5 => ?_
    exact k W5 G5 H5 ((z, dv) :: ps) ((.inr z, y) :: kvs) ((((l1.trans l2).trans l3).trans l4).trans l5) R5 ⟨y, kvs, rfl, Rp.mono l5 _ _ r4, r5⟩ q5
theorem keys_rp : ∀ {es : List (Key × D)} {kvs : List (Key × V)}, RpK K W es kvs → kvs.map (·.1) = es.map (·.1)
  | [], _, h => by rw [show _ = [] from h]; rfl
  | (_, _) :: es, _, h => by
    obtain ⟨v, r, rfl, _, h2⟩ := h
    rw [List.map_cons, List.map_cons, keys_rp h2]
theorem merge_new : ∀ {more acc : List (Key × V)}, ((acc ++ more).map (·.1)).Nodup → mergeK acc more = acc ++ more
  | [], acc, _ => (List.append_nil acc).symm
  | kv :: r, acc, h => by
    have e : putK acc kv.1 kv.2 = acc ++ [kv] := by
      unfold putK
      rw [if_neg]
      intro z
      obtain ⟨a, ha, e⟩ := List.any_eq_true.mp z
      rw [List.map_append, List.nodup_append] at h
      exact h.2.2 _ (List.mem_map_of_mem ha) kv.1 (List.mem_map_of_mem List.mem_cons_self) (of_decide_eq_true e)
    show mergeK (putK acc kv.1 kv.2) r = _
    rw [e, merge_new (by rw [List.append_assoc]; exact h), List.append_assoc]
    rfl
theorem strK_len {ps : List (Str × D)} : (strK ps).length = ps.length := by unfold strK; rw [List.length_map]
theorem de_dspN {keys : List (Option Expr)} {values : List Expr} {ts : List (DE × DE)} (h : PPs X pos keys values (canPs X.K ts)) (hall : keys.all (·.isSome) = true := by rfl) (hl : keys.length = values.length := by rfl) (h0 : keys ≠ [] := by simp) (h15 : keys.length ≤ 15 := by simp) :
    PE X (.Dict keys values pos) (can X.K (dDspN ts)) := by
  refine PE.imp (pe_disp h hall hl h0 h15) ?_
  rintro σ H Qv ⟨W, P, G, Q, R, t, kk⟩ p hp
  obtain ⟨nP, nF, Rg⟩ := R.guard (o := .dK []) hp
  refine prs_can Rg t fun W1 G1 H1 ps kvs l1 R1 r1 ⟨q1, q2, q3⟩ => ?_
  obtain ⟨hp4, R5⟩ := R1.reguard (o' := .dK kvs)
  have ek := keys_rp r1
  have em : mergeK [] kvs = kvs := by
    have := merge_new (acc := []) (more := kvs) (by
      rw [List.nil_append, ek]
      unfold strK
      rw [List.map_map]
      refine List.pairwise_map.mpr ((List.pairwise_map.mp q1).imp fun {a b} hab e => hab ?_)
      exact Sum.inr.inj e)
    rwa [List.nil_append] at this
  obtain ⟨R6, r6⟩ := R5.unguard (o := .dK kvs) (d := .dK (strK ps)) nP r1
  refine ⟨hp4, kvs, rfl, ?_, ?_⟩
  · have := congrArg List.length ek
    rw [List.length_map, List.length_map, strK_len] at this
    omega
  · rw [em]
    exact kk W1 _ G1 _ _ l1 R6 r6 q3
theorem x_count {to te : DE} {G : Gm} {Q : SV → Gm → Prop} : dCount to te G Q = (to G fun so G1 => (see G1 so fun d => isLst d = true) ∧ te G1 fun sy G2 => see G2 so fun d => see G2 sy fun y => lstM d fun ds => cntM ds y fun j => Q (.dat (.int j)) G2) := rfl
theorem x_dspN {ts : List (DE × DE)} {G : Gm} {Q : SV → Gm → Prop} : dDspN ts G Q = dPrs ts (fun ps G => (ps.map (·.1)).Nodup ∧ ps.length ≤ 15 ∧ Q (.new (.dK (strK ps))) G) G := rfl
def strM (b : D) (k : Str → Prop) : Prop := match b with
  | .str x => k x
  | _ => False
theorem x_strm {x : Str} {k : Str → Prop} : strM (.str x) k = k x := rfl
theorem x_prs0 {G : Gm} {Q : List (Str × D) → Gm → Prop} : dPrs [] Q G = Q [] G := rfl
theorem x_prs1 {tk tv : DE} {r : List (DE × DE)} {G : Gm} {Q : List (Str × D) → Gm → Prop} : dPrs ((tk, tv) :: r) Q G = tk G fun sk G1 => frz G1 sk fun b G2 => tv G2 fun sv G3 => frz G3 sv fun dv G4 => strM b fun x => dPrs r (fun ps G => Q ((x, dv) :: ps) G) G4 := by
  show (tk G fun sk G1 => frz G1 sk fun b G2 => tv G2 fun sv G3 => frz G3 sv fun dv G4 => _) = _
  refine congrArg (tk G) (funext fun sk => funext fun G1 => congrArg (frz G1 sk) (funext fun b => funext fun G2 => congrArg (tv G2) (funext fun sv => funext fun G3 => congrArg (frz G3 sv) (funext fun dv => funext fun G4 => ?_))))
  cases b <;> rfl
theorem strK_n : strK [] = [] := rfl
theorem strK_c {x : Str} {d : D} {r : List (Str × D)} : strK ((x, d) :: r) = (.inr x, d) :: strK r := rfl
end

/-! sum(t), t a tuple of ints -/
section
variable {prog : Program} {w : World} {A : Around} {E : Value → Shared → Prop} {s : Shared} {l : Addr}
theorem tup_sum {xs : Array (Int × Tok)} {Q : Value → Shared → Prop} (hh : A.handled = none) (hl : s.heap.IsTuple l (intItems xs))
    (h : ∀ h' tk t', (∀ b o, s.heap.get? b = some o → h'.get? b = some o) → Q (.int (preSum (numAt xs) xs.size) t') { s with heap := h', toks := tk }) : wpAny (model prog w) A (call (.builtin "sum") [.ref l]) Q E s := by
  have lt : l < s.heap.objs.size := by
    obtain ⟨_, e, _⟩ := hl
    exact Heap.lt_size e
  refine call_sum_walkG (wpAny_pyIter_tuple hl ?_)
  refine ⟨s.heap.objs.size, [s.heap.objs.size, l], [s.heap.objs.size], (intItems xs).size, _, _, numAt xs, rfl, Walks.tuple (A := A.in1) hh _ l (Nat.ne_of_lt lt) (intItems xs), ⟨⟨_, Heap.get?_push_size _ rfl, rfl, rfl⟩, hl.push _⟩, fun b hb => ?_, fun _ _ => intItems_at, fun h' tk t' hk => ?_⟩
  · have e : (s.heap.push { cls := .type "tuple_iterator", data := .fields #[.ref l, .int 0 0] }).objs.size = s.heap.objs.size + 1 := Heap.size_push ..
    show b < (s.heap.push _).objs.size
    rw [e]
    simp only [List.mem_cons, List.not_mem_nil, or_false] at hb
    rcases hb with rfl | rfl
    · exact Nat.lt_succ_self _
    · exact Nat.lt_succ_of_lt lt
  · have := h h' tk t' fun b o e => hk b o (fun m => by
      have := Heap.lt_size e
      simp only [List.mem_cons, List.not_mem_nil, or_false] at m
      rw [m] at this
      exact Nat.lt_irrefl _ this) (Heap.get?_push_of_some _ e)
    simpa [intItems] using this
end
section
variable {X : Cx} {K : PySem.W.Frag} {W : Wd} {P : Hp} {G : Gm} {σ : St} {H : Hp}
def rSumT (K : PySem.W.Frag) : List V → Hp → VK → Prop := fun vs H Q => ∃ (a : Addr) (ns : List Int), vs = [V.ref a] ∧ SqT K H a (ns.map V.int) ∧ Q (.int ns.sum) H
theorem cr_sumT (hc : X.calm = true) : CallR X (.builtin "sum") (rSumT X.K) := by
  intro pins s σ H vs us Q I r h
  obtain ⟨a, ns, rfl, hs, q⟩ := h
  obtain ⟨its, rv, hl, _⟩ := I.tuple hs
  rw [Vals.ref1 r]
  obtain ⟨xs, e⟩ := rv.ints.allInts.items
  have hn : numsOf (intItems xs).toList = ns := by rw [← e]; exact rv.ints.numsOf
  rw [nums_intItems] at hn
  rw [e] at hl
  obtain ⟨o, h1, h2, h3, h4⟩ := hl
  refine tup_sum (I.ok.hd hc) ⟨o, h1, h2, h3, h4⟩ fun h' tk t' hk => ⟨.int ns.sum, H, I.kept hk, ⟨t', ?_⟩, q⟩
  rw [preSum_eq, List.take_of_length_le (by simp), hn]
def tupInts (d : D) (k : List Int → Prop) : Prop := match d with
  | .tup ds => match intsOf ds with | some ns => k ns | none => False
  | _ => False
def dSumT : D1 := fun d Q => tupInts d fun ns => Q (.dat (.int ns.sum))
theorem cd_sumT (hc : X.calm = true) : CallR X (.builtin "sum") (canB X.K dSumT) := by
  refine CallR.imp (cr_sumT hc) ?_
  rintro vs H Qv ⟨W, P, G, σ, v, d, Q, rfl, R, n, t, r⟩
  cases d <;> first | exact False.elim t | skip
  rename_i ds
  obtain ⟨p, xs, rfl, s, q⟩ := n
  have t : (match intsOf ds with | some ns => Q (.dat (.int ns.sum)) | none => False) := t
  cases e : intsOf ds with
  | none => rw [e] at t; exact t.elim
  | some ns =>
    rw [e] at t
    rw [intsOf_eq e] at q
    rw [RpL.ints q] at s
    exact ⟨p, ns, rfl, .of s, r.int R t⟩
end

/-! a tuple of strs that a name of the module holds: it can be walked -/
def sameVs : List Value → List Str → Bool
  | [], [] => true
  | .str x _ :: vs, y :: ds => x == y && sameVs vs ds
  | _, _ => false
def okG (o : Obj) (d : D) : Bool := match o.cls, o.data, d with
  | .type c, .seq its _, .tup ds => c == "tuple" && decide (its.size ≤ 1000) && ds.all strD && sameVs its.toList (ds.map strOf)
  | _, _, _ => false
def GlbO (o : Obj) (d : D) : Prop := okG o d = true
def GlbT (K : PySem.W.Frag) (mg : Str → Option Value) (x : Str) (d : D) : Prop := ∃ (y : Addr) (o : Obj), mg x = some (.ref y) ∧ K.lookup y = some o ∧ GlbO o d
section
variable {X : Cx} {K : PySem.W.Frag} {W : Wd} {P : Hp} {G : Gm} {σ : St} {H : Hp} {x : Str} {pos : Pos} {tg : Expr}
theorem same_vals : ∀ {vs : List Value} {ys : List Str}, sameVs vs ys = true → Vals (ys.map V.str) vs
  | [], [], _ => .nil
  | .str x t :: vs, y :: ys, h => by
    have h : (x == y && sameVs vs ys) = true := h
    rw [Bool.and_eq_true] at h
    obtain rfl := eq_of_beq h.1
    exact .cons ⟨t, rfl⟩ (same_vals h.2)
theorem glbT_sq {d : D} (h : GlbO o d) {y : Addr} (e : K.lookup y = some o) : ∃ ys : List Str, d = .tup (ys.map D.str) ∧ ∀ H : Hp, SqT K H y (ys.map V.str) := by
  obtain ⟨c, dd, data, sl⟩ := o
  unfold GlbO okG at h
  cases c <;> first | exact absurd h Bool.false_ne_true | skip
  cases data <;> first | exact absurd h Bool.false_ne_true | skip
  cases d <;> first | exact absurd h Bool.false_ne_true | skip
  rename_i cn its n ds
  simp only [Bool.and_eq_true, decide_eq_true_eq] at h
  obtain ⟨⟨⟨h1, h2⟩, h3⟩, h4⟩ := h
  have ed : ds = (ds.map strOf).map D.str := by
    rw [List.map_map]
    clear h4 e
    induction ds with
    | nil => rfl
    | cons a r ih =>
      rw [List.all_cons, Bool.and_eq_true] at h3
      rw [List.map_cons, ← ih h3.2]
      cases a <;> first | exact absurd h3.1 Bool.false_ne_true | rfl
  refine ⟨ds.map strOf, congrArg D.tup ed, fun H => .inr ⟨_, its, n, e, ?_, rfl, Nat.le_trans h2 (by decide +kernel), same_vals h4⟩⟩
  rw [eq_of_beq h1]
theorem walks_glT {p : Addr} {ys : List Str} (e : ∀ H : Hp, SqT K H p (ys.map V.str)) : Walks K W (Itt K p) (ys.map D.str) := by
  intro W' P G σ H i l R
  refine ⟨fun d hd => ?_, fun hi => ⟨_, e H, by rw [List.length_map] at hi ⊢; exact hi⟩⟩
  rw [List.getElem?_map] at hd
  obtain ⟨z, hz, rfl⟩ := Option.map_eq_some_iff.mp hd
  have hv : (ys.map V.str)[i]? = some (.str z) := by rw [List.getElem?_map, hz]; rfl
  refine ⟨⟨_, .str z, e H, hv⟩, fun v H' ⟨h1, h2⟩ => ?_⟩
  subst h1
  have q := h2 _ (e _)
  rw [hv] at q
  cases q
  exact ⟨W', .refl W', R, rfl⟩
theorem di_glT {d : D} (h : GlbT X.K X.mg x d) (hg : Gl X x := by rfl) (hd : (x == ("__debug__" : Str)) = false := by decide) : PI X tg (.Name x pos) (canI X.K (dWalk (dC d))) := by
  obtain ⟨y, o, hm, ho, hG⟩ := h
  obtain ⟨ys, rfl, sq⟩ := glbT_sq hG ho
  refine PI.imp (pi_any (pe_glob (v := .ref y) hg hm rfl hd)) ?_
  rintro σ H R0 ⟨W, P, G, Q, R, t, k⟩
  exact ⟨y, rfl, .inr ⟨⟨_, sq H⟩, k W (ys.map D.str) G _ H (.refl W) R (walks_glT sq) t⟩⟩
end

/-! a list comprehension with two clauses -/
section
variable {X : Cx} {K : PySem.W.Frag} {W : Wd} {P : Hp} {G : Gm} {σ : St} {H : Hp} {tg iter tg1 iter1 elt : Expr} {pos : Pos}
/-- the inner clause, turn by turn -/
def lcI (vs1 : List Nat) (g1 : DG) (tt1 : DT) (te : DE) (Nx : List D → Gm → Prop) : List D → List D → Gm → Prop
  | [], acc, G => Nx acc G
  | d :: r, acc, G => g1 (.dat d) G fun G1 => tt1 G1 fun b G2 => if b = true then te G2 fun sv G3 => frz G3 sv fun y G4 => acc.length < sizeLine ∧ lcI vs1 g1 tt1 te Nx r (acc ++ [y]) (wipeG vs1 G4) else lcI vs1 g1 tt1 te Nx r acc (wipeG vs1 G2)
/-- the outer clause -/
def lcO (vs vs1 : List Nat) (g : DG) (tt : DT) (t1 : DI) (g1 : DG) (tt1 : DT) (te : DE) (Qe : List D → Gm → Prop) : List D → List D → Gm → Prop
  | [], acc, G => Qe acc G
  | d :: r, acc, G => g (.dat d) G fun G1 => tt G1 fun b G2 => if b = true then t1 G2 fun ds1 G3 => lcI vs1 g1 tt1 te (fun acc' G4 => lcO vs vs1 g tt t1 g1 tt1 te Qe r acc' (wipeG vs G4)) ds1 acc (wipeG vs1 G3) else lcO vs vs1 g tt t1 g1 tt1 te Qe r acc (wipeG vs G2)
def dLc2 (vs vs1 : List Nat) (t : DI) (g : DG) (tt : DT) (t1 : DI) (g1 : DG) (tt1 : DT) (te : DE) : DE := fun G Q => t G fun ds G1 => lcO vs vs1 g tt t1 g1 tt1 te (fun acc G2 => Q (.new (.lst acc)) (backG vs G1 G2)) ds [] (wipeG vs G1)
theorem wipe_in {vs vs1 : List Nat} (h : ∀ i ∈ vs1, i ∈ vs) (σ : St) : L2.wipe (L2.wipe σ vs1) vs = L2.wipe σ vs := by
  apply List.ext_getElem?
  intro j
  rw [wipe_get, wipe_get, wipe_get]
  by_cases c : j ∈ vs
  · rw [if_pos c, if_pos c]
    by_cases d : j ∈ vs1
    · rw [if_pos d]; cases σ[j]? <;> rfl
    · rw [if_neg d]
  · rw [if_neg c, if_neg c, if_neg fun d => c (h j d)]
theorem lc2_ok {vs vs1 : List Nat} {t t1 : DI} {g g1 : DG} {tt tt1 : DT} {te : DE} {Qv : VK} (hv : ∀ i ∈ vs1, i ∈ vs) (h : can K (dLc2 vs vs1 t g tt t1 g1 tt1 te) σ H Qv) :
    tLc2 (canI K t) (canG K vs g) (canT K tt) (canI K t1) (canG K vs1 g1) (canT K tt1) (can K te) vs vs1 σ H Qv := by
  obtain ⟨W0, P, G0, Q, R0, t0, k0⟩ := h
  refine ⟨W0, P, G0, _, R0, t0, fun W1 ds G1 J H1 l1 R1 w q D hD => ?_⟩
  obtain ⟨nP, nF, Rg⟩ := R1.guard (o := .lst []) hD
  have Rw := Rg.wipe vs
  let Qe : List LD.D → Gm → Prop := fun acc G2 => Q (.new (.lst acc)) (backG vs G1 G2)
  refine ⟨fun i m H => ∃ W2 G2 accD accV, W1.le W2 ∧ Rl K W2 (upd P D (.lst accV)) (wipeG vs G2) (L2.wipe σ vs) H ∧ RpL K W2 accD accV ∧ i + m = ds.length ∧
    lcO vs vs1 g tt t1 g1 tt1 te Qe (ds.drop i) accD (wipeG vs G2), ⟨ds.length, W1, G1, [], [], .refl W1, Rw, rfl, by omega, q⟩, ?_⟩
  rintro i m H ⟨W2, G2, accD, accV, l2, R2, ra, hm, q2⟩
  obtain ⟨w1, w2⟩ := w W2 _ _ _ H i l2 R2
  by_cases hi : i < ds.length
  · obtain ⟨hgo, hy⟩ := w1 ds[i] (List.getElem?_eq_getElem hi)
    rw [List.drop_eq_getElem_cons hi] at q2
    refine .inr ⟨hgo, fun H' => ∃ W3 G3 accD accV, W1.le W3 ∧ Rl K W3 (upd P D (.lst accV)) (wipeG vs G3) (L2.wipe σ vs) H' ∧ RpL K W3 accD accV ∧
      lcO vs vs1 g tt t1 g1 tt1 te Qe (ds.drop (i + 1)) accD (wipeG vs G3), fun H' ⟨W3, G3, aD, aV, l3, R3, r3, q3⟩ => ⟨m - 1, by omega, W3, G3, aD, aV, l3, R3, r3, by omega, q3⟩, fun x H' hx => ?_⟩
    obtain ⟨W3, l3, R3, r3⟩ := hy x H' hx
    refine ⟨W3, _, wipeG vs G2, .dat ds[i], _, R3, r3, q2, fun W4 G4 σ4 H4 l4 R4 b4 q4 => ?_⟩
    have ew : L2.wipe σ4 vs = L2.wipe σ vs := b4.of_wipe
    refine ⟨ew, W4, _, G4, _, R4, q4, fun W5 b G5 H5 l5 R5 q5 => ?_⟩
    have l45 : W1.le W5 := ((l2.trans l3).trans l4).trans l5
    cases b with
    | false =>
      rw [if_neg Bool.false_ne_true] at q5
      refine iteF ?_
      have R6 := R5.wipe vs
      rw [ew] at R6
      exact ⟨W5, G5, accD, accV, l45, R6, RpL.mono ((l3.trans l4).trans l5) _ _ ra, q5⟩
    | true =>
      rw [if_pos rfl] at q5
      refine iteT ?_
      refine ⟨W5, _, G5, _, R5, q5, fun W6 ds1 G6 J1 H6 l6 R6 w6 q6 => ?_⟩
      have l06 : W2.le W6 := ((l3.trans l4).trans l5).trans l6
      let Nx : List LD.D → Gm → Prop := fun acc' G4 => lcO vs vs1 g tt t1 g1 tt1 te Qe (ds.drop (i + 1)) acc' (wipeG vs G4)
      refine ⟨fun j k H => ∃ W7 G7 aD aV, W6.le W7 ∧ Rl K W7 (upd P D (.lst aV)) (wipeG vs1 G7) (L2.wipe σ4 vs1) H ∧ RpL K W7 aD aV ∧ j + k = ds1.length ∧
        lcI vs1 g1 tt1 te Nx (ds1.drop j) aD (wipeG vs1 G7), ⟨ds1.length, W6, G6, accD, accV, .refl W6, R6.wipe vs1, RpL.mono l06 _ _ ra, by omega, q6⟩, ?_⟩
      rintro j k H7 ⟨W7, G7, aD, aV, l7, R7, r7, hk, q7⟩
      obtain ⟨v1, v2⟩ := w6 W7 _ _ _ H7 j l7 R7
      by_cases hj : j < ds1.length
      · obtain ⟨jgo, jy⟩ := v1 ds1[j] (List.getElem?_eq_getElem hj)
        rw [List.drop_eq_getElem_cons hj] at q7
        refine .inr ⟨jgo, fun H' => ∃ W8 G8 aD aV, W6.le W8 ∧ Rl K W8 (upd P D (.lst aV)) (wipeG vs1 G8) (L2.wipe σ4 vs1) H' ∧ RpL K W8 aD aV ∧
          lcI vs1 g1 tt1 te Nx (ds1.drop (j + 1)) aD (wipeG vs1 G8), fun H' ⟨W8, G8, bD, bV, l8, R8, r8, q8⟩ => ⟨k - 1, by omega, W8, G8, bD, bV, l8, R8, r8, by omega, q8⟩, fun x1 H8 hx1 => ?_⟩
        obtain ⟨W8, l8, R8, r8⟩ := jy x1 H8 hx1
        refine ⟨W8, _, wipeG vs1 G7, .dat ds1[j], _, R8, r8, q7, fun W9 G9 σ9 H9 l9 R9 b9 q9 => ?_⟩
        have ew9 : L2.wipe σ9 vs1 = L2.wipe σ4 vs1 := b9.of_wipe
        refine ⟨ew9, W9, _, G9, _, R9, q9, fun W10 b G10 H10 l10 R10 q10 => ?_⟩
        have l710 : W6.le W10 := ((l7.trans l8).trans l9).trans l10
        cases b with
        | false =>
          rw [if_neg Bool.false_ne_true] at q10
          refine iteF ?_
          have R11 := R10.wipe vs1
          rw [ew9] at R11
          exact ⟨W10, G10, aD, aV, l710, R11, RpL.mono ((l8.trans l9).trans l10) _ _ r7, q10⟩
        | true =>
          rw [if_pos rfl] at q10
          refine iteT ?_
          refine ⟨W10, _, G10, _, R10, q10, fun W11 sv G11 y H11 l11 R11 r11 q11 => ?_⟩
          obtain ⟨W12, d, G12, l12, R12, r12, q12, q13⟩ := R11.frz r11 q11
          obtain ⟨hD12, R13⟩ := R12.reguard (o' := .lst (aV ++ [y]))
          have R14 := R13.wipe vs1
          rw [ew9] at R14
          refine ⟨aV, hD12, by rw [r7.length]; exact q12, W12, G12, aD ++ [d], aV ++ [y], (l710.trans l11).trans l12, R14, RpL.append (RpL.mono ((((l8.trans l9).trans l10).trans l11).trans l12) _ _ r7) ⟨y, [], rfl, r12, rfl⟩, q13⟩
      · rw [List.drop_eq_nil_of_le (by omega)] at q7
        refine .inl ⟨v2 (by omega), ?_⟩
        have R8 := R7.wipe vs
        rw [wipe_in hv, ew] at R8
        exact ⟨W7, wipeG vs1 G7, aD, aV, l45.trans (l6.trans l7), R8, r7, q7⟩
  · rw [List.drop_eq_nil_of_le (by omega)] at q2
    refine .inl ⟨w2 (by omega), ?_⟩
    obtain ⟨R4, r4⟩ := R2.unguard (o := HO.lst accV) (d := .lst accD) nP ra
    have R5 := R4.back l2 R1
    obtain ⟨p, o, e1, pr, ro, _⟩ := r4
    have hl : G2.length = G1.length := by
      have h1 := R4.len
      rw [wipeG_len, wipe_length] at h1
      exact h1.trans R1.len.symm
    have ebk : backG vs G1 (wipeG vs G2) = backG vs G1 G2 := by
      refine gm_ext (by rw [backG_c, backG_c, wipeG_c]) (by rw [backG_len, backG_len, wipeG_len]) fun j => ?_
      rw [gg_back _ _ _ _ (by rw [wipeG_len]; exact hl), gg_back _ _ _ _ hl, gg_wipe]
      by_cases h : j ∈ vs
      · rw [if_pos h, if_pos h]
      · rw [if_neg h, if_neg h, if_neg h]
    have q2 : Q (.new (.lst accD)) (backG vs G1 (wipeG vs G2)) := q2
    rw [ebk] at q2
    refine k0 W2 (.new (.lst accD)) _ _ H (l1.trans l2) R5 ⟨p, o, e1, pr, ro, fun i e h1 h2 => ?_⟩ q2
    obtain ⟨p', o', h3, h4, _⟩ := R5.own i e h1
    rw [h2] at h3; cases h3
    cases e1
    -- the new list is no slot's own: it was not there ahead of the block
    rw [gg_back _ _ _ _ hl] at h1
    by_cases hv : i ∈ vs
    · rw [if_pos hv] at h1
      cases q : gg G1 i with
      | none => rw [q] at h1; cases h1
      | some y => rw [q] at h1; cases y <;> cases h1
    · rw [if_neg hv] at h1
      obtain ⟨q, u, h5, h6, _⟩ := R2.own i e (by rw [gg_wipe, if_neg hv]; exact h1)
      rw [wipe_get, if_neg hv, h2] at h5; cases h5
      have := h6.n
      rw [upd_same] at this; cases this
/-- as a value -/
theorem de_lc2 {ifs ifs1 : List Expr} {scope : Scope} {own : List (Str × Nat)} {vs1 : List Nat} {t t1 : DI} {g g1 : DG} {tt tt1 : DT} {te : DE} (hN : X.N.Nodup) (hi : PI X tg iter (canI X.K t)) (ok : BlkOk X.N X.env.scope scope own) (hv : ∀ i ∈ vs1, i ∈ own.map (·.2))
    (hg : ∀ (s : Shared) (H : Hp) (C : Addr) (cl : List (Str × Addr)) (fp : List Addr), PG (X.blk s H scope (compEnvC scope cl C X.env) fp) tg (canG X.K (own.map (·.2)) g))
    (ht : ∀ (s : Shared) (H : Hp) (C : Addr) (cl : List (Str × Addr)) (fp : List Addr), PTs (X.blk s H scope (compEnvC scope cl C X.env) fp) ifs (canT X.K tt))
    (hi1 : ∀ (s : Shared) (H : Hp) (C : Addr) (cl : List (Str × Addr)) (fp : List Addr), PI (X.blk s H scope (compEnvC scope cl C X.env) fp) tg1 iter1 (canI X.K t1))
    (hg1 : ∀ (s : Shared) (H : Hp) (C : Addr) (cl : List (Str × Addr)) (fp : List Addr), PG (X.blk s H scope (compEnvC scope cl C X.env) fp) tg1 (canG X.K vs1 g1))
    (ht1 : ∀ (s : Shared) (H : Hp) (C : Addr) (cl : List (Str × Addr)) (fp : List Addr), PTs (X.blk s H scope (compEnvC scope cl C X.env) fp) ifs1 (canT X.K tt1))
    (he : ∀ (s : Shared) (H : Hp) (C : Addr) (cl : List (Str × Addr)) (fp : List Addr), PE (X.blk s H scope (compEnvC scope cl C X.env) fp) elt (can X.K te)) (hc : X.calm = true := by rfl) (hs : ∀ x, foldedSetIterable iter X.env x = pure x := by intro _; rfl) (hs1 : ∀ env x, foldedSetIterable iter1 env x = pure x := by intro _ _; rfl) :
    PE X (.ListComp elt [⟨tg, iter, ifs, 0⟩, ⟨tg1, iter1, ifs1, 0⟩] scope pos) (can X.K (dLc2 (own.map (·.2)) vs1 t g tt t1 g1 tt1 te)) := PE.imp (pe_lc2 hc hN hi ok hv hg ht hi1 hg1 ht1 he hs hs1) fun _ _ _ => lc2_ok hv
/-! list(range(a, b)) -/
def dLRg2 (ta tb : DE) : DE := fun G Q => ta G fun sa G1 => isI sa fun i => tb G1 fun sb G2 => isI sb fun j => ((-(2 ^ 62) ≤ i ∧ i < 2 ^ 62) ∧ (-(2 ^ 62) ≤ j ∧ j < 2 ^ 62) ∧ (j - i).toNat ≤ 2 ^ 24) ∧ Q (.new (.lst (rangeD i (j - i).toNat))) G2
theorem de_lrg2 {a b : Expr} {ta tb : DE} {p p2 pos2 : Pos} (hm : X.mg "list" = none) (hr : X.mg "range" = none) (ha : PE X a (can X.K ta)) (hb : PE X b (can X.K tb)) (hc : X.calm = true := by rfl) (hg : Gl X "list" := by rfl) (hg2 : Gl X "range" := by rfl) (na : starEach [a, b] X.env = (false, eval a X.env) :: starEach [b] X.env := by rfl) (na2 : starEach [b] X.env = (false, eval b X.env) :: starEach [] X.env := by rfl) (hp : (backTo pos2 (starEach [b] X.env)).any (·.1) = false := by rfl)
    (nb : starEach [Expr.Call (.Name "range" p2) [a, b] [] pos2] X.env = (false, eval (Expr.Call (.Name "range" p2) [a, b] [] pos2) X.env) :: starEach [] X.env := by rfl) : PE X (.Call (.Name "list" p) [.Call (.Name "range" p2) [a, b] [] pos2] [] pos) (can X.K (dLRg2 ta tb)) := by
  refine PE.imp (pe_listRg hc hg hm (prg_2 hg2 hr ha hb na na2 hp) nb) ?_
  rintro σ H Qv ⟨W, P, G, Q, R, t, k⟩
  refine ⟨W, P, G, _, R, t, fun W1 sv G1 v H1 l1 R1 r1 q1 => ?_⟩
  obtain ⟨i, rfl, q1⟩ := isI_of r1 q1
  refine ⟨W1, P, G1, _, R1, q1, fun W2 sw G2 w H2 l2 R2 r2 q2 => ?_⟩
  obtain ⟨j, rfl, ⟨⟨i1, i2⟩, ⟨j1, j2⟩, h⟩, q⟩ := isI_of r2 q2
  refine ⟨i, j, rfl, rfl, ⟨i1, i2, j1, j2, h⟩, fun p hp => ?_⟩
  obtain ⟨R3, r3⟩ := R2.alloc (o := .lst (rgV i j)) (d := .lst (rangeD i (j - i).toNat)) hp (by unfold rgV; exact rg_rp _ _)
  exact k W2 _ G2 _ _ (l1.trans l2) R3 r3 q
theorem x_lrg2 {ta tb : DE} {G : Gm} {Q : SV → Gm → Prop} : dLRg2 ta tb G Q = ta G fun sa G1 => isI sa fun i => tb G1 fun sb G2 => isI sb fun j => ((-(2 ^ 62) ≤ i ∧ i < 2 ^ 62) ∧ (-(2 ^ 62) ≤ j ∧ j < 2 ^ 62) ∧ (j - i).toNat ≤ 2 ^ 24) ∧ Q (.new (.lst (rangeD i (j - i).toNat))) G2 := rfl
theorem x_lc2 {vs vs1 : List Nat} {t t1 : DI} {g g1 : DG} {tt tt1 : DT} {te : DE} {G : Gm} {Q : SV → Gm → Prop} : dLc2 vs vs1 t g tt t1 g1 tt1 te G Q = t G fun ds G1 => lcO vs vs1 g tt t1 g1 tt1 te (fun acc G2 => Q (.new (.lst acc)) (backG vs G1 G2)) ds [] (wipeG vs G1) := rfl
/-- the outer clause by an invariant of what is left and what is found -/
theorem lcO_inv {vs vs1 : List Nat} {g g1 : DG} {tt tt1 : DT} {t1 : DI} {te : DE} {Qe : List D → Gm → Prop} (I : List D → List D → Gm → Prop) (fin : ∀ acc G, I [] acc G → Qe acc G) :
    ∀ (ds : List D) (_ : ∀ (d : D) (r acc : List D) (G : Gm) (N : List D → Gm → Prop), (d :: r) <:+ ds → I (d :: r) acc G → (∀ acc' G', I r acc' (wipeG vs G') → N acc' G') → g (.dat d) G fun G1 => tt G1 fun b G2 => if b = true then t1 G2 fun ds1 G3 => lcI vs1 g1 tt1 te N ds1 acc (wipeG vs1 G3) else N acc G2) (acc : List D) (G : Gm), I ds acc G → lcO vs vs1 g tt t1 g1 tt1 te Qe ds acc G
  | [], _, acc, G, h => fin acc G h
  | d :: r, st, acc, G, h => by
    have := st d r acc G (fun acc' G' => lcO vs vs1 g tt t1 g1 tt1 te Qe r acc' (wipeG vs G')) (List.suffix_refl _) h fun acc' G' h' => lcO_inv I fin r (fun x s ac G N hs => st x s ac G N (List.IsSuffix.trans hs (List.suffix_cons _ _))) acc' _ h'
    exact this
theorem lcI_inv {vs1 : List Nat} {g1 : DG} {tt1 : DT} {te : DE} {Nx : List D → Gm → Prop} (I : List D → List D → Gm → Prop) (fin : ∀ acc G, I [] acc G → Nx acc G) :
    ∀ (ds : List D) (_ : ∀ (d : D) (r acc : List D) (G : Gm) (k : D → Gm → Prop) (k' : Gm → Prop), (d :: r) <:+ ds → I (d :: r) acc G → (∀ y G', acc.length < sizeLine → I r (acc ++ [y]) (wipeG vs1 G') → k y G') → (∀ G', I r acc (wipeG vs1 G') → k' G') → acc.length < sizeLine → g1 (.dat d) G fun G1 => tt1 G1 fun b G2 => if b = true then te G2 fun sv G3 => frz G3 sv k else k' G2) (_ : ∀ d r acc G, I (d :: r) acc G → acc.length < sizeLine) (acc : List D) (G : Gm), I ds acc G → lcI vs1 g1 tt1 te Nx ds acc G
  | [], _, _, acc, G, h => fin acc G h
  | d :: r, st, hz, acc, G, h => by
    have ih := fun acc' G' h' => lcI_inv (Nx := Nx) I fin r (fun x s ac G k k' hs => st x s ac G k k' (List.IsSuffix.trans hs (List.suffix_cons _ _))) hz acc' G' h'
    exact st d r acc G (fun y G4 => acc.length < sizeLine ∧ lcI vs1 g1 tt1 te Nx r (acc ++ [y]) (wipeG vs1 G4)) (fun G2 => lcI vs1 g1 tt1 te Nx r acc (wipeG vs1 G2)) (List.suffix_refl _) h (fun y G' hl hI => ⟨hl, ih _ _ hI⟩) (fun G' hI => ih _ _ hI) (hz d r acc G h)
/-! a name that holds a dict or a list, walked -/
def isDG (o : Option SC) : Bool := match o with
  | some (.dat (.dT _)) => true
  | some (.own (.dT _)) => true
  | _ => false
def dKeysA (i : Nat) : DI := fun G Q => if isDG (gg G i) = true then dKeys i G Q else dWalk (dVar i) G Q
theorem ds_setLcKA {x y : Str} {px py spos : Pos} {j : Nat} (i : Nat) {ifs : List Expr} {scope : Scope} {own : List (Str × Nat)} {g : DG} {tt : DT} {te : DE} (hN : X.N.Nodup) (ok : BlkOk X.N X.env.scope scope own)
    (hg : ∀ (s : Shared) (H : Hp) (C : Addr) (cl : List (Str × Addr)) (fp : List Addr), PG (X.blk s H scope (compEnvC scope cl C X.env) fp) tg (canG X.K (own.map (·.2)) g))
    (ht : ∀ (s : Shared) (H : Hp) (C : Addr) (cl : List (Str × Addr)) (fp : List Addr), PTs (X.blk s H scope (compEnvC scope cl C X.env) fp) ifs (canT X.K tt))
    (he : ∀ (s : Shared) (H : Hp) (C : Addr) (cl : List (Str × Addr)) (fp : List Addr), PE (X.blk s H scope (compEnvC scope cl C X.env) fp) elt (can X.K te))
    (hsw : swapsWith (.ListComp elt [⟨tg, .Name x px, ifs, 0⟩] scope pos) (some (.Name y py)) spos.line X.env = pure true) (hj : X.N[j]? = some x := by rfl) (hv : Vis X.env.scope x := by first | exact Or.inl rfl | exact Or.inr (Or.inl rfl) | exact Or.inr (Or.inr rfl))
    (hd : (x == ("__debug__" : Str)) = false := by decide) (hcd : (x == ("__classdict__" : Str)) = false := by decide) (hy : X.N[i]? = some y := by rfl) (hyl : X.env.scope.names.lookup y = some .local := by rfl) (hc : X.calm = true := by rfl) (hs : ∀ y, foldedSetIterable (.Name x px) X.env y = pure y := by intro _; rfl) :
    PS X (.Assign [.Name y py] (.ListComp elt [⟨tg, .Name x px, ifs, 0⟩] scope pos) spos) (canS X.K (dAsg (dLc (own.map (·.2)) (dKeysA j) g tt te) (dgName i))) := by
  refine PS.imp (PS.or (ds_setLcK (j := j) i hN ok hg ht he hsw hj hv hd hcd hy hyl hc hs) (ds_setLc i hN (di_walk (de_var j hj hv hd hcd)) ok hg ht he hsw hy hyl hc hs)) ?_
  rintro D σ H ⟨W, P, G, E, R, t, k⟩
  by_cases c : isDG (gg G j) = true
  · have e : dKeysA j G = dKeys j G := funext fun Q => if_pos c
    refine .inl ⟨W, P, G, E, R, ?_, k⟩
    unfold dAsg dLc at t ⊢
    rw [e] at t
    exact t
  · have e : dKeysA j G = dWalk (dVar j) G := funext fun Q => if_neg c
    refine .inr ⟨W, P, G, E, R, ?_, k⟩
    unfold dAsg dLc at t ⊢
    rw [e] at t
    exact t
def kAM (o : Option SC) (i : Nat) (G : Gm) (Q : List D → Gm → Prop) : Prop := if isDG o = true then dKeys i G Q else dWalk (dVar i) G Q
theorem x_keysA {i c : Nat} {L : List (Option SC)} {Q : List D → Gm → Prop} : dKeysA i ⟨L, c⟩ Q = kAM (ggl L i) i ⟨L, c⟩ Q := rfl
theorem x_kAd {i : Nat} {es : List (List Key × D)} {G : Gm} {Q : List D → Gm → Prop} : kAM (some (.dat (.dT es))) i G Q = dKeys i G Q := if_pos rfl
theorem x_kAl {i : Nat} {ds : List D} {G : Gm} {Q : List D → Gm → Prop} : kAM (some (.dat (.lst ds))) i G Q = dWalk (dVar i) G Q := if_neg Bool.false_ne_true
end

/-! a def that the module holds under another name: y holds what was written as def x -/
def FunN (K : PySem.W.Frag) (mg : Str → Option Value) (y x : Str) (st : Stmt) (dd : List D) : Prop := ∃ f fd, mg y = some (.ref f) ∧ FunT K x x st dd f fd
def HasN (P : Program) (w : World) (K : PySem.W.Frag) (mg : Str → Option Value) (base : Heap) (k : Nat) (y x : Str) (st : Stmt) (dd : List D) (ps : List Str) (S : DSp) : Prop :=
  ∃ f fd, mg y = some (.ref f) ∧ FunT K x x st dd f fd ∧ FnD P w K mg base k f fd ps S
theorem hasn_of {P : Program} {w : World} {K : PySem.W.Frag} {mg : Str → Option Value} {base : Heap} {k : Nat} {y x : Str} {st : Stmt} {dd : List D} {N ps : List Str} {S : DSp} {t : DS}
    (F : FunN K mg y x st dd) (C : FnScope N ps (defScope st))
    (der : ∀ (f : Addr) (cdv : Value) (A : Around) (outer : List Env) (s : Shared) (H : Hp), (A.deeper (envOfC x (defScope st) s.heap.objs.size f cdv)).guards = some [] → Room k (A.deeper (envOfC x (defScope st) s.heap.objs.size f cdv)) →
      PSs (cxOf CX0 P w K mg base N x (defScope st) f cdv A outer s H E0).nox (defBody st) (canS K t))
    (len : ∀ n ds Q, S n ds Q → ds.length = ps.length) (law : ∀ n ds Q, S n ds Q → t (defE Q) (startG n N ds)) : HasN P w K mg base (k + 1) y x st dd ps S := by
  obtain ⟨f, fd, m, F⟩ := F
  exact ⟨f, fd, m, F, fd_of F C (der f) len law⟩
section
variable {X : Cx} {j k n : Nat} {st : Stmt} {dd : List D} {ps : List Str} {S : DSp} {x y : Str} {p pos : Pos} {e : Expr} {es : List Expr} {gD : List D → List D → List D}
theorem dh_callN {t : DA} (h : HasN X.prog X.w X.K X.mg X.base j y x st dd ps S) (gd : X.A.guards = some []) (hr : Room k X.A) (hb : ∀ f fd, FunT X.K x x st dd f fd → Bnd X.K fd ps n [] gD)
    (ha : PA X (e :: es) (canA X.K t)) (hj : j ≤ k := by decide) (hg : Gl X y := by rfl) (hdb : (y == ("__debug__" : Str)) = false := by decide) (he : starEach (e :: es) X.env = (false, eval e X.env) :: starEach es X.env := by rfl) (hpl : (backTo pos (starEach es X.env)).any (·.1) = false := by rfl) :
    PE X (.Call (.Name y p) (e :: es) [] pos) (can X.K (dCall n 0 S gD t dNil)) := by
  obtain ⟨f, fd, m, F, h⟩ := h
  exact de_call h gd (hr.mono hj) m F.kp (hb f fd F) ha hg hdb he hpl
end

/-! range(i, j) of any ints: the iterator is the small one or the long one -/
/-- the long iterator's turns -/
theorem long_turns {P : Program} {w : World} {K : PySem.W.Frag} {tg : Expr} (q : Addr) (lo : Int) (n : Nat) : Turn P w K tg (Itr lo n) [q] q (fun i h => IsLongIter h q (lo + (i : Nat) * 1) ((n : Int) - (i : Nat)) 1) where
  mem := List.mem_singleton.mpr rfl
  obj := fun i h st b hb => by
    rw [List.mem_singleton.mp hb]
    exact ⟨_, st, fun v z => nomatch z⟩
  keep := fun i h h' st k => k q (List.mem_singleton.mpr rfl) _ st
  item := by
    intro X hP hw hK hc i pins s σ H E I hf st hg
    subst hP hw hK
    obtain ⟨n0, n1, n2, n3, n4, n5⟩ := hf q (List.mem_singleton.mpr rfl)
    refine (PySem.Walks.longrange (prog := X.prog) (w := X.w) (I.ok.hd hc) q lo 1 n).item i s _ _ hg st fun v h' tk hv st' kk => ?_
    obtain ⟨t, rfl⟩ := hv
    have I1 : Inv X pins σ H { s with heap := h', toks := tk } := I.turned (fun b o hb e => kk b o (fun z => hb (List.mem_singleton.mp z)) e) n0 n1 n3 n4 n5
    exact ⟨_, rfl, go_of (s := { s with heap := h', toks := tk }) (n := "longrange_iterator") st' rfl rfl (by decide) ⟨.int (lo + i), H, I1, ⟨t, by rw [Int.mul_one]⟩, ⟨rfl, rfl⟩, st', fun b hb => (hf b hb).1⟩⟩
  done := by
    intro X hP hw hK hc i pins s σ H E I hf st hg
    subst hP hw hK
    obtain ⟨n0, n1, n2, n3, n4, n5⟩ := hf q (List.mem_singleton.mpr rfl)
    have hg : n ≤ i := hg
    exact wpAny_pyNext_long_end (I.ok.hd hc) st (by omega) fun h' eb => ⟨rfl, I.turned (t' := s.toks) (fun b o hb e => eb b o hb e) n0 n1 n3 n4 n5⟩
  self := fun A i s Q E st h => wpAny_pyIter_longiter st h
section
variable {X : Cx} {tg : Expr}
/-- a fresh range object is walked, whatever its bounds -/
theorem wide_it {pins : List (Addr × Obj)} {σ : St} {H : Hp} {s : Shared} {R : It → Hp → Prop} {E : Value → Shared → Prop} {lo hi : Int} {t u v : Tok} {tk : Nat} (I : Inv X pins σ H s)
    (q : R (Itr lo (hi - lo).toNat) H) : wpAny (model X.prog X.w) X.A (pyIter (.ref s.heap.objs.size)) (PIE X pins σ tg R) E { s with heap := s.heap.push { cls := .type "range", data := .fields #[.int lo t, .int hi u, .int 1 v] }, toks := tk } := by
  have I1 : Inv X pins σ H { s with heap := s.heap.push { cls := .type "range", data := .fields #[.int lo t, .int hi u, .int 1 v] }, toks := tk } := I.kept fun b o e => Heap.get?_push_of_some _ e
  have sz : (((hi - lo).toNat : Nat) : Int) - ((0 : Nat) : Int) = Builtin.Range.rangeSize lo hi 1 := by rw [rangeSize_one]; split <;> omega
  have st0 : lo + ((0 : Nat) : Int) * 1 = lo := by simp
  cases small : Builtin.Range.small lo hi 1 with
  | true =>
    refine wpAny_pyIter_range (IsRange.new ..) small ?_
    refine pi_one (tk := tk) I1 _ (turn_range _ lo (hi - lo).toNat) ?_ q
    show IsRangeIter _ _ (lo + ((0 : Nat) : Int) * 1) ((((hi - lo).toNat : Nat) : Int) - ((0 : Nat) : Int)) 1
    rw [st0, sz]
    exact Heap.get?_push_size _ rfl
  | false =>
    refine wpAny_pyIter_longrange (IsRange.new ..) small ?_
    refine pi_one (tk := tk) I1 _ (long_turns _ lo (hi - lo).toNat) ?_ q
    show IsLongIter _ _ (lo + ((0 : Nat) : Int) * 1) ((((hi - lo).toNat : Nat) : Int) - ((0 : Nat) : Int)) 1
    rw [st0, sz]
    exact Heap.get?_push_size _ rfl
def iRngW2 (ta : TA) : TI := fun σ H R => ta σ H fun vs H1 => ∃ i j : Int, vs = [.int i, .int j] ∧ R (Itr i (j - i).toNat) H1
theorem pi_rangeW2 {a b : Expr} {ta : TA} {p pos : Pos} (hg : Gl X "range") (hm : X.mg "range" = none) (ha : PA X [a, b] ta) (hs : starEach [a, b] X.env = [(false, eval a X.env), (false, eval b X.env)] := by rfl) (hs2 : starEach [b] X.env = [(false, eval b X.env)] := by rfl) :
    PI X tg (.Call (.Name "range" p) [a, b] [] pos) (iRngW2 ta) := by
  refine ⟨fun pins s σ H R I h => ?_⟩
  refine Call_ (ld_blt I hg hm boot_range (PyProof.Rows.callWith_type1 (thn (ha.run pos pins s σ H _ I h) fun us s1 ⟨vs, H1, I1, r1, q1⟩ => ?_) (by rw [hs, hs2]) (by rw [hs2]; rfl)))
  obtain ⟨i, j, rfl, q⟩ := q1
  obtain ⟨u1, u2, rfl, ⟨t1, rfl⟩, ⟨t2, rfl⟩⟩ := vals2 r1
  exact call_range_2 (wide_it I1 q)
end
/-- range(i, j), any ints -/
def rngW2K (Q : List D → Gm → Prop) : List D → Gm → Prop := fun ds G1 => match ds with
  | [.int i, .int j] => Q (rangeD i (j - i).toNat) G1
  | _ => False
def dRngW2 (t : DA) : DI := fun G Q => t G (rngW2K Q)
theorem di_rangeW2 {X : Cx} {a b tg : Expr} {pos : Pos} {t : DA} {p : Pos} (hm : X.mg "range" = none) (ha : PA X [a, b] (canA X.K t)) (hg : Gl X "range" := by rfl) (hs : starEach [a, b] X.env = [(false, eval a X.env), (false, eval b X.env)] := by rfl) (hs2 : starEach [b] X.env = [(false, eval b X.env)] := by rfl) :
    PI X tg (.Call (.Name "range" p) [a, b] [] pos) (canI X.K (dRngW2 t)) := by
  refine PI.imp (pi_rangeW2 hg hm ha hs hs2) ?_
  rintro σ H R0 ⟨W, P, G, Q, R, t, k⟩
  refine ⟨W, P, G, _, R, t, fun W1 ds G1 vs H1 l1 R1 r1 q1 => ?_⟩
  unfold rngW2K at q1
  split at q1
  · rename_i i j
    obtain ⟨v, w, rfl, rfl, r2⟩ := r1
    obtain ⟨v, w, rfl, rfl, r3⟩ := r2
    obtain rfl : w = [] := r3
    exact ⟨i, j, rfl, k W1 _ G1 _ H1 l1 R1 (walks_range i _) q1⟩
  · exact q1.elim
section
variable {as : DA} {G : Gm} {Qa Q : List D → Gm → Prop} {i j : Int}
theorem x_rngW2 : dRngW2 as G Qa = as G (rngW2K Qa) := rfl
theorem x_rW2 : rngW2K Qa [.int i, .int j] G = Qa (rangeD i (j - i).toNat) G := rfl
end

/-! ### sorted of a list of ints with pairs: (t, (x, y)) -/
abbrev Tri := Int × (Int × Int)
def trD (p : Tri) : D := .tup [.int p.1, prD p.2]
def trsOf : List D → Option (List Tri)
  | [] => some []
  | .tup [.int t, .tup [.int x, .int y]] :: r => match trsOf r with | some ps => some ((t, (x, y)) :: ps) | none => none
  | _ :: _ => none
theorem trsOf_map : ∀ ps : List Tri, trsOf (ps.map trD) = some ps
  | [] => rfl
  | p :: ps => by show (match trsOf (ps.map trD) with | some ns => some ((p.1, (p.2.1, p.2.2)) :: ns) | none => none) = _; rw [trsOf_map ps]
theorem trsOf_eq : ∀ {ds : List D} {ps : List Tri}, trsOf ds = some ps → ds = ps.map trD
  | [], _, h => by cases h; rfl
  | d :: ds, ps, h => by
    unfold trsOf at h
    split at h
    · rename_i e; cases e
    · rename_i _ t x y r' e
      cases e
      cases q : trsOf ds with
      | none => rw [q] at h; cases h
      | some ms => rw [q] at h; cases h; rw [trsOf_eq q]; rfl
    · cases h
def trLe (p q : Tri) : Prop := p.1 < q.1 ∨ (p.1 = q.1 ∧ prLe p.2 q.2)
instance (p q : Tri) : Decidable (trLe p q) := by unfold trLe prLe; infer_instance
def encT (p : Tri) : PyData := .tuple [.int p.1, .tuple [.int p.2.1, .int p.2.2]]
theorem ltT (p q : Tri) : PySem.W.dataLt (encT p) (encT q) = decide (p.1 < q.1 ∨ (p.1 = q.1 ∧ (p.2.1 < q.2.1 ∨ (p.2.1 = q.2.1 ∧ p.2.2 < q.2.2)))) := by
  unfold encT
  rw [PySem.W.dataLt_pair (by simp [PySem.W.alike]) (by simp [PySem.W.alike, PySem.W.alikeAll]), PySem.W.dataLt_int, PySem.W.dataLt_ii]
  simp only [PyData.eqv, PyData.eqvAll, beq_iff_eq, Bool.and_eq_true, and_true]
  by_cases h1 : p.1 = q.1
  · by_cases h2 : p.2.1 = q.2.1 ∧ p.2.2 = q.2.2
    · rw [if_pos h1, if_pos h2]
      symm
      exact decide_eq_false (by omega)
    · rw [if_pos h1, if_neg h2]
      congr 1
      rw [eq_iff_iff]
      omega
  · rw [if_neg h1]
    congr 1
    rw [eq_iff_iff]
    omega
theorem leT {β : Type} (k : β → Tri) : PySem.W.dataLe false (fun b => encT (k b)) = fun a b => decide (trLe (k a) (k b)) := by
  funext a b
  show (!PySem.W.dataLt (encT (k b)) (encT (k a))) = _
  rw [ltT]
  by_cases c : trLe (k a) (k b)
  · rw [decide_eq_true c, decide_eq_false]
    · rfl
    · unfold trLe prLe at c; omega
  · rw [decide_eq_false c, decide_eq_true]
    · rfl
    · unfold trLe prLe at c; omega
section
variable {X : Cx} {K : PySem.W.Frag} {W : Wd} {P : Hp} {G : Gm} {σ : St} {H : Hp}
def rSortedN (K : PySem.W.Frag) : List V → Hp → VK → Prop := fun vs H Q => ∃ (a : Addr) (xs : List V) (k : V → Tri), vs = [V.ref a] ∧ SqL K H a xs ∧ (∀ x ∈ xs, ∃ t p, x = V.ref t ∧ H t = some (.tup [.int (k x).1, .ref p]) ∧ H p = some (.tup [.int (k x).2.1, .int (k x).2.2])) ∧
  ∀ (ys : List V) (l : Addr), ys.Perm xs → ys.Pairwise (fun x y => trLe (k x) (k y)) → H l = none → Q (.ref l) (upd H l (.lst ys))
theorem reads_tr {pins : List (Addr × Obj)} {s : Shared} (I : Inv X pins σ H s) {t p : Addr} {i x y : Int} (e : H t = some (.tup [.int i, .ref p])) (e2 : H p = some (.tup [.int x, .int y])) : ∃ as, Reads s.heap (.ref t) (encT (i, (x, y))) as := by
  obtain ⟨its, rv, ⟨o, ho, hc, m, hd⟩, _⟩ := I.tuple (.of e)
  obtain ⟨as, q⟩ := reads_pr I e2
  cases rv with
  | cons r1 r2 =>
    cases r2 with
    | cons r2 r3 =>
      cases r3
      obtain ⟨t1, rfl⟩ := r1
      cases r2
      exact ⟨_, Reads.tuple ho hc hd (.cons (Reads.int _ _) (.cons q .nil))⟩
theorem each_self {R : Value → Value → Prop} : ∀ {us : List Value}, (∀ u ∈ us, R u u) → PySem.W.EachIs R us us
  | [], _ => .nil
  | u :: us, h => .cons (h u List.mem_cons_self) (each_self fun v hv => h v (List.mem_cons_of_mem _ hv))
theorem each_eq : ∀ {us vs : List Value}, PySem.W.EachIs (fun u v => u = v) us vs → us = vs
  | _, _, .nil => rfl
  | _, _, .cons h t => by rw [h, each_eq t]
theorem cr_sortedN (hu : X.A.units + 64 < cLine) : CallR X (.builtin "sorted") (rSortedN X.K) := by
  intro pins s σ H vs us Q I r h
  obtain ⟨a, xs, k, rfl, hs, hx, q⟩ := h
  obtain ⟨its, rv, hl, hz⟩ := I.list hs
  rw [Vals.ref1 r]
  obtain ⟨e1, e2⟩ := refs_back rv fun x m => by
    obtain ⟨t, p, e, _⟩ := hx x m
    exact ⟨t, e⟩
  have rd : ∀ u ∈ its, ∃ as, Reads s.heap u (encT (k (backV u))) as := fun u hu => by
    obtain ⟨b, rfl⟩ := e2 u hu
    obtain ⟨t, p, e, h1, h2⟩ := hx (V.ref b) (by rw [e1]; exact List.mem_map.mpr ⟨_, hu, rfl⟩)
    cases e
    exact reads_tr I h1 h2
  refine PySem.W.sorted_data (R := fun u v => u = v) (enc := fun u => encT (k (backV u))) hl.isList (each_self fun _ _ => rfl) (each_self (R := fun v b => ∃ as, Reads s.heap v (encT (k (backV b))) as) fun u hu => rd u hu)
    (PySem.W.AllAlike.of fun _ _ => by simp [encT, PySem.W.alike, PySem.W.alikeAll]) (PySem.W.Sortable.tuples fun _ => ⟨_, _, rfl⟩) (by rw [← rv.length]; exact hz) (fun u _ => ?_) fun out hlen eo => ?_
  · have : (encT (k (backV u))).depth ≤ 4 := by simp [encT, PyData.depth, PyData.depthAll]
    omega
  · have eo := each_eq eo
    subst eo
    rw [leT fun u => k (backV u)] at hlen ⊢
    have pm : (its.mergeSort fun a b => decide (trLe (k (backV a)) (k (backV b)))).Perm its := List.mergeSort_perm _ _
    have pw : (its.mergeSort fun a b => decide (trLe (k (backV a)) (k (backV b)))).Pairwise fun a b => trLe (k (backV a)) (k (backV b)) := by
      refine (List.pairwise_mergeSort (fun a b c h1 h2 => ?_) (fun a b => ?_) its).imp fun h => of_decide_eq_true h
      · have h1 := of_decide_eq_true h1
        have h2 := of_decide_eq_true h2
        unfold trLe prLe at h1 h2
        refine decide_eq_true ?_
        unfold trLe prLe
        omega
      · rw [Bool.or_eq_true, decide_eq_true_iff, decide_eq_true_iff]
        unfold trLe prLe
        omega
    generalize (its.mergeSort fun a b => decide (trLe (k (backV a)) (k (backV b)))) = out at pm pw hlen ⊢
    obtain ⟨c, hc⟩ := PyProof.Rows.sortedAll_at s.heap its out.toArray
    have kp : ∀ b o, s.heap.get? b = some o → (sortedAll s.heap its out.toArray).get? b = some o := fun b o => sortedAll_old
    refine ⟨.ref (s.heap.objs.size + 1), upd H (s.heap.objs.size + 1) (.lst (out.map backV)), I.laid (t' := s.toks) kp (Nat.le_succ _) (show ObjOk X.prog X.w _ _ _ (.lst (out.map backV)) from ⟨?_, out, c, vals_back fun u hu => e2 u (pm.mem_iff.mp hu), hc⟩), rfl, q _ _ ?_ (List.pairwise_map.mpr pw) (I.hok.fresh (Nat.le_succ _))⟩
    · rw [List.length_map, pm.length_eq, ← rv.length]; exact hz
    · rw [e1]; exact pm.map _
def dSortedN : D1 := fun d Q => match d with
  | .lst ds => match trsOf ds with
    | some ps => ∀ qs : List Tri, qs.Perm ps → qs.Pairwise trLe → Q (.new (.lst (qs.map trD)))
    | none => False
  | _ => False
def trAt (H : Hp) : V → Tri
  | .ref t => match H t with
    | some (.tup [.int i, .ref p]) => (match H p with | some (.tup [.int x, .int y]) => (i, (x, y)) | _ => (0, (0, 0)))
    | _ => (0, (0, 0))
  | _ => (0, (0, 0))
theorem trs_at (R : Rl K W P G σ H) : ∀ {ps : List Tri} {xs : List V}, RpL K W (ps.map trD) xs → xs.map (trAt H) = ps ∧ ∀ x ∈ xs, Rp K W (trD (trAt H x)) x ∧ ∃ t p, x = .ref t ∧ H t = some (.tup [.int (trAt H x).1, .ref p]) ∧ H p = some (.tup [.int (trAt H x).2.1, .int (trAt H x).2.2])
  | [], _, h => by obtain rfl : _ = [] := h; exact ⟨rfl, fun _ h => (by cases h)⟩
  | p :: ps, _, h => by
    obtain ⟨v, r, rfl, h1, h2⟩ := h
    obtain ⟨e1, e2⟩ := trs_at R h2
    have h1c := h1
    obtain ⟨t, ys, rfl, hF, a, b, e, ha, c, d, e', hb, hc⟩ := h1
    obtain rfl : a = .int p.1 := ha
    obtain rfl : d = [] := hc
    obtain ⟨t2, ys2, rfl, hF2, a2, b2, e3, ha2, c2, d2, e4, hb2, hc2⟩ := hb
    obtain rfl : a2 = .int p.2.1 := ha2
    obtain rfl : c2 = .int p.2.2 := hb2
    obtain rfl : d2 = [] := hc2
    subst e' e e4 e3
    have hH := R.le _ _ hF
    have hH2 := R.le _ _ hF2
    have hp : trAt H (.ref t) = p := by
      show (match H t with
        | some (.tup [.int i, .ref p]) => (match H p with | some (.tup [.int x, .int y]) => (i, (x, y)) | _ => (0, (0, 0)))
        | _ => (0, (0, 0))) = p
      rw [hH]
      show (match H t2 with | some (.tup [.int x, .int y]) => (p.1, (x, y)) | _ => (0, (0, 0))) = p
      rw [hH2]
    refine ⟨by rw [List.map_cons, e1, hp], fun x hx => ?_⟩
    rcases List.mem_cons.mp hx with rfl | hx
    · rw [hp]; exact ⟨h1c, t, t2, rfl, hH, hH2⟩
    · exact e2 x hx
theorem cd_sortedN (hu : X.A.units + 64 < cLine) : CallR X (.builtin "sorted") (canB X.K dSortedN) := by
  refine CallR.imp (cr_sortedN hu) ?_
  rintro vs H Qv ⟨W, P, G, σ, v, d, Q, rfl, R, n, t, r⟩
  cases d <;> first | exact False.elim t | skip
  rename_i ds
  obtain ⟨p, xs, rfl, s, q⟩ := n
  have t : (match trsOf ds with
    | some ps => ∀ qs : List Tri, qs.Perm ps → qs.Pairwise trLe → Q (.new (.lst (qs.map trD)))
    | none => False) := t
  cases e : trsOf ds with
  | none => rw [e] at t; exact t.elim
  | some ps =>
    rw [e] at t
    rw [trsOf_eq e] at q
    obtain ⟨e1, e2⟩ := trs_at R q
    refine ⟨p, xs, trAt H, rfl, .of s, fun x hx => (e2 x hx).2, fun ys l hp hs hl => ?_⟩
    have hm : ∀ y ∈ ys, y ∈ xs := fun y hy => hp.mem_iff.mp hy
    refine r.new R hl (o := .lst ys) (d := .lst ((ys.map (trAt H)).map trD)) ?_ (t _ (by rw [← e1]; exact hp.map _) (List.pairwise_map.mpr hs))
    show RpL X.K W _ ys
    rw [List.map_map]
    exact rpl_of fun y hy => (e2 y (hm y hy)).1
end

/-! ### for v in f(..).values(): a dict just made is locked for good -/
def tLockR (t : TE) : TE := fun σ H Q => t σ H fun x H1 => ∃ d u, x = .ref d ∧ H1 d = some u ∧ Mut (some u) ∧ ∀ od, Q x (upd H1 d (.frz od u))
section
variable {X : Cx} {K : PySem.W.Frag} {W : Wd} {P : Hp} {G : Gm} {σ : St} {H : Hp} {tg e : Expr} {apos cpos : Pos}
theorem pe_lockR {t : TE} (h : PE X e t) : PE X e (tLockR t) := by
  refine ⟨fun pins s σ H Q I hw => ?_⟩
  refine thn (h.run pins s σ H _ I hw) fun v s1 ⟨x, H1, I1, r, d, u, ex, hd, mu, q⟩ => ?_
  obtain ⟨od, I2⟩ := I1.lock hd mu
  exact ⟨x, _, I2, r, q od⟩
theorem Rl.frzNew (R : Rl K W P G σ H) {p : Addr} {o : HO} (pr : Priv W H P p o) (hn : ∀ i e, gg G i = some (.own e) → σ[i]? ≠ some (some (.ref p))) (x : HO) : W.le ⟨upd W.F p x, W.S⟩ ∧ Rl K ⟨upd W.F p x, W.S⟩ P G σ (upd H p x) := by
  have nb : ∀ {b v}, W.F b = some v → b ≠ p := fun {b v} q z => by subst z; rw [pr.f] at q; cases q
  have l : W.le ⟨upd W.F p x, W.S⟩ := ⟨fun b v q => by show upd W.F p x b = _; rw [upd_ne (nb q)]; exact q, fun _ h => h⟩
  refine ⟨l, R.len, fun b v q => ?_, fun a h => ?_, fun q u h => ?_, fun i d h => ?_, fun i d h => ?_, R.sep, R.pnt⟩
  · have q : upd W.F p x b = some v := q
    by_cases hb : b = p
    · subst hb; rw [upd_same] at q ⊢; exact q
    · rw [upd_ne hb] at q ⊢; exact R.le b v q
  · obtain ⟨h1, h2, x1, y, z, e1, h3⟩ := R.src a h
    have na : a ≠ p := fun z => by subst z; exact pr.s h
    refine ⟨by show upd W.F p x a = none; rw [upd_ne na]; exact h1, h2, x1, y, z, by rw [upd_ne na]; exact e1, h3⟩
  · obtain ⟨h1, h2⟩ := R.prot q u h
    have nq : q ≠ p := fun z => by subst z; rw [pr.n] at h; cases h
    exact ⟨by rw [upd_ne nq]; exact h1, by show upd W.F p x q = none; rw [upd_ne nq]; exact h2⟩
  · obtain ⟨v, h1, h2⟩ := R.dat i d h
    exact ⟨v, h1, Rp.mono l _ _ h2⟩
  · obtain ⟨q, u, h1, h2, h3⟩ := R.own i d h
    have nq : q ≠ p := fun z => by subst z; exact hn i d h h1
    exact ⟨q, u, h1, ⟨by rw [upd_ne nq]; exact h2.at_, by show upd W.F p x q = none; rw [upd_ne nq]; exact h2.f, h2.s, h2.n⟩, h3.mono l⟩
def newD (sv : SV) (k : D → Prop) : Prop := match sv with
  | .new d => k d
  | _ => False
def dValsN (te : DE) : DI := fun G Q => te G fun sv G1 => newD sv fun d => valsD d fun ds => Q ds G1
theorem di_valsN {te : DE} (he : PE X e (can X.K te)) (hbase : attributeBase e "values" X.env (eval e X.env) = eval e X.env := by rfl) (hline : (apos.endLine == cpos.line) = true := by rfl) : PI X tg (.Call (.Attribute e "values" apos) [] [] cpos) (canI X.K (dValsN te)) := by
  refine PI.imp (pi_valsE (pe_lockR he) hbase hline) ?_
  rintro σ H R0 ⟨W, P, G, Q, R, t, k⟩
  refine ⟨W, P, G, _, R, t, fun W1 sv G1 v H1 l1 R1 r1 q1 => ?_⟩
  cases sv <;> first | exact False.elim q1 | skip
  rename_i d
  obtain ⟨p, o, rfl, pr, ro, hn⟩ := r1
  cases d <;> first | exact False.elim q1 | skip
  · rename_i es
    cases o <;> first | exact False.elim ro | skip
    rename_i kvs
    refine ⟨p, _, rfl, pr.at_, trivial, fun od => ?_⟩
    obtain ⟨l2, R2⟩ := R1.frzNew pr hn (.frz od (.dT kvs))
    exact ⟨p, od, rfl, .inr ⟨kvs, upd_same, k _ _ _ _ _ (l1.trans l2) R2 (walks_valsT (es := es) upd_same (RpT.mono l2 _ _ ro)) q1⟩⟩
  · rename_i es
    cases o <;> first | exact False.elim ro | skip
    rename_i kvs
    refine ⟨p, _, rfl, pr.at_, trivial, fun od => ?_⟩
    obtain ⟨l2, R2⟩ := R1.frzNew pr hn (.frz od (.dK kvs))
    exact ⟨p, od, rfl, .inl ⟨kvs, upd_same, k _ _ _ _ _ (l1.trans l2) R2 (walks_valsK (es := es) upd_same (RpK.mono l2 _ _ ro)) q1⟩⟩
theorem x_valsN {te : DE} {G : Gm} {Q : List D → Gm → Prop} : dValsN te G Q = te G fun sv G1 => newD sv fun d => valsD d fun ds => Q ds G1 := rfl
theorem x_newd {d : D} {k : D → Prop} : newD (.new d) k = k d := rfl
end

def brW (_ : Nat) (b : Bool) (tb : DS) (E : DEnds) (N : Gm → Prop) (G : Gm) : Prop := if b = true then tb { E with nx := N, ct := N, bk := E.nx } G else E.nx G
theorem x_brw1 {n0 : Nat} {t : DS} {E : DEnds} {N : Gm → Prop} {G : Gm} : brW n0 true t E N G = t { E with nx := N, ct := N, bk := E.nx } G := by unfold brW; rw [if_pos rfl]
theorem x_brw0 {n0 : Nat} {t : DS} {E : DEnds} {N : Gm → Prop} {G : Gm} : brW n0 false t E N G = E.nx G := by unfold brW; rw [if_neg Bool.false_ne_true]
theorem x_par2 {i j : Nat} {ta tb : DE} {E : DEnds} {G : Gm} : dPar2 i j ta tb E G = ta G fun sa G1 => rest1 G1 sa fun ca G2 => tb G2 fun sb G3 => rest1 G3 sb fun cb G4 => E.nx (gset (gset G4 j (some cb)) i (some ca)) := rfl
def owM (o : Option SC) (f : List D → Prop) : Prop := match o with | some (.own (.lst ds)) => f ds | _ => False
theorem x_ownl {L : List (Option SC)} {c i : Nat} {f : List D → Prop} : ownL ⟨L, c⟩ i f = owM (ggl L i) f := rfl
theorem x_owm {ds : List D} {f : List D → Prop} : owM (some (.own (.lst ds))) f = f ds := rfl
theorem x_own {i : Nat} {r : List D → List D → (List D → D → Prop) → Prop} {t : DA} {G : Gm} {Q : SV → Gm → Prop} : dOwnL i r t G Q = (ownL G i (fun _ => True) ∧ t G fun ys G1 => ownL G1 i fun ds => r ds ys fun ds' d => Q (.dat d) (gset G1 i (some (.own (.lst ds'))))) := rfl
theorem x_app {ds : List D} {y : D} {k : List D → D → Prop} : mApp ds [y] k = (ds.length < sizeLine ∧ k (ds ++ [y]) .non) := rfl
theorem x_ext {ds es : List D} {k : List D → D → Prop} : mExt ds [.lst es] k = (ds.length + es.length ≤ sizeLine ∧ k (ds ++ es) .non) := rfl
def reM (o : Option SC) (G : Gm) (i : Nat) (f : SC → Gm → Prop) : Prop := match o with | some (.own d) => f (.dat d) (gset G i (some (.dat d))) | some (.dat d) => f (.dat d) G | none => False
theorem x_rsbo {L : List (Option SC)} {c i : Nat} {f : SC → Gm → Prop} : rest1 ⟨L, c⟩ (.bor i) f = reM (ggl L i) ⟨L, c⟩ i f := rfl
theorem x_reo {d : D} {G : Gm} {i : Nat} {f : SC → Gm → Prop} : reM (some (.own d)) G i f = f (.dat d) (gset G i (some (.dat d))) := rfl
theorem q_00 {f : Bool → Prop} : eqQ (.lst []) (.lst []) f = f true := by
  have e : eqD (.lst []) (.lst []) = true := by decide +kernel
  show (Pl 20 (.lst []) ∧ Pl 20 (.lst []) ∧ f (eqD (.lst []) (.lst []))) = _
  rw [e]; simp [Pl]
theorem sl_scr {ns : List Int} {lo hi : Option Int} {q : SV → Prop} : dSlc (.scr ns) lo hi q = q (.new (.lst (dSlc.cutV' (ns.map D.int) lo hi))) := rfl
theorem sl_t21 {a b : D} {q : SV → Prop} : dSlc (.tup [a, b]) none (some 1) q = q (.dat (.tup [a])) := by
  have e : dSlc.cutV' [a, b] none (some 1) = [a] := rfl
  show (¬ (HT.sIx 2 0 none = 0 ∧ HT.sIx 2 2 (some 1) = 2) ∧ q (.dat (.tup (dSlc.cutV' [a, b] none (some 1))))) = _
  rw [e, show HT.sIx 2 2 (some 1) = 1 from rfl]
  simp
theorem add_ll {a b : List D} {q : SV → Prop} : dAdd (.lst a) (.lst b) q = (a.length + b.length ≤ sizeLine ∧ q (.new (.lst (a ++ b)))) := rfl
theorem x_dvmF {x y : Int} {q : SV → Prop} : dDivmodF [.int x, .int y] q = ((y ≠ 0 ∧ y.natAbs.log2 < 9000) ∧ q (.dat (.tup [.int (x.fdiv y), .int (x.fmod y)]))) := by show (([] : List D) = [] ∧ _) = _; simp
theorem x_dvm {x y : Int} {q : SV → Prop} : dDivmod [.int x, .int y] q = ((0 < y ∧ y.natAbs.log2 < 9000) ∧ q (.dat (.tup [.int (x / y), .int (x % y)]))) := by show (([] : List D) = [] ∧ _) = _; simp
def auM (o : Option SC) (i : Nat) (dr : D2) (t : DE) (E : DEnds) (G : Gm) : Prop := match o with
  | some (.dat a) => t G fun sv G1 => see G1 sv fun b => flatD a = true ∧ dr a b fun r => rest1 G1 r fun c G2 => E.nx (gset G2 i (some c))
  | _ => False
theorem x_aug {i : Nat} {dr : D2} {t : DE} {E : DEnds} {L : List (Option SC)} {c : Nat} : dAug i dr t E ⟨L, c⟩ = auM (ggl L i) i dr t E ⟨L, c⟩ := rfl
theorem x_aum {i : Nat} {dr : D2} {t : DE} {E : DEnds} {G : Gm} {a : D} : auM (some (.dat a)) i dr t E G = t G fun sv G1 => see G1 sv fun b => flatD a = true ∧ dr a b fun r => rest1 G1 r fun c G2 => E.nx (gset G2 i (some c)) := rfl
def maxI (a b : Int) : Int := if b > a then b else a
def minI (a b : Int) : Int := if b < a then b else a
def absI (i : Int) : Int := if i < 0 then -i else i
theorem maxI_eq {a b : Int} : maxI a b = max a b := by unfold maxI; split <;> omega
theorem minI_eq {a b : Int} : minI a b = min a b := by unfold minI; split <;> omega
theorem absI_eq {a : Int} : absI a = max a (-a) := by unfold absI; split <;> omega
theorem y_max {x y : Int} {q : SV → Prop} : dMax2 [.int x, .int y] q = q (.dat (.int (maxI x y))) := x_max
theorem y_min {x y : Int} {q : SV → Prop} : dMin2 [.int x, .int y] q = q (.dat (.int (minI x y))) := x_min
theorem y_abs {x : Int} {q : SV → Prop} : dAbs (.int x) q = q (.dat (.int (absI x))) := rfl
theorem pickL_rev {α : Type} (xs : List α) : pickL xs none none (some (-1)) = xs.reverse := by
  unfold pickL
  have e1 : sliceBounds none none (some (-1)) xs.length = ((xs.length : Int) - 1, -1, -1) := rfl
  rw [e1]
  unfold sliceRange
  simp only
  rw [if_neg (by decide)]
  have e2 : (if ((xs.length : Int) - 1 > -1) then ((xs.length : Int) - 1 - -1 - -1 - 1) / - -1 else 0).toNat = xs.length := by
    simp only [Int.neg_neg, Int.ediv_one]
    split <;> omega
  rw [e2, List.filterMap_map]
  refine List.ext_getElem? fun i => ?_
  have e3 : ∀ m ∈ List.range xs.length, ((fun i => xs[i]?) ∘ fun k : Nat => ((xs.length : Int) - 1 + -1 * (k : Int)).toNat) m = (xs.reverse)[m]? := fun m hm => by
    have hm := List.mem_range.mp hm
    show xs[((xs.length : Int) - 1 + -1 * (m : Int)).toNat]? = _
    rw [List.getElem?_reverse hm, show ((xs.length : Int) - 1 + -1 * (m : Int)).toNat = xs.length - 1 - m by omega]
  rw [fm_congr (g := fun m => (xs.reverse)[m]?) e3]
  have e4 : ∀ (ys : List α), (List.range ys.length).filterMap (fun m => ys[m]?) = ys := fun ys => by
    induction ys with
    | nil => rfl
    | cons y ys ih =>
      rw [List.length_cons, List.range_succ_eq_map, List.filterMap_cons, List.filterMap_map]
      show y :: List.filterMap (fun m => ys[m]?) _ = _
      rw [ih]
  rw [← List.length_reverse, e4]
theorem x_sl3 {a : DE} {lo hi st : DO} {G : Gm} {Q : SV → Gm → Prop} : dSl3 a lo hi st G Q = a G fun sa G1 => lo G1 fun lo G2 => hi G2 fun hi G3 => st G3 fun st G4 => see G4 sa fun x => dSlc3 x lo hi st fun r => Q r G4 := rfl
theorem sl3_r {ds : List D} {q : SV → Prop} : dSlc3 (.lst ds) none none (some (-1)) q = q (.new (.lst ds.reverse)) := by
  show (_ ≠ _ ∧ _) = _
  rw [pickL_rev]; simp
theorem sl3_t {ds : List D} {q : SV → Prop} : dSlc3 (.tup ds) none none (some (-1)) q = q (.dat (.tup ds.reverse)) := by
  show (_ ∧ _ ∧ _ ∧ _) = _
  simp
theorem sl_lst {ds : List D} {lo hi : Option Int} {q : SV → Prop} : dSlc (.lst ds) lo hi q = q (.new (.lst (dSlc.cutV' ds lo hi))) := rfl
theorem x_lrg {t : DE} {G : Gm} {Q : SV → Gm → Prop} : dLRg1 t G Q = t G fun sv G1 => isI sv fun j => (0 ≤ j ∧ j ≤ 16777216) ∧ Q (.new (.lst (rangeD 0 j.toNat))) G1 := rfl
theorem x_isI {x : Int} {f : Int → Prop} : isI (.dat (.int x)) f = f x := rfl
theorem x_pops {ds ys : List D} {d : D} {k : List D → D → Prop} : mPop (ds ++ [d]) ys k = k ds d := by unfold mPop; rw [List.getLast?_concat, List.dropLast_concat]
theorem x_dspS {tk tv : DE} {G : Gm} {Q : SV → Gm → Prop} : dDspS tk tv G Q = tk G fun sk G1 => frz G1 sk fun b G2 => tv G2 fun sv G3 => frz G3 sv fun dv G4 => match b with | .str x => Q (.new (.dK [(.inr x, dv)])) G4 | _ => False := rfl
theorem x_dsp1 {tk tv : DE} {G : Gm} {Q : SV → Gm → Prop} : dDsp1 tk tv G Q = tk G fun sk G1 => frz G1 sk fun b G2 => tv G2 fun sv G3 => frz G3 sv fun dv G4 => keyT b fun ks => Q (.new (.dT [(ks, dv)])) G4 := rfl
def isOwM (o : Option SC) : Prop := match o with | some (.own _) => True | _ => False
def puM (o : Option SC) (b dv : D) (k : D → Prop) : Prop := match o with
  | some (.own (.dT es)) => keyT b fun ks => es.length < sizeLine ∧ k (.dT (putD es ks dv))
  | some (.own (.dK es)) => (match keyOf b with | some kk => es.length < sizeLine ∧ k (.dK (putD es kk dv)) | none => False)
  | _ => False
theorem x_put {i : Nat} {tv tk : DE} {E : DEnds} {G : Gm} : dPut i tv tk E G = tv G fun sv G1 => frz G1 sv fun dv G2 => isOwn G2 i ∧ tk G2 fun sk G3 => frz G3 sk fun b G4 => putO G4 i b dv fun d' => E.nx (gset G4 i (some (.own d'))) := rfl
theorem x_isown {L : List (Option SC)} {c i : Nat} : isOwn ⟨L, c⟩ i = isOwM (ggl L i) := rfl
theorem x_isowm {d : D} : isOwM (some (.own d)) = True := rfl
theorem x_puto {L : List (Option SC)} {c i : Nat} {b dv : D} {k : D → Prop} : putO ⟨L, c⟩ i b dv k = puM (ggl L i) b dv k := by
  show putO _ _ _ _ _ = _
  unfold putO puM
  rw [show gg (⟨L, c⟩ : Gm) i = ggl L i from rfl]
  generalize ggl L i = o
  cases o with
  | none => rfl
  | some s => cases s with
    | dat d => rfl
    | own d => cases d <;> first | rfl | (cases b <;> rfl)
theorem x_puT {es : List (List Key × D)} {b dv : D} {k : D → Prop} : puM (some (.own (.dT es))) b dv k = keyT b fun ks => es.length < sizeLine ∧ k (.dT (putD es ks dv)) := rfl
theorem x_puKi {es : List (Key × D)} {x : Int} {dv : D} {k : D → Prop} : puM (some (.own (.dK es))) (.int x) dv k = (es.length < sizeLine ∧ k (.dK (putD es (.inl x) dv))) := rfl
theorem kT_ii {a b : Int} {k : List Key → Prop} : keyT (.tup [.int a, .int b]) k = k [.inl a, .inl b] := rfl
theorem x_lendT {es : List (List Key × D)} {q : SV → Prop} : dLen (.dT es) q = q (.dat (.int es.length)) := rfl
theorem x_lendK {es : List (Key × D)} {q : SV → Prop} : dLen (.dK es) q = q (.dat (.int es.length)) := rfl
theorem in_dT {a b : Int} {es : List (List Key × D)} {q : SV → Prop} : dIn (.tup [.int a, .int b]) (.dT es) q = q (.dat (.bl (valD es [.inl a, .inl b]).isSome)) := rfl
theorem nin_dT {a b : Int} {es : List (List Key × D)} {q : SV → Prop} : dNotIn (.tup [.int a, .int b]) (.dT es) q = q (.dat (.bl (!(valD es [.inl a, .inl b]).isSome))) := rfl
theorem x_dkeys {i : Nat} {G : Gm} {Q : List D → Gm → Prop} : dKeys i G Q = frz G (.bor i) fun d G1 => keysD d fun ds => Q ds G1 := rfl
theorem x_kdT {es : List (List Key × D)} {k : List D → Prop} : keysD (.dT es) k = k (keysT es) := rfl
theorem x_kdK {es : List (Key × D)} {k : List D → Prop} : keysD (.dK es) k = k (keysK es) := rfl
theorem x_star {t : DE} {u : DA} {G : Gm} {Q : List D → Gm → Prop} : dStar t u G Q = t G fun s G1 => frz G1 s fun d G2 => itemsD d fun xs => u G2 fun ds G3 => Q (xs ++ ds) G3 := rfl
theorem x_itl {ds : List D} {k : List D → Prop} : itemsD (.lst ds) k = k ds := rfl
theorem x_itt {ds : List D} {k : List D → Prop} : itemsD (.tup ds) k = k ds := rfl
theorem x_its {ns : List Int} {k : List D → Prop} : itemsD (.scr ns) k = k (ns.map D.int) := rfl
theorem x_getn {i : Nat} {tk tx : DE} {G : Gm} {Q : SV → Gm → Prop} : dGetN i tk tx G Q = (isDic (gg G i) ∧ tk G fun sk G1 => frz G1 sk fun b G2 => tx G2 fun sx G3 => frz G3 sx fun z G4 => dicM (gg G4 i) b fun od => Q (.dat (od.getD z)) G4) := rfl
theorem x_getn1 {i : Nat} {tk : DE} {G : Gm} {Q : SV → Gm → Prop} : dGetN1 i tk G Q = (isDic (gg G i) ∧ tk G fun sk G1 => frz G1 sk fun b G2 => dicM (gg G2 i) b fun od => Q (.dat (od.getD .non)) G2) := rfl
theorem x_putl {i : Nat} {tv tk : DE} {E : DEnds} {G : Gm} : dPutL i tv tk E G = tv G fun sv G1 => frz G1 sv fun dv G2 => isOwn G2 i ∧ tk G2 fun sk G3 => frz G3 sk fun b G4 => intM b fun j => putL (gg G4 i) j dv fun d' => E.nx (gset G4 i (some (.own d'))) := rfl
theorem x_intm {j : Int} {k : Int → Prop} : intM (.int j) k = k j := rfl
theorem x_idT {es : List (List Key × D)} : isDic (some (.own (.dT es))) = True := by unfold isDic isD; simp
theorem x_idK {es : List (Key × D)} : isDic (some (.own (.dK es))) = True := by unfold isDic isD; simp
theorem x_idTd {es : List (List Key × D)} : isDic (some (.dat (.dT es))) = True := by unfold isDic isD; simp
theorem x_idKd {es : List (Key × D)} : isDic (some (.dat (.dK es))) = True := by unfold isDic isD; simp
theorem x_dico {b d : D} {k : Option D → Prop} : dicM (some (.own d)) b k = dAt b d k := rfl
theorem x_dicd {b d : D} {k : Option D → Prop} : dicM (some (.dat d)) b k = dAt b d k := rfl
theorem x_putlo {ds : List D} {j : Int} {dv : D} {k : D → Prop} : putL (some (.own (.lst ds))) j dv k = ((0 ≤ j ∧ j < ds.length) ∧ k (.lst (ds.set j.toNat dv))) := rfl
theorem x_dA2 {a b : Int} {es : List (List Key × D)} {k : Option D → Prop} : dAt (.tup [.int a, .int b]) (.dT es) k = k (valD es [.inl a, .inl b]) := rfl
theorem x_dAi {a : Int} {es : List (Key × D)} {k : Option D → Prop} : dAt (.int a) (.dK es) k = k (valD es (.inl a)) := rfl
theorem x_dAs {a : Str} {es : List (Key × D)} {k : Option D → Prop} : dAt (.str a) (.dK es) k = k (valD es (.inr a)) := rfl
theorem x_par3 {i j l : Nat} {ta tb tc : DE} {E : DEnds} {G : Gm} : dPar3 i j l ta tb tc E G = ta G fun sa G1 => rest1 G1 sa fun ca G2 => tb G2 fun sb G3 => rest1 G3 sb fun cb G4 => tc G4 fun sc G5 => rest1 G5 sc fun cc G6 => E.nx (gset (gset (gset G6 l (some cc)) j (some cb)) i (some ca)) := rfl
theorem x_sortSet {ta : DE} {G : Gm} {Q : SV → Gm → Prop} : dSortSet ta G Q = ta G fun sv G1 => frz G1 sv fun d G2 => sortSetK d fun qs => Q (.new (.lst (qs.map prD))) G2 := rfl
theorem x_maxD {es : List (Key × D)} {q : SV → Prop} : dMaxD (.dK es) q = (match keysI es with | some ns => ns ≠ [] ∧ ∀ m, m ∈ ns → (∀ j ∈ ns, j ≤ m) → q (.dat (.int m)) | none => False) := rfl
theorem x_minD {es : List (Key × D)} {q : SV → Prop} : dMinD (.dK es) q = (match keysI es with | some ns => ns ≠ [] ∧ ∀ m, m ∈ ns → (∀ j ∈ ns, m ≤ j) → q (.dat (.int m)) | none => False) := rfl
theorem x_callKB {n : Nat} {S : DSp} {gD : List D → List D → List D} {u : DAT} {G : Gm} {Q : SV → Gm → Prop} : dCallKB n S gD u G Q = u G fun ss G1 => ss.length = n ∧ seeAll G1 ss fun ds => S G1.c (gD [] ds) fun r j => flatS r = true ∧ Q r (G1.at j) := rfl
theorem x_callB {n : Nat} {S : DSp} {gD : List D → List D → List D} {u : DAT} {G : Gm} {Q : SV → Gm → Prop} : dCallB n S gD u G Q = u G fun ss G1 => ss.length = n ∧ seeAll G1 ss fun ds => S G1.c (gD ds []) fun r j => flatS r = true ∧ Q r (G1.at j) := rfl
theorem x_flb {b : Bool} : flatS (.dat (.bl b)) = true := rfl
theorem x_fli {b : Int} : flatS (.dat (.int b)) = true := rfl
theorem x_fls {b : Str} : flatS (.dat (.str b)) = true := rfl
theorem x_fln : flatS (.dat .non) = true := rfl
theorem x_flt {ds : List D} : flatS (.dat (.tup ds)) = ds.all flatD := rfl
theorem x_ftn : ([] : List D).all flatD = true := rfl
theorem x_ftc {i : Int} {r : List D} : (D.int i :: r).all flatD = r.all flatD := rfl
theorem x_reprl {u : DAT} {G : Gm} {Q : SV → Gm → Prop} : dReprL u G Q = u G fun ss G1 => ss.length ≤ sizeLine ∧ seeAll G1 ss fun ds => dRepr (.lst ds) fun r => Q r G1 := rfl
theorem x_nilT {G : Gm} {Q : List SV → Gm → Prop} : dNilT G Q = Q [] G := rfl
theorem x_consT {t : DE} {u : DAT} {G : Gm} {Q : List SV → Gm → Prop} : dConsT t u G Q = t G fun s G1 => u G1 fun ss G2 => Q (keepS s :: ss) G2 := rfl
theorem x_kpn {d : D} : keepS (.new d) = .dat d := rfl
theorem x_kpd {d : D} : keepS (.dat d) = .dat d := rfl
theorem x_kpb {i : Nat} : keepS (.bor i) = .bor i := rfl
theorem x_sa0 {G : Gm} {k : List D → Prop} : seeAll G [] k = k [] := rfl
theorem x_sac {G : Gm} {s : SV} {ss : List SV} {k : List D → Prop} : seeAll G (s :: ss) k = see G s fun d => seeAll G ss fun ds => k (d :: ds) := rfl
theorem x_dnk {G : Gm} {Q : SV → Gm → Prop} : dDnK G Q = Q (.new (.dK [])) G := rfl
theorem x_dnt {G : Gm} {Q : SV → Gm → Prop} : dDnT G Q = Q (.new (.dT [])) G := rfl
theorem x_isik {U : String} {x : List (Key × D)} {q : SV → Prop} (h : U ∈ kits := by decide) : dIsi [.dK x, .ty U] q = q (.dat (.bl (isT "dict" U))) := by show (([] : List D) = [] ∧ U ∈ kits ∧ _) = _; simp [h, clsD]
theorem k_dict : ("dict" : String) ∈ kits := by decide
theorem T_nb : isT "NoneType" "bool" = false := by decide
theorem T_ns : isT "NoneType" "str" = false := by decide
theorem T_nl : isT "NoneType" "list" = false := by decide
theorem T_nd : isT "NoneType" "dict" = false := by decide
theorem T_bs : isT "bool" "str" = false := by decide
theorem T_bt : isT "bool" "tuple" = false := by decide
theorem T_bl : isT "bool" "list" = false := by decide
theorem T_bd : isT "bool" "dict" = false := by decide
theorem T_is : isT "int" "str" = false := by decide
theorem T_id : isT "int" "dict" = false := by decide
theorem T_sb : isT "str" "bool" = false := by decide
theorem T_sl : isT "str" "list" = false := by decide
theorem T_sd : isT "str" "dict" = false := by decide
theorem T_tb : isT "tuple" "bool" = false := by decide
theorem T_ts : isT "tuple" "str" = false := by decide
theorem T_td : isT "tuple" "dict" = false := by decide
theorem T_lb : isT "list" "bool" = false := by decide
theorem T_ls : isT "list" "str" = false := by decide
theorem T_ld : isT "list" "dict" = false := by decide
theorem T_di : isT "dict" "int" = false := by decide
theorem T_db : isT "dict" "bool" = false := by decide
theorem T_ds : isT "dict" "str" = false := by decide
theorem T_dt : isT "dict" "tuple" = false := by decide
theorem T_dl : isT "dict" "list" = false := by decide
theorem T_dd : isT "dict" "dict" = true := by decide
theorem x_ltu {ds : List D} {q : SV → Prop} : dList (.tup ds) q = q (.new (.lst ds)) := rfl
theorem x_lls {ds : List D} {q : SV → Prop} : dList (.lst ds) q = q (.new (.lst ds)) := rfl
theorem add_tt {x y : D} {a b : List D} {q : SV → Prop} : dAdd (.tup (x :: a)) (.tup (y :: b)) q = ((x :: a).length + (y :: b).length ≤ sizeLine ∧ q (.dat (.tup ((x :: a) ++ (y :: b))))) := by show (_ ≠ _ ∧ _ ≠ _ ∧ _) = _; simp
theorem sel_n {α : Type} {l : List α} : sel [] l = [] := rfl
theorem sel_c {α : Type} {i : Nat} {p : List Nat} {x : α} {l : List α} : sel (i :: p) (x :: l) = ((x :: l)[i]?).toList ++ sel p (x :: l) := by
  unfold sel; rw [List.filterMap_cons]; cases (x :: l)[i]? <;> rfl
theorem o_tl {α : Type} {x : α} : (some x).toList = [x] := rfl
/-- the rules, tried ahead of what is within -/
theorem XP : (type_of% @x_seq) ∧ (type_of% @x_next) ∧ (type_of% @x_brk) ∧ (type_of% @x_cnt) ∧ (type_of% @x_drop) ∧ (type_of% @x_ret) ∧ (type_of% @x_retN) ∧ (type_of% @x_never) ∧ (type_of% @x_rtd) ∧ (type_of% @x_rtn) ∧ (type_of% @x_brs1) ∧ (type_of% @x_brs0) ∧ (type_of% @x_asg) ∧ (type_of% @x_rsd) ∧ (type_of% @x_rsn) ∧ (type_of% @x_tgt) ∧ (type_of% @x_unl) ∧ (type_of% @x_gnil) ∧ (type_of% @x_gcons) ∧ (type_of% @x_par) ∧ (type_of% @x_park) ∧ (type_of% @x_for) ∧ (type_of% @x_c) ∧ (type_of% @x_bin) ∧ (type_of% @x_un) ∧ (type_of% @x_bn) ∧ (type_of% @x_seed) ∧ (type_of% @x_seen) ∧ (type_of% @x_frd) ∧ (type_of% @x_frn) ∧ (type_of% @x_tst) ∧ (type_of% @x_isb) ∧ (type_of% @x_nott) ∧ (type_of% @x_andt) ∧ (type_of% @x_ort) ∧ (type_of% @x_brt1) ∧ (type_of% @x_brt0) ∧ (type_of% @x_bro1) ∧ (type_of% @x_bro0) ∧ (type_of% @x_andv) ∧ (type_of% @x_orv) ∧ (type_of% @x_bra1) ∧ (type_of% @x_bra0) ∧ (type_of% @x_brr1) ∧ (type_of% @x_brr0) ∧ (type_of% @x_notv) ∧ (type_of% @x_if) ∧ (type_of% @x_bre1) ∧ (type_of% @x_bre0) ∧ (type_of% @x_chn) ∧ (type_of% @x_nil) ∧ (type_of% @x_cons) ∧ (type_of% @x_tup) ∧ (type_of% @x_lst) ∧ (type_of% @x_call) ∧ (type_of% @x_ck) ∧ (type_of% @x_wlk) ∧ (type_of% @x_asll) ∧ (type_of% @x_aslt) ∧ (type_of% @x_sle) ∧ (type_of% @x_nop) ∧ (type_of% @x_prt) ∧ (type_of% @x_lc) ∧ (type_of% @x_add) ∧ (type_of% @x_addb) ∧ (type_of% @x_sub) ∧ (type_of% @x_mul) ∧ (type_of% @x_fdv) ∧ (type_of% @x_mod) ∧ (type_of% @x_pow) ∧ (type_of% @x_neg) ∧ (type_of% @x_cmp) ∧ (type_of% @x_iadd) ∧ (type_of% @x_int) ∧ (type_of% @x_intb) ∧ (type_of% @L_t1) ∧ (type_of% @L_t2) ∧ (type_of% @L_t3) ∧ (type_of% @L_l0) ∧ (type_of% @L_l1) ∧ (type_of% @L_l2) ∧ (type_of% @L_l3) ∧ (type_of% @x_ixt) ∧ (type_of% @x_ixl) ∧ (type_of% @x_atq) ∧ (type_of% @x_eq) ∧ (type_of% @x_ne) ∧ (type_of% @x_eqi) ∧ (type_of% @x_eqs) ∧ (type_of% @x_isn) ∧ (type_of% @x_isnn) ∧ (type_of% @x_isii) ∧ (type_of% @x_isib) ∧ (type_of% @x_isin) ∧ (type_of% @x_isis) ∧ (type_of% @x_isit) ∧ (type_of% @x_isil) ∧ (type_of% @q_pp) ∧ (type_of% @b_all2) ∧ (type_of% @b_all3) ∧ (type_of% @x_dert) ∧ (type_of% @x_denx) ∧ (type_of% @x_brl1) ∧ (type_of% @x_brl0) ∧ (type_of% @x_lcn) ∧ (type_of% @x_lcc) ∧ (type_of% @x_yes) ∧ (type_of% @x_brk1) ∧ (type_of% @x_brk0) ∧ (type_of% @x_lct) ∧ (type_of% @x_fon) ∧ (type_of% @v0) ∧ (type_of% @w0) ∧ (type_of% @n0) ∧ (type_of% @m0) ∧ (type_of% @sb0) ∧ (type_of% @fb0) ∧ (type_of% @rb0) ∧ (type_of% @v1) ∧ (type_of% @w1) ∧ (type_of% @n1) ∧ (type_of% @m1) ∧ (type_of% @sb1) ∧ (type_of% @fb1) ∧ (type_of% @rb1) ∧ (type_of% @v2) ∧ (type_of% @w2) ∧ (type_of% @n2) ∧ (type_of% @m2) ∧ (type_of% @sb2) ∧ (type_of% @fb2) ∧ (type_of% @rb2) ∧ (type_of% @v3) ∧ (type_of% @w3) ∧ (type_of% @n3) ∧ (type_of% @m3) ∧ (type_of% @sb3) ∧ (type_of% @fb3) ∧ (type_of% @rb3) ∧ (type_of% @v4) ∧ (type_of% @w4) ∧ (type_of% @n4) ∧ (type_of% @m4) ∧ (type_of% @sb4) ∧ (type_of% @fb4) ∧ (type_of% @rb4) ∧ (type_of% @v5) ∧ (type_of% @w5) ∧ (type_of% @n5) ∧ (type_of% @m5) ∧ (type_of% @sb5) ∧ (type_of% @fb5) ∧ (type_of% @rb5) ∧ (type_of% @v6) ∧ (type_of% @w6) ∧ (type_of% @n6) ∧ (type_of% @m6) ∧ (type_of% @sb6) ∧ (type_of% @fb6) ∧ (type_of% @rb6) ∧ (type_of% @v7) ∧ (type_of% @w7) ∧ (type_of% @n7) ∧ (type_of% @m7) ∧ (type_of% @sb7) ∧ (type_of% @fb7) ∧ (type_of% @rb7) ∧ (type_of% @v8) ∧ (type_of% @w8) ∧ (type_of% @n8) ∧ (type_of% @m8) ∧ (type_of% @sb8) ∧ (type_of% @fb8) ∧ (type_of% @rb8) ∧ (type_of% @v9) ∧ (type_of% @w9) ∧ (type_of% @n9) ∧ (type_of% @m9) ∧ (type_of% @sb9) ∧ (type_of% @fb9) ∧ (type_of% @rb9) ∧ (type_of% @v10) ∧ (type_of% @w10) ∧ (type_of% @n10) ∧ (type_of% @m10) ∧ (type_of% @sb10) ∧ (type_of% @fb10) ∧ (type_of% @rb10) ∧ (type_of% @v11) ∧ (type_of% @w11) ∧ (type_of% @n11) ∧ (type_of% @m11) ∧ (type_of% @sb11) ∧ (type_of% @fb11) ∧ (type_of% @rb11) ∧ (type_of% @v12) ∧ (type_of% @w12) ∧ (type_of% @n12) ∧ (type_of% @m12) ∧ (type_of% @sb12) ∧ (type_of% @fb12) ∧ (type_of% @rb12) ∧ (type_of% @v13) ∧ (type_of% @w13) ∧ (type_of% @n13) ∧ (type_of% @m13) ∧ (type_of% @sb13) ∧ (type_of% @fb13) ∧ (type_of% @rb13) ∧ (type_of% @v14) ∧ (type_of% @w14) ∧ (type_of% @n14) ∧ (type_of% @m14) ∧ (type_of% @sb14) ∧ (type_of% @fb14) ∧ (type_of% @rb14) ∧ (type_of% @v15) ∧ (type_of% @w15) ∧ (type_of% @n15) ∧ (type_of% @m15) ∧ (type_of% @sb15) ∧ (type_of% @fb15) ∧ (type_of% @rb15) ∧ (type_of% @v16) ∧ (type_of% @w16) ∧ (type_of% @n16) ∧ (type_of% @m16) ∧ (type_of% @sb16) ∧ (type_of% @fb16) ∧ (type_of% @rb16) ∧ (type_of% @v17) ∧ (type_of% @w17) ∧ (type_of% @n17) ∧ (type_of% @m17) ∧ (type_of% @sb17) ∧ (type_of% @fb17) ∧ (type_of% @rb17) ∧ (type_of% @v18) ∧ (type_of% @w18) ∧ (type_of% @n18) ∧ (type_of% @m18) ∧ (type_of% @sb18) ∧ (type_of% @fb18) ∧ (type_of% @rb18) ∧ (type_of% @v19) ∧ (type_of% @w19) ∧ (type_of% @n19) ∧ (type_of% @m19) ∧ (type_of% @sb19) ∧ (type_of% @fb19) ∧ (type_of% @rb19) ∧ (type_of% @v20) ∧ (type_of% @w20) ∧ (type_of% @n20) ∧ (type_of% @m20) ∧ (type_of% @sb20) ∧ (type_of% @fb20) ∧ (type_of% @rb20) ∧ (type_of% @v21) ∧ (type_of% @w21) ∧ (type_of% @n21) ∧ (type_of% @m21) ∧ (type_of% @sb21) ∧ (type_of% @fb21) ∧ (type_of% @rb21) ∧ (type_of% @v22) ∧ (type_of% @w22) ∧ (type_of% @n22) ∧ (type_of% @m22) ∧ (type_of% @sb22) ∧ (type_of% @fb22) ∧ (type_of% @rb22) ∧ (type_of% @v23) ∧ (type_of% @w23) ∧ (type_of% @n23) ∧ (type_of% @m23) ∧ (type_of% @sb23) ∧ (type_of% @fb23) ∧ (type_of% @rb23) ∧ (type_of% @v24) ∧ (type_of% @w24) ∧ (type_of% @n24) ∧ (type_of% @m24) ∧ (type_of% @sb24) ∧ (type_of% @fb24) ∧ (type_of% @rb24) ∧ (type_of% @v25) ∧ (type_of% @w25) ∧ (type_of% @n25) ∧ (type_of% @m25) ∧ (type_of% @sb25) ∧ (type_of% @fb25) ∧ (type_of% @rb25) ∧ (type_of% @s_0) ∧ (type_of% @s_1) ∧ (type_of% @s_2) ∧ (type_of% @s_s) ∧ (type_of% @s_w0) ∧ (type_of% @s_w2) ∧ (type_of% @s_e) ∧ (type_of% @x_rng1) ∧ (type_of% @x_rng2) ∧ (type_of% @x_enu) ∧ (type_of% @x_aslsl) ∧ (type_of% @x_r1) ∧ (type_of% @x_r2) ∧ (type_of% @x_e1) ∧ (type_of% @y_max) ∧ (type_of% @y_min) ∧ (type_of% @y_abs) ∧ (type_of% @x_lenl) ∧ (type_of% @x_lent) ∧ (type_of% @x_lendT) ∧ (type_of% @x_lendK) ∧ (type_of% @x_brw1) ∧ (type_of% @x_brw0) ∧ (type_of% @x_par2) ∧ (type_of% @x_ownl) ∧ (type_of% @x_own) ∧ (type_of% @x_ltu) ∧ (type_of% @x_lls) ∧ (type_of% @add_tt) ∧ (type_of% @x_isik) ∧ (type_of% @x_dnk) ∧ (type_of% @x_dspS) ∧ (type_of% @x_dnt) ∧ (type_of% @x_sl3) ∧ (type_of% @sl3_r) ∧ (type_of% @sl3_t) ∧ (type_of% @sl_lst) ∧ (type_of% @x_lrg) ∧ (type_of% @x_isI) ∧ (type_of% @x_aug) ∧ (type_of% @x_dvm) ∧ (type_of% @x_dvmF) ∧ (type_of% @sl_scr) ∧ (type_of% @add_ll) ∧ (type_of% @q_00) ∧ (type_of% @x_app) ∧ (type_of% @x_ext) ∧ (type_of% @x_rsbo) ∧ (type_of% @sl_t21) ∧ (type_of% @x_isbb) ∧ (type_of% @x_isnbb) ∧ (type_of% @x_dsp1) ∧ (type_of% @x_put) ∧ (type_of% @x_isown) ∧ (type_of% @x_puto) ∧ (type_of% @kT_ii) ∧ (type_of% @in_dT) ∧ (type_of% @nin_dT) ∧ (type_of% @x_pops) ∧ (type_of% @x_dkeys) ∧ (type_of% @x_kdT) ∧ (type_of% @x_kdK) ∧ (type_of% @x_star) ∧ (type_of% @x_itl) ∧ (type_of% @x_itt) ∧ (type_of% @x_its) ∧ (type_of% @x_getn) ∧ (type_of% @x_getn1) ∧ (type_of% @x_putl) ∧ (type_of% @x_intm) ∧ (type_of% @x_dA2) ∧ (type_of% @x_dAi) ∧ (type_of% @x_dAs) ∧ (type_of% @x_reprl) ∧ (type_of% @x_nilT) ∧ (type_of% @x_consT) ∧ (type_of% @x_kpn) ∧ (type_of% @x_kpd) ∧ (type_of% @x_kpb) ∧ (type_of% @x_sa0) ∧ (type_of% @x_sac) ∧ (type_of% @x_par3) ∧ (type_of% @x_callB) ∧ (type_of% @x_callKB) ∧ (type_of% @x_sortSet) ∧ (type_of% @x_flb) ∧ (type_of% @x_fli) ∧ (type_of% @x_fln) ∧ (type_of% @x_fls) ∧ (type_of% @x_flt) ∧ (type_of% @x_ftn) ∧ (type_of% @x_ftc) ∧ (type_of% @x_valsN) ∧ (type_of% @x_newd) ∧ (type_of% @x_rngW2) ∧ (type_of% @x_rW2) ∧ (type_of% @x_keysA) ∧ (type_of% @x_kAd) ∧ (type_of% @x_kAl) ∧ (type_of% @x_lrg2) ∧ (type_of% @x_lc2) ∧ (type_of% @x_count) ∧ (type_of% @x_dspN) ∧ (type_of% @x_strm) ∧ (type_of% @x_prs0) ∧ (type_of% @x_prs1) ∧ (type_of% @strK_n) ∧ (type_of% @strK_c) ∧ (type_of% @x_fld) ∧ (type_of% @x_insm) ∧ (type_of% @x_setf) ∧ (type_of% @x_owni) ∧ (type_of% @x_dgfld) ∧ (type_of% @x_meth) ∧ (type_of% @x_make) ∧ (type_of% @x_methl) ∧ (type_of% @x_getE) ∧ (type_of% @x_index) ∧ (type_of% @x_lstm) ∧ (type_of% @x_augl) ∧ (type_of% @x_getl) ∧ (type_of% @x_getlm) ∧ (type_of% @x_dgputl) ∧ (type_of% @x_vals) ∧ (type_of% @x_vdT) ∧ (type_of% @x_vdK) ∧ (type_of% @x_zip) ∧ (type_of% @x_zipk) ∧ (type_of% @x_lend) ∧ (type_of% @x_lendG) ∧ (type_of% @x_owlst) ∧ (type_of% @x_lel0) ∧ (type_of% @x_lel1) ∧ (type_of% @x_fnn) ∧ (type_of% @x_fnt) := ⟨@x_seq, ⟨@x_next, ⟨@x_brk, ⟨@x_cnt, ⟨@x_drop, ⟨@x_ret, ⟨@x_retN, ⟨@x_never, ⟨@x_rtd, ⟨@x_rtn, ⟨@x_brs1, ⟨@x_brs0, ⟨@x_asg, ⟨@x_rsd, ⟨@x_rsn, ⟨@x_tgt, ⟨@x_unl, ⟨@x_gnil, ⟨@x_gcons, ⟨@x_par, ⟨@x_park, ⟨@x_for, ⟨@x_c, ⟨@x_bin, ⟨@x_un, ⟨@x_bn, ⟨@x_seed, ⟨@x_seen, ⟨@x_frd, ⟨@x_frn, ⟨@x_tst, ⟨@x_isb, ⟨@x_nott, ⟨@x_andt, ⟨@x_ort, ⟨@x_brt1, ⟨@x_brt0, ⟨@x_bro1, ⟨@x_bro0, ⟨@x_andv, ⟨@x_orv, ⟨@x_bra1, ⟨@x_bra0, ⟨@x_brr1, ⟨@x_brr0, ⟨@x_notv, ⟨@x_if, ⟨@x_bre1, ⟨@x_bre0, ⟨@x_chn, ⟨@x_nil, ⟨@x_cons, ⟨@x_tup, ⟨@x_lst, ⟨@x_call, ⟨@x_ck, ⟨@x_wlk, ⟨@x_asll, ⟨@x_aslt, ⟨@x_sle, ⟨@x_nop, ⟨@x_prt, ⟨@x_lc, ⟨@x_add, ⟨@x_addb, ⟨@x_sub, ⟨@x_mul, ⟨@x_fdv, ⟨@x_mod, ⟨@x_pow, ⟨@x_neg, ⟨@x_cmp, ⟨@x_iadd, ⟨@x_int, ⟨@x_intb, ⟨@L_t1, ⟨@L_t2, ⟨@L_t3, ⟨@L_l0, ⟨@L_l1, ⟨@L_l2, ⟨@L_l3, ⟨@x_ixt, ⟨@x_ixl, ⟨@x_atq, ⟨@x_eq, ⟨@x_ne, ⟨@x_eqi, ⟨@x_eqs, ⟨@x_isn, ⟨@x_isnn, ⟨@x_isii, ⟨@x_isib, ⟨@x_isin, ⟨@x_isis, ⟨@x_isit, ⟨@x_isil, ⟨@q_pp, ⟨@b_all2, ⟨@b_all3, ⟨@x_dert, ⟨@x_denx, ⟨@x_brl1, ⟨@x_brl0, ⟨@x_lcn, ⟨@x_lcc, ⟨@x_yes, ⟨@x_brk1, ⟨@x_brk0, ⟨@x_lct, ⟨@x_fon, ⟨@v0, ⟨@w0, ⟨@n0, ⟨@m0, ⟨@sb0, ⟨@fb0, ⟨@rb0, ⟨@v1, ⟨@w1, ⟨@n1, ⟨@m1, ⟨@sb1, ⟨@fb1, ⟨@rb1, ⟨@v2, ⟨@w2, ⟨@n2, ⟨@m2, ⟨@sb2, ⟨@fb2, ⟨@rb2, ⟨@v3, ⟨@w3, ⟨@n3, ⟨@m3, ⟨@sb3, ⟨@fb3, ⟨@rb3, ⟨@v4, ⟨@w4, ⟨@n4, ⟨@m4, ⟨@sb4, ⟨@fb4, ⟨@rb4, ⟨@v5, ⟨@w5, ⟨@n5, ⟨@m5, ⟨@sb5, ⟨@fb5, ⟨@rb5, ⟨@v6, ⟨@w6, ⟨@n6, ⟨@m6, ⟨@sb6, ⟨@fb6, ⟨@rb6, ⟨@v7, ⟨@w7, ⟨@n7, ⟨@m7, ⟨@sb7, ⟨@fb7, ⟨@rb7, ⟨@v8, ⟨@w8, ⟨@n8, ⟨@m8, ⟨@sb8, ⟨@fb8, ⟨@rb8, ⟨@v9, ⟨@w9, ⟨@n9, ⟨@m9, ⟨@sb9, ⟨@fb9, ⟨@rb9, ⟨@v10, ⟨@w10, ⟨@n10, ⟨@m10, ⟨@sb10, ⟨@fb10, ⟨@rb10, ⟨@v11, ⟨@w11, ⟨@n11, ⟨@m11, ⟨@sb11, ⟨@fb11, ⟨@rb11, ⟨@v12, ⟨@w12, ⟨@n12, ⟨@m12, ⟨@sb12, ⟨@fb12, ⟨@rb12, ⟨@v13, ⟨@w13, ⟨@n13, ⟨@m13, ⟨@sb13, ⟨@fb13, ⟨@rb13, ⟨@v14, ⟨@w14, ⟨@n14, ⟨@m14, ⟨@sb14, ⟨@fb14, ⟨@rb14, ⟨@v15, ⟨@w15, ⟨@n15, ⟨@m15, ⟨@sb15, ⟨@fb15, ⟨@rb15, ⟨@v16, ⟨@w16, ⟨@n16, ⟨@m16, ⟨@sb16, ⟨@fb16, ⟨@rb16, ⟨@v17, ⟨@w17, ⟨@n17, ⟨@m17, ⟨@sb17, ⟨@fb17, ⟨@rb17, ⟨@v18, ⟨@w18, ⟨@n18, ⟨@m18, ⟨@sb18, ⟨@fb18, ⟨@rb18, ⟨@v19, ⟨@w19, ⟨@n19, ⟨@m19, ⟨@sb19, ⟨@fb19, ⟨@rb19, ⟨@v20, ⟨@w20, ⟨@n20, ⟨@m20, ⟨@sb20, ⟨@fb20, ⟨@rb20, ⟨@v21, ⟨@w21, ⟨@n21, ⟨@m21, ⟨@sb21, ⟨@fb21, ⟨@rb21, ⟨@v22, ⟨@w22, ⟨@n22, ⟨@m22, ⟨@sb22, ⟨@fb22, ⟨@rb22, ⟨@v23, ⟨@w23, ⟨@n23, ⟨@m23, ⟨@sb23, ⟨@fb23, ⟨@rb23, ⟨@v24, ⟨@w24, ⟨@n24, ⟨@m24, ⟨@sb24, ⟨@fb24, ⟨@rb24, ⟨@v25, ⟨@w25, ⟨@n25, ⟨@m25, ⟨@sb25, ⟨@fb25, ⟨@rb25, ⟨@s_0, ⟨@s_1, ⟨@s_2, ⟨@s_s, ⟨@s_w0, ⟨@s_w2, ⟨@s_e, ⟨@x_rng1, ⟨@x_rng2, ⟨@x_enu, ⟨@x_aslsl, ⟨@x_r1, ⟨@x_r2, ⟨@x_e1, ⟨@y_max, ⟨@y_min, ⟨@y_abs, ⟨@x_lenl, ⟨@x_lent, ⟨@x_lendT, ⟨@x_lendK, ⟨@x_brw1, ⟨@x_brw0, ⟨@x_par2, ⟨@x_ownl, ⟨@x_own, ⟨@x_ltu, ⟨@x_lls, ⟨@add_tt, ⟨@x_isik, ⟨@x_dnk, ⟨@x_dspS, ⟨@x_dnt, ⟨@x_sl3, ⟨@sl3_r, ⟨@sl3_t, ⟨@sl_lst, ⟨@x_lrg, ⟨@x_isI, ⟨@x_aug, ⟨@x_dvm, ⟨@x_dvmF, ⟨@sl_scr, ⟨@add_ll, ⟨@q_00, ⟨@x_app, ⟨@x_ext, ⟨@x_rsbo, ⟨@sl_t21, ⟨@x_isbb, ⟨@x_isnbb, ⟨@x_dsp1, ⟨@x_put, ⟨@x_isown, ⟨@x_puto, ⟨@kT_ii, ⟨@in_dT, ⟨@nin_dT, ⟨@x_pops, ⟨@x_dkeys, ⟨@x_kdT, ⟨@x_kdK, ⟨@x_star, ⟨@x_itl, ⟨@x_itt, ⟨@x_its, ⟨@x_getn, ⟨@x_getn1, ⟨@x_putl, ⟨@x_intm, ⟨@x_dA2, ⟨@x_dAi, ⟨@x_dAs, ⟨@x_reprl, ⟨@x_nilT, ⟨@x_consT, ⟨@x_kpn, ⟨@x_kpd, ⟨@x_kpb, ⟨@x_sa0, ⟨@x_sac, ⟨@x_par3, ⟨@x_callB, ⟨@x_callKB, ⟨@x_sortSet, ⟨@x_flb, ⟨@x_fli, ⟨@x_fln, ⟨@x_fls, ⟨@x_flt, ⟨@x_ftn, ⟨@x_ftc, ⟨@x_valsN, ⟨@x_newd, ⟨@x_rngW2, ⟨@x_rW2, ⟨@x_keysA, ⟨@x_kAd, ⟨@x_kAl, ⟨@x_lrg2, ⟨@x_lc2, ⟨@x_count, ⟨@x_dspN, ⟨@x_strm, ⟨@x_prs0, ⟨@x_prs1, ⟨@strK_n, ⟨@strK_c, ⟨@x_fld, ⟨@x_insm, ⟨@x_setf, ⟨@x_owni, ⟨@x_dgfld, ⟨@x_meth, ⟨@x_make, ⟨@x_methl, ⟨@x_getE, ⟨@x_index, ⟨@x_lstm, ⟨@x_augl, ⟨@x_getl, ⟨@x_getlm, ⟨@x_dgputl, ⟨@x_vals, ⟨@x_vdT, ⟨@x_vdK, ⟨@x_zip, ⟨@x_zipk, ⟨@x_lend, ⟨@x_lendG, ⟨@x_owlst, ⟨@x_lel0, ⟨@x_lel1, ⟨@x_fnn, @x_fnt⟩⟩⟩⟩⟩⟩⟩⟩⟩⟩⟩⟩⟩⟩⟩⟩⟩⟩⟩⟩⟩⟩⟩⟩⟩⟩⟩⟩⟩⟩⟩⟩⟩⟩⟩⟩⟩⟩⟩⟩⟩⟩⟩⟩⟩⟩⟩⟩⟩⟩⟩⟩⟩⟩⟩⟩⟩⟩⟩⟩⟩⟩⟩⟩⟩⟩⟩⟩⟩⟩⟩⟩⟩⟩⟩⟩⟩⟩⟩⟩⟩⟩⟩⟩⟩⟩⟩⟩⟩⟩⟩⟩⟩⟩⟩⟩⟩⟩⟩⟩⟩⟩⟩⟩⟩⟩⟩⟩⟩⟩⟩⟩⟩⟩⟩⟩⟩⟩⟩⟩⟩⟩⟩⟩⟩⟩⟩⟩⟩⟩⟩⟩⟩⟩⟩⟩⟩⟩⟩⟩⟩⟩⟩⟩⟩⟩⟩⟩⟩⟩⟩⟩⟩⟩⟩⟩⟩⟩⟩⟩⟩⟩⟩⟩⟩⟩⟩⟩⟩⟩⟩⟩⟩⟩⟩⟩⟩⟩⟩⟩⟩⟩⟩⟩⟩⟩⟩⟩⟩⟩⟩⟩⟩⟩⟩⟩⟩⟩⟩⟩⟩⟩⟩⟩⟩⟩⟩⟩⟩⟩⟩⟩⟩⟩⟩⟩⟩⟩⟩⟩⟩⟩⟩⟩⟩⟩⟩⟩⟩⟩⟩⟩⟩⟩⟩⟩⟩⟩⟩⟩⟩⟩⟩⟩⟩⟩⟩⟩⟩⟩⟩⟩⟩⟩⟩⟩⟩⟩⟩⟩⟩⟩⟩⟩⟩⟩⟩⟩⟩⟩⟩⟩⟩⟩⟩⟩⟩⟩⟩⟩⟩⟩⟩⟩⟩⟩⟩⟩⟩⟩⟩⟩⟩⟩⟩⟩⟩⟩⟩⟩⟩⟩⟩⟩⟩⟩⟩⟩⟩⟩⟩⟩⟩⟩⟩⟩⟩⟩⟩⟩⟩⟩⟩⟩⟩⟩⟩⟩⟩⟩⟩⟩⟩⟩⟩⟩⟩⟩⟩⟩⟩⟩⟩⟩⟩⟩⟩⟩⟩⟩⟩⟩⟩⟩⟩⟩⟩⟩⟩⟩⟩⟩⟩⟩⟩⟩⟩⟩⟩⟩⟩⟩⟩⟩⟩⟩⟩⟩⟩⟩⟩⟩⟩⟩⟩⟩⟩⟩⟩⟩⟩⟩⟩⟩⟩⟩⟩⟩⟩⟩⟩⟩⟩⟩⟩⟩⟩⟩⟩⟩⟩⟩⟩⟩⟩⟩⟩⟩⟩⟩⟩⟩⟩⟩⟩⟩⟩
/-- .. and behind it -/
theorem XQ : (type_of% @x_at) ∧ (type_of% @x_gs) ∧ (type_of% @x_gs0) ∧ (type_of% @x_gss) ∧ (type_of% @x_gg) ∧ (type_of% @x_gl0) ∧ (type_of% @x_gls) ∧ (type_of% @x_w0) ∧ (type_of% @x_ws) ∧ (type_of% @x_b0) ∧ (type_of% @x_bs) ∧ (type_of% @x_do1) ∧ (type_of% @x_do2) ∧ (type_of% @x_do3) ∧ (type_of% @k_int) ∧ (type_of% @k_bool) ∧ (type_of% @k_tuple) ∧ (type_of% @k_list) ∧ (type_of% @k_str) ∧ (type_of% @T_ii) ∧ (type_of% @T_ib) ∧ (type_of% @T_it) ∧ (type_of% @T_il) ∧ (type_of% @T_bi) ∧ (type_of% @T_bb) ∧ (type_of% @T_tt) ∧ (type_of% @T_ti) ∧ (type_of% @T_tl) ∧ (type_of% @T_ll) ∧ (type_of% @T_lt) ∧ (type_of% @T_li) ∧ (type_of% @T_ss) ∧ (type_of% @T_si) ∧ (type_of% @T_st) ∧ (type_of% @T_ni) ∧ (type_of% @T_nt) ∧ (type_of% @N_n) ∧ (type_of% @N_i) ∧ (type_of% @N_b) ∧ (type_of% @N_t) ∧ (type_of% @F_i) ∧ (type_of% @A_0) ∧ (type_of% @A_1) ∧ (type_of% @A_2) ∧ (type_of% @A_3) ∧ (type_of% @szt) ∧ (type_of% @Bool.not_true) ∧ (type_of% @Bool.not_false) ∧ (type_of% @true_and) ∧ (type_of% @and_true) ∧ (type_of% @not_false_eq_true) ∧ (type_of% @decide_true) ∧ (type_of% @decide_false) ∧ (type_of% @Bool.true_and) ∧ (type_of% @Bool.and_true) ∧ (type_of% @Bool.false_and) ∧ (type_of% @Bool.and_false) ∧ (type_of% @Nat.add_zero) ∧ (type_of% @x_atq) ∧ (type_of% @x_brs1) ∧ (type_of% @x_brs0) ∧ (type_of% @x_brt1) ∧ (type_of% @x_brt0) ∧ (type_of% @x_bro1) ∧ (type_of% @x_bro0) ∧ (type_of% @x_bra1) ∧ (type_of% @x_bra0) ∧ (type_of% @x_brr1) ∧ (type_of% @x_brr0) ∧ (type_of% @x_bre1) ∧ (type_of% @x_bre0) ∧ (type_of% @x_lcn) ∧ (type_of% @x_lcc) ∧ (type_of% @x_brl1) ∧ (type_of% @x_brl0) ∧ (type_of% @x_brk1) ∧ (type_of% @x_brk0) ∧ (type_of% @x_ck) ∧ (type_of% @sel_n) ∧ (type_of% @sel_c) ∧ (type_of% @o_tl) ∧ (type_of% @rg_1) ∧ (type_of% @rg_2) ∧ (type_of% @rg_3) ∧ (type_of% @x_idT) ∧ (type_of% @x_idK) ∧ (type_of% @x_idTd) ∧ (type_of% @x_idKd) ∧ (type_of% @x_dico) ∧ (type_of% @x_dicd) ∧ (type_of% @x_putlo) ∧ (type_of% @x_dA2) ∧ (type_of% @x_dAi) ∧ (type_of% @x_dAs) ∧ (type_of% @x_kpn) ∧ (type_of% @x_kpd) ∧ (type_of% @x_kpb) ∧ (type_of% @x_isowm) ∧ (type_of% @x_puT) ∧ (type_of% @x_puKi) ∧ (type_of% @x_brw1) ∧ (type_of% @x_brw0) ∧ (type_of% @x_owm) ∧ (type_of% @k_dict) ∧ (type_of% @T_nb) ∧ (type_of% @T_ns) ∧ (type_of% @T_nl) ∧ (type_of% @T_nd) ∧ (type_of% @T_bs) ∧ (type_of% @T_bt) ∧ (type_of% @T_bl) ∧ (type_of% @T_bd) ∧ (type_of% @T_is) ∧ (type_of% @T_id) ∧ (type_of% @T_sb) ∧ (type_of% @T_sl) ∧ (type_of% @T_sd) ∧ (type_of% @T_tb) ∧ (type_of% @T_ts) ∧ (type_of% @T_td) ∧ (type_of% @T_lb) ∧ (type_of% @T_ls) ∧ (type_of% @T_ld) ∧ (type_of% @T_di) ∧ (type_of% @T_db) ∧ (type_of% @T_ds) ∧ (type_of% @T_dt) ∧ (type_of% @T_dl) ∧ (type_of% @T_dd) ∧ (type_of% @x_aum) ∧ (type_of% @x_reo) ∧ (type_of% @x_app) ∧ (type_of% @x_ext) ∧ (type_of% @x_lendG) ∧ (type_of% @x_owlst) ∧ (type_of% @x_lel0) ∧ (type_of% @x_lel1) ∧ (type_of% @x_fnn) ∧ (type_of% @x_fnt) ∧ (type_of% @x_vao) ∧ (type_of% @x_vad) ∧ (type_of% @x_insm) ∧ (type_of% @x_owni) ∧ (type_of% @x_isl) ∧ (type_of% @x_idT') ∧ (type_of% @x_idK') ∧ (type_of% @x_lstm) ∧ (type_of% @x_getl) ∧ (type_of% @x_getlm) ∧ (type_of% @x_vdT) ∧ (type_of% @x_vdK) := ⟨@x_at, ⟨@x_gs, ⟨@x_gs0, ⟨@x_gss, ⟨@x_gg, ⟨@x_gl0, ⟨@x_gls, ⟨@x_w0, ⟨@x_ws, ⟨@x_b0, ⟨@x_bs, ⟨@x_do1, ⟨@x_do2, ⟨@x_do3, ⟨@k_int, ⟨@k_bool, ⟨@k_tuple, ⟨@k_list, ⟨@k_str, ⟨@T_ii, ⟨@T_ib, ⟨@T_it, ⟨@T_il, ⟨@T_bi, ⟨@T_bb, ⟨@T_tt, ⟨@T_ti, ⟨@T_tl, ⟨@T_ll, ⟨@T_lt, ⟨@T_li, ⟨@T_ss, ⟨@T_si, ⟨@T_st, ⟨@T_ni, ⟨@T_nt, ⟨@N_n, ⟨@N_i, ⟨@N_b, ⟨@N_t, ⟨@F_i, ⟨@A_0, ⟨@A_1, ⟨@A_2, ⟨@A_3, ⟨@szt, ⟨@Bool.not_true, ⟨@Bool.not_false, ⟨@true_and, ⟨@and_true, ⟨@not_false_eq_true, ⟨@decide_true, ⟨@decide_false, ⟨@Bool.true_and, ⟨@Bool.and_true, ⟨@Bool.false_and, ⟨@Bool.and_false, ⟨@Nat.add_zero, ⟨@x_atq, ⟨@x_brs1, ⟨@x_brs0, ⟨@x_brt1, ⟨@x_brt0, ⟨@x_bro1, ⟨@x_bro0, ⟨@x_bra1, ⟨@x_bra0, ⟨@x_brr1, ⟨@x_brr0, ⟨@x_bre1, ⟨@x_bre0, ⟨@x_lcn, ⟨@x_lcc, ⟨@x_brl1, ⟨@x_brl0, ⟨@x_brk1, ⟨@x_brk0, ⟨@x_ck, ⟨@sel_n, ⟨@sel_c, ⟨@o_tl, ⟨@rg_1, ⟨@rg_2, ⟨@rg_3, ⟨@x_idT, ⟨@x_idK, ⟨@x_idTd, ⟨@x_idKd, ⟨@x_dico, ⟨@x_dicd, ⟨@x_putlo, ⟨@x_dA2, ⟨@x_dAi, ⟨@x_dAs, ⟨@x_kpn, ⟨@x_kpd, ⟨@x_kpb, ⟨@x_isowm, ⟨@x_puT, ⟨@x_puKi, ⟨@x_brw1, ⟨@x_brw0, ⟨@x_owm, ⟨@k_dict, ⟨@T_nb, ⟨@T_ns, ⟨@T_nl, ⟨@T_nd, ⟨@T_bs, ⟨@T_bt, ⟨@T_bl, ⟨@T_bd, ⟨@T_is, ⟨@T_id, ⟨@T_sb, ⟨@T_sl, ⟨@T_sd, ⟨@T_tb, ⟨@T_ts, ⟨@T_td, ⟨@T_lb, ⟨@T_ls, ⟨@T_ld, ⟨@T_di, ⟨@T_db, ⟨@T_ds, ⟨@T_dt, ⟨@T_dl, ⟨@T_dd, ⟨@x_aum, ⟨@x_reo, ⟨@x_app, ⟨@x_ext, ⟨@x_lendG, ⟨@x_owlst, ⟨@x_lel0, ⟨@x_lel1, ⟨@x_fnn, ⟨@x_fnt, ⟨@x_vao, ⟨@x_vad, ⟨@x_insm, ⟨@x_owni, ⟨@x_isl, ⟨@x_idT', ⟨@x_idK', ⟨@x_lstm, ⟨@x_getl, ⟨@x_getlm, ⟨@x_vdT, @x_vdK⟩⟩⟩⟩⟩⟩⟩⟩⟩⟩⟩⟩⟩⟩⟩⟩⟩⟩⟩⟩⟩⟩⟩⟩⟩⟩⟩⟩⟩⟩⟩⟩⟩⟩⟩⟩⟩⟩⟩⟩⟩⟩⟩⟩⟩⟩⟩⟩⟩⟩⟩⟩⟩⟩⟩⟩⟩⟩⟩⟩⟩⟩⟩⟩⟩⟩⟩⟩⟩⟩⟩⟩⟩⟩⟩⟩⟩⟩⟩⟩⟩⟩⟩⟩⟩⟩⟩⟩⟩⟩⟩⟩⟩⟩⟩⟩⟩⟩⟩⟩⟩⟩⟩⟩⟩⟩⟩⟩⟩⟩⟩⟩⟩⟩⟩⟩⟩⟩⟩⟩⟩⟩⟩⟩⟩⟩⟩⟩⟩⟩⟩⟩⟩⟩⟩⟩⟩⟩⟩⟩⟩⟩⟩⟩⟩⟩⟩⟩⟩⟩


/-- a while by a measure: I what holds with so much to come at most -/
theorem wh_inv {c : DT} {tb : DS} {E : DEnds} (I : Nat → Gm → Prop)
    (step : ∀ (m : Nat) (G : Gm) (N : Gm → Prop), I m G → (∀ (m' : Nat) (G' : Gm), m' < m → I m' G' → N G') → c G fun b G1 => brW (0 + 0) b tb E N G1)
    {m : Nat} {G : Gm} (h : I m G) : dWhile c tb E G := by
  have key : ∀ (n m : Nat), m < n → ∀ G, I m G → whN c tb E n G := by
    intro n
    induction n with
    | zero => intro m h; exact absurd h (Nat.not_lt_zero _)
    | succ n ih =>
      intro m hm G h
      exact step m G (whN c tb E n) h fun m' G' h1 h2 => ih m' (by omega) G' h2
  exact ⟨m + 1, key (m + 1) m (Nat.lt_succ_self _) G h⟩

/-! ### to know a test as a whole -/
def EvD (e : DE) (G : Gm) (d : D) : Prop := ∀ Q, e G Q = Q (.dat d) G
def EvT (t : DT) (G : Gm) (b : Bool) : Prop := ∀ Q, t G Q = Q b G
section
variable {e e1 e2 e3 : DE} {t u : DT} {G : Gm} {a b c : Int} {p q : Bool} {d : D}
theorem ed_c : EvD (dC d) G d := fun _ => rfl
theorem ed_var {i : Nat} (h : gg G i = some (.dat d)) : EvD (dVar i) G d := fun Q => by unfold dVar; rw [h]
theorem ed_ix {ds : List D} {k : Int} (h1 : EvD e1 G (.tup ds)) (h2 : EvD e2 G (.int k)) (h : atI ds k = some d) : EvD (dBin dIx e1 e2) G d := fun Q => by
  unfold dBin; rw [h1]; simp only [h2 _]
  show atQ (atI ds k) (fun r => Q r G) = _
  rw [h]; rfl
theorem ed_add (h1 : EvD e1 G (.int a)) (h2 : EvD e2 G (.int b)) : EvD (dBin dAdd e1 e2) G (.int (a + b)) := fun Q => by unfold dBin; rw [h1]; simp only [h2 _]; rfl
theorem ed_sub (h1 : EvD e1 G (.int a)) (h2 : EvD e2 G (.int b)) : EvD (dBin dSub e1 e2) G (.int (a - b)) := fun Q => by unfold dBin; rw [h1]; simp only [h2 _]; rfl
theorem ed_neg (h1 : EvD e1 G (.int a)) : EvD (dUn dNeg e1) G (.int (-a)) := fun Q => by unfold dUn; rw [h1]; rfl
theorem et_chn (h1 : EvD e1 G (.int a)) (h2 : EvD e2 G (.int b)) (h3 : EvD e3 G (.int c)) : EvT (dTst (dChn dLe dLt e1 e2 e3)) G (decide (a ≤ b ∧ b < c)) := fun Q => by
  unfold dTst dChn; rw [h1]; simp only [h2 _, x_seed, F_i, true_and, x_cmp, x_isb]
  by_cases z : a ≤ b
  · simp only [z, decide_true, true_and, if_true, h3 _, x_seed, x_cmp, x_isb]
  · simp only [z, decide_false, false_and, Bool.false_eq_true, if_false, x_isb]
theorem et_chle (h1 : EvD e1 G (.int a)) (h2 : EvD e2 G (.int b)) (h3 : EvD e3 G (.int c)) : EvT (dTst (dChn dLe dLe e1 e2 e3)) G (decide (a ≤ b ∧ b ≤ c)) := fun Q => by
  unfold dTst dChn; rw [h1]; simp only [h2 _, x_seed, F_i, true_and, x_cmp, x_isb]
  by_cases z : a ≤ b
  · simp only [z, decide_true, true_and, if_true, h3 _, x_seed, x_cmp, x_isb]
  · simp only [z, decide_false, false_and, Bool.false_eq_true, if_false, x_isb]
theorem et_cmp {f : Int → Int → Bool} (h1 : EvD e1 G (.int a)) (h2 : EvD e2 G (.int b)) : EvT (dTst (dBin (dCmp f) e1 e2)) G (f a b) := fun Q => by unfold dTst dBin; rw [h1]; simp only [h2 _]; rfl
theorem et_eq (h1 : EvD e1 G (.int a)) (h2 : EvD e2 G (.int b)) : EvT (dTst (dBin dEq e1 e2)) G (decide (a = b)) := fun Q => by unfold dTst dBin; rw [h1]; simp only [h2 _, x_seed, x_eq, x_eqi, x_isb]
theorem et_ne (h1 : EvD e1 G (.int a)) (h2 : EvD e2 G (.int b)) : EvT (dTst (dBin dNe e1 e2)) G (!decide (a = b)) := fun Q => by unfold dTst dBin; rw [h1]; simp only [h2 _, x_seed, x_ne, x_eqi, x_isb]
theorem et_val (h1 : EvD e1 G (.bl p)) : EvT (dTst e1) G p := fun Q => by unfold dTst; rw [h1]; rfl
theorem et_not (h : EvT t G p) : EvT (dNotT t) G (!p) := fun Q => by unfold dNotT; rw [h]
theorem et_and (h1 : EvT t G p) (h2 : EvT u G q) : EvT (dAndT t u) G (p && q) := fun Q => by
  unfold dAndT; rw [h1]
  cases p with
  | true => rw [if_pos rfl, h2]; rfl
  | false => rw [if_neg Bool.false_ne_true]; rfl
theorem et_or (h1 : EvT t G p) (h2 : EvT u G q) : EvT (dOrT t u) G (p || q) := fun Q => by
  unfold dOrT; rw [h1]
  cases p with
  | true => rw [if_pos rfl]; rfl
  | false => rw [if_neg Bool.false_ne_true, h2]; rfl
theorem ed_chn (h1 : EvD e1 G (.int a)) (h2 : EvD e2 G (.int b)) (h3 : EvD e3 G (.int c)) : EvD (dChn dLe dLt e1 e2 e3) G (.bl (decide (a ≤ b ∧ b < c))) := fun Q => by
  unfold dChn; rw [h1]; simp only [h2 _, x_seed, F_i, true_and, x_cmp, x_isb]
  by_cases z : a ≤ b
  · simp only [z, decide_true, true_and, if_true, h3 _, x_seed, x_cmp]
  · simp only [z, decide_false, false_and, Bool.false_eq_true, if_false]
theorem ed_chle (h1 : EvD e1 G (.int a)) (h2 : EvD e2 G (.int b)) (h3 : EvD e3 G (.int c)) : EvD (dChn dLe dLe e1 e2 e3) G (.bl (decide (a ≤ b ∧ b ≤ c))) := fun Q => by
  unfold dChn; rw [h1]; simp only [h2 _, x_seed, F_i, true_and, x_cmp, x_isb]
  by_cases z : a ≤ b
  · simp only [z, decide_true, true_and, if_true, h3 _, x_seed, x_cmp]
  · simp only [z, decide_false, false_and, Bool.false_eq_true, if_false]
theorem ed_cmp {f : Int → Int → Bool} (h1 : EvD e1 G (.int a)) (h2 : EvD e2 G (.int b)) : EvD (dBin (dCmp f) e1 e2) G (.bl (f a b)) := fun Q => by unfold dBin; rw [h1]; simp only [h2 _]; rfl
theorem ed_eq (h1 : EvD e1 G (.int a)) (h2 : EvD e2 G (.int b)) : EvD (dBin dEq e1 e2) G (.bl (decide (a = b))) := fun Q => by unfold dBin; rw [h1]; simp only [h2 _, x_seed, x_eq, x_eqi]
theorem ed_ne (h1 : EvD e1 G (.int a)) (h2 : EvD e2 G (.int b)) : EvD (dBin dNe e1 e2) G (.bl (!decide (a = b))) := fun Q => by unfold dBin; rw [h1]; simp only [h2 _, x_seed, x_ne, x_eqi]
theorem ed_not (h1 : EvD e1 G (.bl p)) : EvD (dNotV e1) G (.bl (!p)) := fun Q => by unfold dNotV; rw [h1]; rfl
theorem ed_and (h1 : EvD e1 G (.bl p)) (h2 : EvD e2 G (.bl q)) : EvD (dAndV e1 e2) G (.bl (p && q)) := fun Q => by
  unfold dAndV; rw [h1, x_isb]
  cases p with
  | true => rw [if_pos rfl, h2]; rfl
  | false => rw [if_neg Bool.false_ne_true]; rfl
theorem ed_or (h1 : EvD e1 G (.bl p)) (h2 : EvD e2 G (.bl q)) : EvD (dOrV e1 e2) G (.bl (p || q)) := fun Q => by
  unfold dOrV; rw [h1, x_isb]
  cases p with
  | true => rw [if_pos rfl]; rfl
  | false => rw [if_neg Bool.false_ne_true, h2]; rfl
end
theorem ev_if {c : DT} {t u : DS} {E : DEnds} {G : Gm} {b b' : Bool} (h : EvT c G b) (hb : b = b') (q : brS (0 + 0) b' t u E G) : dIfS c t u E G := by
  show c G fun p G1 => brS (0 + 0) p t u E G1
  rw [h, hb]; exact q
theorem ev_t {c : DT} {G : Gm} {b b' : Bool} {Q : Bool → Gm → Prop} (h : EvT c G b) (hb : b = b') (q : Q b' G) : c G Q := by rw [h, hb]; exact q
theorem ev_e {e : DE} {G : Gm} {d d' : D} {Q : SV → Gm → Prop} (h : EvD e G d) (hb : d = d') (q : Q (.dat d') G) : e G Q := by rw [h, hb]; exact q

/-! ### texts of data, and how long they are -/
structure Shw (k m : Nat) (d : D) : Prop where
  pl : Pd k d
  sh : (toPy d).showable = true
  len : (shownD d).length ≤ m
theorem Pd_up {k : Nat} {d : D} (h : Pd k d) : Pd (k + 1) d := by
  induction k generalizing d with
  | zero => cases d <;> first | exact h | exact False.elim h
  | succ k ih => cases d <;> first | exact h | exact False.elim h | exact fun d hd => ih (h d hd)
theorem Pd_mono {k j : Nat} {d : D} (h : Pd k d) (hj : k ≤ j) : Pd j d := by
  induction hj with
  | refl => exact h
  | step _ ih => exact Pd_up ih
theorem Shw.mono {k m j n : Nat} {d : D} (h : Shw k m d) (hj : k ≤ j) (hn : m ≤ n) : Shw j n d := ⟨Pd_mono h.pl hj, h.sh, Nat.le_trans h.len hn⟩
theorem shw_int {i : Int} (h : i.natAbs < 10 ^ 300) : Shw 0 301 (.int i) := by
  refine ⟨trivial, ?_, ?_⟩
  · have := log2_lt (n := i.natAbs) (k := 1000) (Nat.lt_of_lt_of_le h (by decide +kernel)) (by decide)
    simp only [toPy, PyData.showable, decide_eq_true_eq]; omega
  · have h2 := int_text_length_le10 (a := i) (k := 300) (by decide) h
    show (Str.ofString (toString i)).length ≤ 301
    rw [PySem.ofString_length]; exact h2
theorem shw_bl {b : Bool} : Shw 0 5 (.bl b) := ⟨trivial, by cases b <;> decide +kernel, by cases b <;> decide +kernel⟩
theorem shw_non : Shw 0 4 .non := ⟨trivial, by decide +kernel, by decide +kernel⟩
theorem shw_all {k m : Nat} : ∀ {ds : List D}, (∀ d ∈ ds, Shw k m d) → PyData.showableAll (toPys ds) = true ∧ ((PyData.shownAll (toPys ds)).map (·.length)).sum ≤ ds.length * m ∧ (PyData.shownAll (toPys ds)).length = ds.length
  | [], _ => ⟨rfl, by simp [toPys, PyData.shownAll], rfl⟩
  | d :: ds, h => by
    obtain ⟨h1, h2, h3⟩ := shw_all (ds := ds) fun x hx => h x (List.mem_cons_of_mem _ hx)
    have h0 := h d List.mem_cons_self
    refine ⟨by simp only [toPys, PyData.showableAll, Bool.and_eq_true]; exact ⟨h0.sh, h1⟩, ?_, ?_⟩
    · simp only [toPys, PyData.shownAll, List.map_cons, List.sum_cons, List.length_cons, Nat.add_mul, Nat.one_mul]
      have : (toPy d).shown.length ≤ m := h0.len
      omega
    · simp only [toPys, PyData.shownAll, List.length_cons, h3]
theorem shw_lst {k m : Nat} {ds : List D} (h : ∀ d ∈ ds, Shw k m d) : Shw (k + 1) (ds.length * (m + 2) + 3) (.lst ds) := by
  obtain ⟨h1, h2, h3⟩ := shw_all h
  refine ⟨fun d hd => (h d hd).pl, by simp only [toPy, PyData.showable]; exact h1, ?_⟩
  have e := PySem.listText_len_le (PyData.shownAll (toPys ds))
  have e2 : (shownD (.lst ds)).length = (listText (PyData.shownAll (toPys ds))).length := by unfold shownD; simp only [toPy, PyData.shown]
  rw [e2, Nat.mul_add]; omega
theorem shw_tup {k m : Nat} {ds : List D} (h : ∀ d ∈ ds, Shw k m d) : Shw (k + 1) (ds.length * (m + 2) + 3) (.tup ds) := by
  obtain ⟨h1, h2, h3⟩ := shw_all h
  refine ⟨fun d hd => (h d hd).pl, by simp only [toPy, PyData.showable]; exact h1, ?_⟩
  have e := PySem.tupleText_len_le (PyData.shownAll (toPys ds))
  have e2 : (shownD (.tup ds)).length = (tupleText (PyData.shownAll (toPys ds))).length := by unfold shownD; simp only [toPy, PyData.shown]
  rw [e2, Nat.mul_add]; omega
theorem shw_pair {a b : Int} (h : a.natAbs < 10 ^ 300) (h2 : b.natAbs < 10 ^ 300) : Shw 1 609 (.tup [.int a, .int b]) := by
  refine (shw_tup (k := 0) (m := 301) fun d hd => ?_).mono (by decide) (by show 2 * (301 + 2) + 3 ≤ 609; decide)
  simp only [List.mem_cons, List.not_mem_nil, or_false] at hd
  rcases hd with rfl | rfl
  · exact shw_int h
  · exact shw_int h2
theorem rp_of {k m : Nat} {d : D} {q : SV → Prop} (s : Shw k m d) (h : q (.dat (.str (shownD d)))) (hk : k ≤ 20 := by decide) (hm : m ≤ 1000000 := by decide) : dRepr d q :=
  ⟨Pd_mono s.pl hk, s.sh, Nat.le_trans s.len (Nat.le_trans hm (by decide)), h⟩
theorem rp_int {i : Int} {q : SV → Prop} (h : i.natAbs < 10 ^ 300) (hq : q (.dat (.str (shownD (.int i))))) : dRepr (.int i) q := rp_of (shw_int h) hq
/-- a comprehension that keeps nothing -/
theorem lc_none {vs : List Nat} {g : DG} {tt : DT} {te : DE} {Qe : List D → Gm → Prop} {G : Gm} {ds : List D} (st : ∀ d ∈ ds, ∀ (k : D → Gm → Prop) (k' : Gm → Prop), k' G → lcT vs g tt te d G k k') (q : Qe [] G) : lcL vs g tt te Qe ds [] G := by
  refine lc_map (f := fun _ => none) (fun d hd k k' h => st d hd k k' h) ?_
  rw [show ds.filterMap (fun _ => (none : Option D)) = [] by induction ds <;> simp_all]
  exact q
theorem enum_at {ds : List D} {k : Int} {e : D} (h : e ∈ enumD k ds) : ∃ (j : Nat) (d : D), e = .tup [.int (k + j), d] ∧ ds[j]? = some d := by
  obtain ⟨j, hj⟩ := List.mem_iff_getElem?.mp h
  rw [enumD_get] at hj
  cases e1 : ds[j]? with
  | none => rw [e1] at hj; cases hj
  | some d => rw [e1] at hj; cases hj; exact ⟨j, d, rfl, e1⟩
/-- the last item -/
theorem atI_neg1 {α : Type} {xs : List α} {v : α} (h : xs.getLast? = some v) : atI xs (-1) = some v := by
  obtain ⟨ys, rfl⟩ : ∃ ys, xs = ys ++ [v] := by
    rw [List.getLast?_eq_some_iff] at h; exact h
  exact atI_last ys v
/-- the first cells of the script -/
theorem cut_scr (n : Nat) {ns : List Int} : (dSlc.cutV' (ns.map D.int) none (some (n : Int))).length ≤ n ∧ ∀ d ∈ dSlc.cutV' (ns.map D.int) none (some (n : Int)), ∃ i, d = .int i := by
  unfold dSlc.cutV'
  refine ⟨?_, fun d hd => ?_⟩
  · rw [List.length_take]
    have e : HT.sIx (ns.map D.int).length (ns.map D.int).length (some (n : Int)) = min n (ns.map D.int).length := HT.sIx_nat _ _ n
    rw [e]
    omega
  · obtain ⟨i, _, rfl⟩ := List.mem_map.mp (List.mem_of_mem_drop (List.mem_of_mem_take hd))
    exact ⟨i, rfl⟩
/-- the cells that a law walks -/
theorem cells_of (n m : Nat) (v : Int) {ns : List Int} (hm : n + 1 = m) (hs : m ≤ 64 := by decide) : (dSlc.cutV' (ns.map D.int) none (some (n : Int))).length + 1 ≤ sizeLine ∧ ∃ B : List D, dSlc.cutV' (ns.map D.int) none (some (n : Int)) ++ [D.int v] = B ∧ B.length ≤ m ∧ (∀ d ∈ B, ∃ i, d = .int i) := by
  obtain ⟨c1, c2⟩ := cut_scr n (ns := ns)
  refine ⟨Nat.le_trans (Nat.le_trans (Nat.add_le_add_right c1 1) (hm ▸ hs)) (by decide), _, rfl, by rw [List.length_append, ← hm]; exact Nat.add_le_add_right c1 1, fun d hd => ?_⟩
  rcases List.mem_append.mp hd with hd | hd
  · exact c2 d hd
  · exact ⟨v, List.mem_singleton.mp hd⟩
theorem at_ints {ds : List D} {i : Int} {q : SV → Prop} (ns : List Int) (lo hi : Int) (h1 : 0 ≤ i) (h2 : i < ns.length) (h : ∀ f : Int, lo ≤ f → f ≤ hi → q (.dat (.int f))) (e : ds = ns.map D.int := by rfl) (hb : ∀ x ∈ ns, lo ≤ x ∧ x ≤ hi := by decide) : atQ (atI ds i) q := by
  subst e
  obtain ⟨k, rfl⟩ : ∃ k : Nat, i = k := ⟨i.toNat, by omega⟩
  have hk : k < ns.length := by omega
  rw [atI_nat (j := k) (v := .int ns[k]) (by rw [List.getElem?_map, List.getElem?_eq_getElem hk]; rfl)]
  have := hb ns[k] (List.getElem_mem hk)
  exact h _ this.1 this.2
/-- a join behind an if -/
theorem brS_gen {z : Nat} {p : Bool} {t u : DS} {E : DEnds} {G : Gm} (P : Gm → Prop) (rest : ∀ G, P G → E.nx G) (run : ∀ N : Gm → Prop, (∀ G, P G → N G) → brS z p t u { E with nx := N } G) : brS z p t u E G := run E.nx rest
theorem pl_ints {n : Nat} {ds : List D} {ns : List Int} (h : intsOf ds = some ns) : Pl (n + 1) (.lst ds) := by
  rw [intsOf_eq h]
  intro d hd
  obtain ⟨i, _, rfl⟩ := List.mem_map.mp hd
  cases n <;> trivial
theorem eqv_refl_all : ∀ {ds : List D} {n : Nat}, (∀ d ∈ ds, Pl n d → PyData.eqv (toPy d) (toPy d) = true) → (∀ d ∈ ds, Pl n d) → PyData.eqvAll (toPys ds) (toPys ds) = true
  | [], _, _, _ => by simp [toPys, PyData.eqvAll]
  | d :: ds, n, f, h => by
    simp only [toPys, PyData.eqvAll, Bool.and_eq_true]
    exact ⟨f d List.mem_cons_self (h d List.mem_cons_self), eqv_refl_all (fun x hx => f x (List.mem_cons_of_mem _ hx)) fun x hx => h x (List.mem_cons_of_mem _ hx)⟩
theorem eqD_refl {n : Nat} : ∀ {d : D}, Pl n d → eqD d d = true := by
  induction n with
  | zero => intro d h; unfold eqD; cases d <;> first | exact False.elim h | simp [toPy, PyData.eqv]
  | succ n ih =>
    intro d h
    unfold eqD
    cases d <;> first
      | exact False.elim h
      | (simp [toPy, PyData.eqv]; done)
      | (simp only [toPy, PyData.eqv]; exact eqv_refl_all (fun d _ p => ih p) h)
      | (rw [toPy, ← toPys_ints]; simp only [PyData.eqv]; exact eqv_refl_all (n := 1) (fun d hd _ => by obtain ⟨i, _, rfl⟩ := List.mem_map.mp hd; simp [toPy, PyData.eqv]) fun d hd => by obtain ⟨i, _, rfl⟩ := List.mem_map.mp hd; trivial)
theorem q_same {d : D} {f : Bool → Prop} (h : Pl 20 d) (hf : f true) : eqQ d d f := by
  unfold eqQ
  cases e : strsD d d with
  | none => exact ⟨h, h, by rw [eqD_refl h]; exact hf⟩
  | some p =>
    obtain ⟨e1, e2⟩ := strsD_of e
    rw [e1] at e2
    injection e2 with e2
    show f (decide (p.1 = p.2))
    rw [decide_eq_true e2]; exact hf
theorem q_scr {ns : List Int} {f : Bool → Prop} (h : f (decide (ns = []))) : eqQ (.scr ns) (.lst []) f := by
  refine ⟨trivial, fun d hd => (by cases hd), ?_⟩
  rw [show eqD (.scr ns) (.lst []) = decide (ns = []) by
    unfold eqD
    cases ns with
    | nil => simp [toPy, toPys, PyData.eqv, PyData.eqvAll]
    | cons a b => simp [toPy, toPys, PyData.eqv, PyData.eqvAll]]
  exact h
theorem q_ints {as bs : List D} {ns : List Int} {f : Bool → Prop} (h1 : intsOf as = some ns) (h2 : intsOf bs = some ns) (hf : f true) : eqQ (.lst as) (.lst bs) f := by
  rw [intsOf_eq h1, intsOf_eq h2]
  exact q_same (pl_ints (intsOf_map ns)) hf
def plB : Nat → D → Bool
  | 0, d => match d with
    | .non => true
    | .bl _ => true
    | .int _ => true
    | .str x => PyData.strOk x
    | _ => false
  | n + 1, d => match d with
    | .non => true
    | .bl _ => true
    | .int _ => true
    | .str x => PyData.strOk x
    | .tup ds => ds.all (plB n)
    | .lst ds => ds.all (plB n)
    | _ => false
theorem plB_pl {n : Nat} : ∀ {d : D}, plB n d = true → Pl n d := by
  induction n with
  | zero => intro d h; cases d <;> first | exact trivial | exact h | exact absurd h Bool.false_ne_true
  | succ n ih =>
    intro d h
    cases d <;> first
      | exact trivial
      | exact fun d hd => ih (List.all_eq_true.mp h d hd)
      | exact h
      | exact absurd h Bool.false_ne_true
theorem q_clo {a b : D} {f : Bool → Prop} (h1 : plB 20 a = true) (h2 : plB 20 b = true) (h3 : eqD a b = true) (hf : f true) (hs : strsD a b = none := by rfl) : eqQ a b f := by
  unfold eqQ
  rw [hs]
  exact ⟨plB_pl h1, plB_pl h2, by rw [h3]; exact hf⟩
/-- a comprehension turn by turn: I what holds with so many to come and so much made -/
theorem lc_for {vs : List Nat} {g : DG} {c : DT} {e : DE} {Qe : List D → Gm → Prop} (I : List D → List D → Gm → Prop) (fin : ∀ acc G, I [] acc G → Qe acc G) :
    ∀ (ds : List D) (_ : ∀ (d : D) (r acc : List D) (G : Gm) (K : D → Gm → Prop) (K' : Gm → Prop), (d :: r) <:+ ds → I (d :: r) acc G → (∀ y G', I r (acc ++ [y]) G' → K y G') → (∀ G', I r acc G' → K' G') → lcT vs g c e d G K K') (acc : List D) (G : Gm), I ds acc G → lcL vs g c e Qe ds acc G
  | [], _, acc, G, h => fin acc G h
  | d :: r, st, acc, G, h => st d r acc G (fun y G' => lcL vs g c e Qe r (acc ++ [y]) G') (fun G' => lcL vs g c e Qe r acc G') (List.suffix_refl _) h
      (fun y G' h' => lc_for I fin r (fun x s a G K K' hs => st x s a G K K' (List.IsSuffix.trans hs (List.suffix_cons _ _))) (acc ++ [y]) G' h')
      fun G' h' => lc_for I fin r (fun x s a G K K' hs => st x s a G K K' (List.IsSuffix.trans hs (List.suffix_cons _ _))) acc G' h'
theorem cut_mem {ds : List D} {lo hi : Option Int} {d : D} (h : d ∈ dSlc.cutV' ds lo hi) : d ∈ ds := List.mem_of_mem_drop (List.mem_of_mem_take h)
theorem cut_len {ds : List D} {lo hi : Option Int} : (dSlc.cutV' ds lo hi).length ≤ ds.length := by
  unfold dSlc.cutV'; rw [List.length_take, List.length_drop]; omega
theorem at_mem {ds : List D} {i : Int} {q : SV → Prop} (h1 : 0 ≤ i) (h2 : i < ds.length) (h : ∀ d ∈ ds, q (.dat d)) : atQ (atI ds i) q := by
  obtain ⟨k, rfl⟩ : ∃ k : Nat, i = k := ⟨i.toNat, by omega⟩
  have hk : k < ds.length := by omega
  rw [atI_nat (j := k) (v := ds[k]) (List.getElem?_eq_getElem hk)]
  exact h _ (List.getElem_mem hk)
def pdB : Nat → D → Bool
  | 0, d => match d with
    | .non => true
    | .bl _ => true
    | .int _ => true
    | .str _ => true
    | _ => false
  | n + 1, d => match d with
    | .non => true
    | .bl _ => true
    | .int _ => true
    | .str _ => true
    | .tup ds => ds.all (pdB n)
    | .lst ds => ds.all (pdB n)
    | .dK es => es.all fun e => pdB n e.2
    | _ => false
theorem pdB_pd {n : Nat} : ∀ {d : D}, pdB n d = true → Pd n d := by
  induction n with
  | zero => intro d h; cases d <;> first | exact trivial | exact absurd h Bool.false_ne_true
  | succ n ih =>
    intro d h
    cases d <;> first
      | exact trivial
      | exact fun d hd => ih (List.all_eq_true.mp h d hd)
      | exact fun e he => ih (List.all_eq_true.mp h e he)
      | exact absurd h Bool.false_ne_true
/-- of a written datum -/
theorem shw_clo {k m : Nat} {d : D} (h1 : pdB k d = true) (h2 : (toPy d).showable = true) (h3 : (shownD d).length ≤ m) : Shw k m d := ⟨pdB_pd h1, h2, h3⟩
theorem shw_ints {k : Nat} {ds : List D} (t : Bool) (h : ∀ d ∈ ds, ∃ i : Int, d = .int i ∧ i.natAbs < 10 ^ 300) : Shw (k + 1) (ds.length * 303 + 3) (if t then .tup ds else .lst ds) := by
  have f : ∀ d ∈ ds, Shw k 301 d := fun d hd => by
    obtain ⟨i, rfl, hi⟩ := h d hd
    exact (shw_int hi).mono (Nat.zero_le _) (Nat.le_refl _)
  cases t with
  | true => exact shw_tup f
  | false => exact shw_lst f
theorem abs_mul {a b : Int} {x y z : Nat} (h1 : a.natAbs ≤ x) (h2 : b.natAbs ≤ y) (hz : x * y ≤ z) : (a * b).natAbs ≤ z := by
  rw [Int.natAbs_mul]; exact Nat.le_trans (Nat.mul_le_mul h1 h2) hz

abbrev N__law_source : List Str := ["_law_cell", "_law_k", "_law_great"]
abbrev ps__law_source : List Str := ["_law_cell", "_law_k"]
abbrev N__law_draw : List Str := ["_law_source_here", "_law_count", "_law_mixed", "_law_digit"]
abbrev ps__law_draw : List Str := ["_law_source_here", "_law_count"]
abbrev N__law_pair : List Str := ["_law_source_here", "_law_far", "_law_found"]
abbrev ps__law_pair : List Str := ["_law_source_here", "_law_far"]
abbrev N__law_spots : List Str := ["_law_high", "_law_wide", "_law_spot"]
abbrev ps__law_spots : List Str := ["_law_high", "_law_wide"]
abbrev N__law_waves : List Str := ["_law_pair_here", "_law_high", "_law_wide", "_law_found", "_law_spot", "_law_time_here", "_law_row"]
abbrev ps__law_waves : List Str := ["_law_pair_here", "_law_high", "_law_wide"]
def dd_is_integer : List D := [.non, .non]
abbrev N_is_integer : List Str := ["value", "low", "high"]
abbrev ps_is_integer : List Str := ["value", "low", "high"]
abbrev N_is_pair : List Str := ["value", "item"]
abbrev ps_is_pair : List Str := ["value"]
abbrev N_is_line : List Str := ["value"]
abbrev ps_is_line : List Str := ["value"]
abbrev N_need_line : List Str := ["order"]
abbrev ps_need_line : List Str := ["order"]
abbrev N_need_size : List Str := ["number"]
abbrev ps_need_size : List Str := ["number"]
abbrev N_need_box : List Str := ["rows", "columns"]
abbrev ps_need_box : List Str := ["rows", "columns"]
abbrev N_need_waves : List Str := ["order", "rows", "columns"]
abbrev ps_need_waves : List Str := ["order", "rows", "columns"]
abbrev N_divisor : List Str := ["one", "other"]
abbrev ps_divisor : List Str := ["one", "other"]
abbrev N_widest_wave : List Str := ["order", "rows", "columns", "part", "a", "b"]
abbrev ps_widest_wave : List Str := ["order", "rows", "columns"]
abbrev N__law_right : List Str := ["_law_source_here", "_law_pair_here", "_law_due", "_law_high", "_law_wide", "_law_times_here", "_law_side", "_law_row"]
abbrev ps__law_right : List Str := ["_law_source_here"]
abbrev N__law_divisor : List Str := ["_law_first", "_law_second"]
abbrev ps__law_divisor : List Str := ["_law_first", "_law_second"]
abbrev N__law_turn : List Str := ["_law_pair_here", "_law_part", "_law_a", "_law_b"]
abbrev ps__law_turn : List Str := ["_law_pair_here"]
abbrev N__law_times : List Str := ["_law_spot", "_law_move", "_law_high", "_law_wide", "_law_found", "_law_start", "_law_item", "_law_size"]
abbrev ps__law_times : List Str := ["_law_spot", "_law_move", "_law_high", "_law_wide"]
def dd_need_number : List D := [.int 0, .non]
abbrev N_need_number : List Str := ["number", "low", "high"]
abbrev ps_need_number : List Str := ["number", "low", "high"]
abbrev N_inverse_of : List Str := ["number", "modulus", "one", "other", "first", "second", "part"]
abbrev ps_inverse_of : List Str := ["number", "modulus"]
abbrev N_turns_within : List Str := ["start", "move", "size"]
abbrev ps_turns_within : List Str := ["start", "move", "size"]
abbrev N_wave_line : List Str := ["order", "rows", "columns", "time", "part", "move", "row", "column", "spans", "a", "b", "low", "high", "rest", "span"]
abbrev ps_wave_line : List Str := ["order", "rows", "columns", "time"]
abbrev N_wave_size : List Str := ["order", "rows", "columns", "time"]
abbrev ps_wave_size : List Str := ["order", "rows", "columns", "time"]
abbrev N__law_far_right : List Str := ["_law_source_here", "_law_pair_here", "_law_move", "_law_begin", "_law_due", "_law_turn_here", "_law_high", "_law_wide", "_law_times_here", "_law_spot", "_law_side"]
abbrev ps__law_far_right : List Str := ["_law_source_here"]
abbrev N_law : List Str := ["_law_script", "_law_told", "_law_k", "_law_cell", "_law_source_here", "_law_turn_here"]
abbrev ps_law : List Str := ["_law_script"]
def okD (d : D) : Bool := (clsD d).isSome
def intD : D → Bool
  | .int _ => true
  | _ => false
def rngD (d : D) (lo hi : Int) : Bool := match d with
  | .int v => decide (lo ≤ v) && decide (v ≤ hi)
  | _ => false
def okE (d : D) : Bool := match d with
  | .tup ds => ds.all okD
  | d => okD d
def pairD (d : D) : Bool := match d with
  | .tup ds => decide (ds.length = 2) && ds.all intD
  | _ => false
def vecD (d : D) : Bool := match d with
  | .tup [.int a, .int b] => !(decide (a = 0) && decide (b = 0))
  | _ => false
def spotD (w : Int) : D → D
  | .int s => .tup [.int (s.fdiv w), .int (s.fmod w)]
  | d => d
def spotsD (h w : Int) : List D := (rangeD 0 (h * w).toNat).map (spotD w)
def inB (r c x y : Int) : Prop := 0 ≤ x ∧ x < r ∧ 0 ≤ y ∧ y < c
instance inst_inB {r c x y : Int} : Decidable (inB r c x y) := by unfold inB; infer_instance
abbrev spotP (w s : Int) : Int × Int := (s.fdiv w, s.fmod w)
def prLt (p q : Int × Int) : Prop := p.1 < q.1 ∨ (p.1 = q.1 ∧ p.2 < q.2)
def spotsL (g w : Int) : List (Int × Int) := (List.range (g * w).toNat).map fun s : Nat => spotP w s
def stepOk (p : Int × Int) : Prop := 0 ≤ p.1 ∧ p.1 ≤ 6 ∧ -6 ≤ p.2 ∧ p.2 ≤ 6 ∧ (p.1 = 0 → 1 ≤ p.2)
instance inst_stepOk {p : Int × Int} : Decidable (stepOk p) := by unfold stepOk; infer_instance
/-- so far at most -/
def stepTo (f : Int) (p : Int × Int) : Prop := 0 ≤ p.1 ∧ p.1 ≤ f ∧ -f ≤ p.2 ∧ p.2 ≤ f ∧ (p.1 = 0 → 1 ≤ p.2)
def StepsOk (ms : List (Int × Int)) : Prop := 1 ≤ ms.length ∧ ms.length ≤ 4 ∧ (∀ p ∈ ms, stepOk p) ∧ ms.Nodup
def stepD (d : D) : Bool := match d with
  | .tup [.int a, .int b] => decide (stepOk (a, b))
  | _ => false
def pairOf (d : D) : Int × Int := match d with
  | .tup [.int a, .int b] => (a, b)
  | _ => (0, 0)
def okL (d : D) : Bool := match d with
  | .lst ds => ds.all okE
  | d => okD d
def faultAt (ps : List (Int × Int)) : List D → D
  | [] => .tup []
  | d :: r => if stepD d = true then (if pairOf d ∈ ps then .tup [.int ps.length] else faultAt (ps ++ [pairOf d]) r) else .tup [.int ps.length]
def faultD (d : D) : D := match d with
  | .lst ds => if 1 ≤ ds.length ∧ ds.length ≤ 4 then faultAt [] ds else .tup [.non]
  | _ => .tup [.non]
def costI (a b R C : Int) : Int := absI a * (R - 1) + absI b * (C - 1) + 1
def legW (ms : List (Int × Int)) (a b : Int) : Prop := ∀ s ∈ ms, 1 ≤ a * s.1 + b * s.2
def smallW (a : Int) : Prop := -8 ≤ a ∧ a ≤ 8
def Few (ms : List (Int × Int)) (R C a b : Int) : Prop := (smallW a ∧ smallW b) ∧ legW ms a b ∧ ∀ a' b', legW ms a' b' → costI a b R C ≤ costI a' b' R C
def legB (ms : List (Int × Int)) (a b : Int) : Bool := ms.all fun s => decide (1 ≤ a * s.1 + b * s.2)
def sizeW (R : Int) : Prop := 1 ≤ R ∧ R ≤ 999999999999999999999999999999
def keyP (p : Int × Int) : List Key := [.inl p.1, .inl p.2]
def dictD (F : List (Int × Int)) : List (List Key × D) := F.map fun p => (keyP p, .bl true)
inductive Reach (ms : List (Int × Int)) (A lo hi : Int) : Int × Int → Prop
  | zero : Reach ms A lo hi (0, 0)
  | step {p s : Int × Int} : Reach ms A lo hi p → s ∈ ms → p.1 + s.1 ≤ A → lo ≤ p.2 + s.2 → p.2 + s.2 ≤ hi → Reach ms A lo hi (p.1 + s.1, p.2 + s.2)
def insE (F : List (Int × Int)) (p : Int × Int) : List (Int × Int) := if p ∈ F then F else F ++ [p]
def insAll (F L : List (Int × Int)) : List (Int × Int) := L.foldl insE F
instance inst_prLt {p q : Int × Int} : Decidable (prLt p q) := by unfold prLt; infer_instance
/-- ascending, without repeats, just these -/
def SortSet (S : Int × Int → Prop) (qs : List (Int × Int)) : Prop := qs.Pairwise prLt ∧ ∀ p, p ∈ qs ↔ S p
def boxB (r c : Int) (p : Int × Int) : Bool := decide (0 ≤ p.1) && decide (p.1 < r) && (decide (0 ≤ p.2) && decide (p.2 < c))
def SrcP (ms : List (Int × Int)) (r c : Int) (p q : Int × Int) : Prop := inB r c q.1 q.2 ∧ ∃ s ∈ ms, q = (p.1 - s.1, p.2 - s.2)
def RedP (ms : List (Int × Int)) (r c : Int) (p q : Int × Int) : Prop := inB r c q.1 q.2 ∧ ∃ s ∈ ms, q = (p.1 + s.1, p.2 + s.2)
def standB (ms : List (Int × Int)) (r c : Int) (F : List (Int × Int)) (p : Int × Int) : Bool := boxB r c p && (!decide (p ∈ F) && ms.all fun s => !boxB r c (p.1 - s.1, p.2 - s.2) || decide ((p.1 - s.1, p.2 - s.2) ∈ F))
def HasKeys (es : List (List Key × D)) (F : List (Int × Int)) : Prop := ∀ a b : Int, (valD es [.inl a, .inl b]).isSome = decide ((a, b) ∈ F)
def faultLs (ms : List (Int × Int)) (r c : Int) : List (Int × Int) → List D → D
  | _, [] => .tup []
  | F, d :: re => if pairD d = true then (if standB ms r c F (pairOf d) = true then faultLs ms r c (F ++ [pairOf d]) re else .tup [.int F.length]) else .tup [.int F.length]
def faultLD (ms : List (Int × Int)) (r c : Int) (d : D) : D := match d with
  | .lst ds => if ds.length ≤ 400 then faultLs ms r c [] ds else .tup [.non]
  | _ => .tup [.non]
def LegalF (ms : List (Int × Int)) (r c : Int) : List (Int × Int) → List (Int × Int) → Prop
  | _, [] => True
  | F, p :: L => standB ms r c F p = true ∧ LegalF ms r c (F ++ [p]) L
def DemP (ms : List (Int × Int)) (v : Int × Int) (r c : Int) (p q : Int × Int) : Prop := inB r c (p.1 - v.1) (p.2 - v.2) ∧ (q = (p.1 - v.1, p.2 - v.2) ∨ (RedP ms r c (p.1 - v.1, p.2 - v.2) q ∧ q ≠ p))
/-- the first item at which something is absent, and the least such -/
def BreakP (ms : List (Int × Int)) (v : Int × Int) (r c : Int) : List (Int × Int) → List (Int × Int) → Option (Int × (Int × Int)) → Prop
  | _, [], o => o = none
  | F, p :: L, o => ((∃ q, DemP ms v r c p q ∧ q ∉ F) ∧ ∃ q, DemP ms v r c p q ∧ q ∉ F ∧ (∀ q', DemP ms v r c p q' → q' ∉ F → prLe q q') ∧ o = some ((F.length : Int), q)) ∨ ((∀ q, DemP ms v r c p q → q ∈ F) ∧ BreakP ms v r c (F ++ [p]) L o)
def sizeB (n : Int) : Prop := 1 ≤ n ∧ n ≤ 999999999999999999999999999999
def breakD : Option (Int × (Int × Int)) → D
  | none => .non
  | some (i, q) => .tup [.int i, .tup [.int q.1, .int q.2]]
/-- the iterations of a wave, in their sequence: (x + i u, y + i v), i below k -/
def LineP (a b r c t x y u v k : Int) : Prop := 0 ≤ k ∧ (u.natAbs < 10 ^ 50 ∧ v.natAbs < 10 ^ 50) ∧ (0 < u ∨ (u = 0 ∧ 0 < v)) ∧ ∀ p q : Int, (inB r c p q ∧ a * p + b * q = t) ↔ ∃ i : Int, 0 ≤ i ∧ i < k ∧ p = x + i * u ∧ q = y + i * v
def timB (a b m : Int) (p : Int × Int) : Bool := decide (a * p.1 + b * p.2 = m)
def WvP (a b : Int) (F : List (Int × Int)) (es : List (Key × D)) : Prop := (∃ ns, keysI es = some ns ∧ ∀ m, m ∈ ns ↔ ∃ p ∈ F, a * p.1 + b * p.2 = m) ∧ ∀ m : Int, valD es (.inl m) = if F.filter (timB a b m) = [] then none else some (.lst ((F.filter (timB a b m)).map prD))
/-- what integers of steps add up to -/
inductive Lat (ms : List (Int × Int)) : Int × Int → Prop
  | zero : Lat ms (0, 0)
  | add {p s : Int × Int} : Lat ms p → s ∈ ms → Lat ms (p.1 + s.1, p.2 + s.2)
  | sub {p s : Int × Int} : Lat ms p → s ∈ ms → Lat ms (p.1 - s.1, p.2 - s.2)
def Bas (g h k : Int) (p : Int × Int) : Prop := ∃ a b : Int, p.1 = a * g ∧ p.2 = a * h + b * k
structure BasOk (ms : List (Int × Int)) (g h k : Int) : Prop where
  g0 : 0 ≤ g ∧ g ≤ 6
  k0 : 0 ≤ k ∧ k ≤ 10 ^ 30
  hb : h.natAbs ≤ 10 ^ 30
  gh : g = 0 → h = 0
  la : ∀ p, Lat ms p ↔ Bas g h k p
def minorP (s t : Int × Int) : Int := s.1 * t.2 - s.2 * t.1
def pairsL : List (Int × Int) → List ((Int × Int) × (Int × Int))
  | [] => []
  | s :: r => r.map (fun t => (s, t)) ++ pairsL r
/-- the greatest number that divides all minors -/
structure IdxOk (ms : List (Int × Int)) (D : Int) : Prop where
  b : 0 ≤ D ∧ D ≤ 72
  d : ∀ d : Int, d ∣ D ↔ ∀ s ∈ ms, ∀ t ∈ ms, d ∣ minorP s t
/-- the spots of the square that steps reach, going round -/
inductive RingP (ms : List (Int × Int)) (D : Int) : Int × Int → Prop
  | zero : RingP ms D (0, 0)
  | step {p s : Int × Int} : RingP ms D p → s ∈ ms → RingP ms D ((p.1 + s.1).fmod D, (p.2 + s.2).fmod D)
open Classical in
noncomputable def latB (ms : List (Int × Int)) (p : Int × Int) : Bool := decide (Lat ms p)
/-- the steps of one line: the least part of it -/
structure UnitOk (ms : List (Int × Int)) (u : Int × Int) : Prop where
  x : 0 ≤ u.1 ∧ u.1 ≤ 6
  y : u.2.natAbs ≤ 6
  up : u.1 = 0 → 1 ≤ u.2
  la : ∀ p, Lat ms p ↔ ∃ t : Int, p.1 = t * u.1 ∧ p.2 = t * u.2
/-- what the law knows of the steps -/
structure Known (ms : List (Int × Int)) (D : Int) (F : List (Int × Int)) (e : LD.D) (u : Int × Int) : Prop where
  b : 0 ≤ D ∧ D ≤ 72
  pos : 1 ≤ D → e = .dT (dictD F) ∧ F.Nodup ∧ (∀ p, Lat ms p ↔ (p.1.fmod D, p.2.fmod D) ∈ F)
  ix : IdxOk ms D
  zer : D = 0 → UnitOk ms u
def sumF : Nat → (Nat → Int) → Int
  | 0, _ => 0
  | n + 1, f => sumF n f + f n
def nB (b : Bool) : Int := if b then 1 else 0
noncomputable def cntL (ms : List (Int × Int)) (x y r c : Int) : Int := (((spotsL r c).filter fun q => latB ms (q.1 - x, q.2 - y)).length : Int)
noncomputable def cntS (ms : List (Int × Int)) (x y : Int) (R C : Nat) : Int := sumF R fun i => sumF C fun j => nB (latB ms ((i : Int) - x, (j : Int) - y))
def cntB (r c : Int) (P : Int × Int → Bool) : Int := (((spotsL r c).filter P).length : Int)
def earlyS (A B r c t : Int) : Int := cntB r c fun p => decide (A * p.1 + B * p.2 < t)
def lowT (a b r c : Int) : Int := minI 0 (a * (r - 1)) + minI 0 (b * (c - 1))
def topT (a b r c : Int) : Int := maxI 0 (a * (r - 1)) + maxI 0 (b * (c - 1))
def sizeT (a b r c t : Int) : Int := cntB r c fun p => decide (a * p.1 + b * p.2 = t)
def ltB (p q : Int × Int) : Bool := decide (p.1 < q.1) || (decide (p.1 = q.1) && decide (p.2 < q.2))
def turnS (a b r c x y : Int) : Int := cntB r c fun p => decide (a * p.1 + b * p.2 = a * x + b * y) && ltB p (x, y)
def idxS (a b r c x y : Int) : Int := earlyS a b r c (a * x + b * y) + turnS a b r c x y
def WideP (a b r c W : Int) : Prop := 1 ≤ W ∧ (∀ t, sizeT a b r c t ≤ W) ∧ ∃ t, (lowT a b r c ≤ t ∧ t ≤ topT a b r c) ∧ sizeT a b r c t = W
def MoveP (a b u v : Int) : Prop := a * u + b * v = 0 ∧ (0 < u ∨ (u = 0 ∧ v = 1)) ∧ (u.natAbs ≤ b.natAbs + 1 ∧ v.natAbs ≤ a.natAbs + 1) ∧ ∀ x y : Int, a * x + b * y = 0 → ∃ k : Int, x = k * u ∧ y = k * v
def StepsW (u v r c m : Int) : Prop := 0 ≤ m ∧ m ≤ r + c ∧ ∀ k : Int, 0 ≤ k → (k ≤ m ↔ k * u ≤ r - 1 ∧ k * absI v ≤ c - 1)
def EvP (a b : Int) (F : List (Int × Int)) (es : List (Key × D)) : Prop := ∀ e ∈ es, ∃ m : Int, e.1 = .inl m ∧ e.2 = .lst ((F.filter (timB a b m)).map prD)
theorem okD_i {x : Int} : okD (.int x) = true := rfl
theorem okE_p {x y : Int} : okE (.tup [.int x, .int y]) = true := rfl
theorem intD_i {x : Int} : intD (.int x) = true := rfl
theorem rngD_i {x lo hi : Int} : rngD (.int x) lo hi = (decide (lo ≤ x) && decide (x ≤ hi)) := rfl
theorem pairD_p {x y : Int} : pairD (.tup [.int x, .int y]) = true := rfl
theorem vecD_p {x y : Int} : vecD (.tup [.int x, .int y]) = !(decide (x = 0) && decide (y = 0)) := rfl
def most : Nat := 63
def S_is_integer : DSp := fun n ds Q => match ds with
  | [d, .non, .non] => okD d = true ∧ Q (.dat (.bl (intD d))) n
  | [d, .int lo, .int hi] => okD d = true ∧ Q (.dat (.bl (rngD d lo hi))) n
  | [d, .int lo, .non] => okD d = true ∧ Q (.dat (.bl (intD d && (match d with | .int v => decide (lo ≤ v) | _ => false)))) n
  | _ => False
def S_is_pair : DSp := fun n ds Q => match ds with
  | [d] => okE d = true ∧ Q (.dat (.bl (pairD d))) n
  | _ => False
def S__law_draw : DSp := fun n ds Q => match ds with
  | [.src, .int m] => 1 ≤ m ∧ m.natAbs < 10 ^ 300 ∧ n < 10 ^ 18 ∧ ∀ (i : Int) (j : Nat), 0 ≤ i → i < m → n ≤ j → j ≤ n + 1 → Q (.dat (.int i)) j
  | _ => False
def S__law_source : DSp := fun n ds Q => match ds with
  | [.int _, .int k] => 0 ≤ k ∧ k < 1000 ∧ Q (.dat .src) n
  | _ => False
def S_need_size : DSp := fun n ds Q => match ds with
  | [.int a] => (1 ≤ a ∧ a ≤ 999999999999999999999999999999) ∧ Q (.dat .non) n
  | _ => False
def S_need_box : DSp := fun n ds Q => match ds with
  | [.int a, .int b] => (1 ≤ a ∧ a ≤ 999999999999999999999999999999) ∧ (1 ≤ b ∧ b ≤ 999999999999999999999999999999) ∧ Q (.dat .non) n
  | _ => False
def S__law_spots : DSp := fun n ds Q => match ds with
  | [.int h, .int w] => 0 ≤ h ∧ 1 ≤ w ∧ h ≤ 1000 ∧ w ≤ 1000 ∧ h * w ≤ 10000 ∧ Q (.new (.lst (spotsD h w))) n
  | _ => False
def S_need_number : DSp := fun n ds Q => match ds with
  | [.int v, .int lo, .int hi] => (lo ≤ v ∧ v ≤ hi) ∧ Q (.dat .non) n
  | [.int v, .non, .non] => Q (.dat .non) n
  | _ => False
def S_is_line : DSp := fun n ds Q => match ds with
  | [d] => okE d = true ∧ Q (.dat (.bl (vecD d))) n
  | _ => False
def S_need_line : DSp := fun n ds Q => match ds with
  | [d] => okE d = true ∧ vecD d = true ∧ Q (.dat .non) n
  | _ => False
def S_need_waves : DSp := fun n ds Q => match ds with
  | [d, .int R, .int C] => (okE d = true ∧ vecD d = true) ∧ sizeW R ∧ sizeW C ∧ Q (.dat .non) n
  | _ => False
def S_divisor : DSp := fun n ds Q => match ds with
  | [.int a, .int b] => a.natAbs < 10 ^ 100 ∧ b.natAbs < 10 ^ 100 ∧ Q (.dat (.int (Int.gcd a b))) n
  | _ => False
def S_inverse_of : DSp := fun n ds Q => match ds with
  | [.int v, .int m] => (1 ≤ m ∧ m.natAbs < 10 ^ 100) ∧ v.natAbs < 10 ^ 100 ∧ Int.gcd v m = 1 ∧ ∀ x : Int, 0 ≤ x → x < m → (∃ k, v * x = 1 + k * m) → Q (.dat (.int x)) n
  | _ => False
def S_turns_within : DSp := fun n ds Q => match ds with
  | [.int s, .int m, .int z] => m ≠ 0 ∧ m.natAbs < 10 ^ 100 ∧ ∀ lo hi : Int, (lo.natAbs ≤ s.natAbs + z.natAbs + 1 ∧ hi.natAbs ≤ s.natAbs + z.natAbs + 1) → (∀ k : Int, lo ≤ k ∧ k ≤ hi ↔ 0 ≤ s + k * m ∧ s + k * m < z) → Q (.dat (.tup [.int lo, .int hi])) n
  | _ => False
def S_wave_line : DSp := fun n ds Q => match ds with
  | [.tup [.int a, .int b], .int r, .int c, .int t] => ¬ (a = 0 ∧ b = 0) ∧ (a.natAbs < 10 ^ 40 ∧ b.natAbs < 10 ^ 40 ∧ t.natAbs < 10 ^ 60) ∧ sizeW r ∧ sizeW c ∧ ∀ x y u v k : Int, LineP a b r c t x y u v k → Q (.dat (.tup [.tup [.int x, .int y], .tup [.int u, .int v], .int k])) n
  | _ => False
def S_wave_size : DSp := fun n ds Q => match ds with
  | [.tup [.int a, .int b], .int r, .int c, .int t] => ¬ (a = 0 ∧ b = 0) ∧ (a.natAbs < 10 ^ 40 ∧ b.natAbs < 10 ^ 40 ∧ t.natAbs < 10 ^ 60) ∧ sizeW r ∧ sizeW c ∧ ∀ x y u v k : Int, LineP a b r c t x y u v k → Q (.dat (.int k)) n
  | _ => False
def S__law_pair : DSp := fun n ds Q => match ds with
  | [.src, .int f] => (1 ≤ f ∧ f < 10 ^ 40) ∧ n + 3 ≤ 10 ^ 18 ∧ ∀ (a b : Int) (j : Nat), ¬ (a = 0 ∧ b = 0) → (-f ≤ a ∧ a ≤ f) → (-f ≤ b ∧ b ≤ f) → n ≤ j → j ≤ n + 3 → Q (.dat (.tup [.int a, .int b])) j
  | _ => False
def S__law_divisor : DSp := fun n ds Q => match ds with
  | [.int a, .int b] => a.natAbs < 10 ^ 100 ∧ b.natAbs < 10 ^ 100 ∧ Q (.dat (.int (Int.gcd a b))) n
  | _ => False
def S_widest_wave : DSp := fun n ds Q => match ds with
  | [.tup [.int a, .int b], .int r, .int c] => ¬ (a = 0 ∧ b = 0) ∧ (a.natAbs < 10 ^ 40 ∧ b.natAbs < 10 ^ 40) ∧ sizeW r ∧ sizeW c ∧ ∀ W : Int, WideP a b r c W → Q (.dat (.int W)) n
  | _ => False
def S__law_turn : DSp := fun n ds Q => match ds with
  | [.tup [.int a, .int b]] => ¬ (a = 0 ∧ b = 0) ∧ (a.natAbs < 10 ^ 100 ∧ b.natAbs < 10 ^ 100) ∧ ∀ u v : Int, MoveP a b u v → Q (.dat (.tup [.int u, .int v])) n
  | _ => False
def S__law_times : DSp := fun n ds Q => match ds with
  | [.tup [.int x, .int y], .tup [.int u, .int v], .int r, .int c] => (0 < u ∨ (u = 0 ∧ v = 1)) ∧ (u.natAbs < 10 ^ 100 ∧ v.natAbs < 10 ^ 100) ∧ sizeW r ∧ sizeW c ∧ x = 0 ∧ ((y = 0 ∧ 0 ≤ v) ∨ (y = c - 1 ∧ v < 0)) ∧ ∀ m : Int, StepsW u v r c m → Q (.dat (.int m)) n
  | _ => False
def S__law_far_right : DSp := fun n ds Q => match ds with
  | [.src] => n + 30 ≤ 10 ^ 18 ∧ ∀ j : Nat, n ≤ j → j ≤ n + 30 → Q (.dat (.bl true)) j
  | _ => False
def S__law_right : DSp := fun n ds Q => match ds with
  | [.src] => n + 20 ≤ 10 ^ 18 ∧ ∀ j : Nat, n ≤ j → j ≤ n + 20 → Q (.dat (.bl true)) j
  | _ => False
def S__law_waves : DSp := fun n ds Q => match ds with
  | [.tup [.int a, .int b], .int h, .int w] => (1 ≤ h ∧ h ≤ 10) ∧ (1 ≤ w ∧ w ≤ 10) ∧ (a.natAbs ≤ 1000 ∧ b.natAbs ≤ 1000) ∧ ∀ es : List (Key × D), WvP a b (spotsL h w) es → EvP a b (spotsL h w) es → es.length ≤ 100 → Q (.new (.dK es)) n
  | _ => False
def S_law : DSp := lawS most

def t__law_source : DS := dSeq (dAsg (dUn dAbs (dVar 0)) (dgName 2))
    (dRet (dSrcE (dLst (dCons (dBn dMax2 (dCons (dC (.int 0)) (dCons (dBin dSub (dVar 2) (dBin dPow (dC (.int 10)) (dC (.int 18)))) (dNil)))) (dCons (dBin dAdd (dBin dAdd (dBin dMul (dBin dMod (dUn dInt (dVar 2)) (dBin dAdd (dBin dPow (dC (.int 10)) (dC (.int 41))) (dC (.int 81)))) (dC (.int 97))) (dBin dMul (dC (.int 2)) (dVar 1))) (dUn dInt (dBin dLt (dVar 0) (dC (.int 0))))) (dCons (dC (.int 0)) (dNil)))))))
def t__law_draw : DS := dSeq (dIfS (dTst (dBin dGt (dSrcIx 0 0) (dC (.int 0)))) (dSeq (dAsg (dBin dMod (dUn dInt (dSrcIx 0 0)) (dVar 1)) (dgName 3))
    (dSeq (dSrcSet 0 0 (dBin dFdv (dSrcIx 0 0) (dVar 1)))
    (dRet (dVar 3)))) (dNext))
    (dSeq (dSrcSet 0 2 (dBin dAdd (dSrcIx 0 2) (dC (.int 1))))
    (dSeq (dAsg (dBin dMod (dUn dInt (dBin dPow (dBin dAdd (dSrcIx 0 1) (dBin dMul (dC (.int 900007)) (dSrcIx 0 2))) (dC (.int 3)))) (dBin dAdd (dBin dPow (dC (.int 10)) (dC (.int 37))) (dC (.int 43)))) (dgName 2))
    (dSeq (dAsg (dBin dMod (dUn dInt (dBin dPow (dBin dAdd (dBin dMul (dVar 2) (dSrcIx 0 2)) (dC (.int 80021))) (dC (.int 3)))) (dBin dAdd (dBin dPow (dC (.int 10)) (dC (.int 39))) (dC (.int 3)))) (dgName 2))
    (dRet (dBin dMod (dUn dInt (dBin dFdv (dVar 2) (dC (.int 65539)))) (dVar 1))))))
def t__law_pair : DS := dSeq (dAsg (dTup (dCons (dBin dSub (dCall 2 0 S__law_draw (fun ds _ => ds) (dCons (dVar 0) (dCons (dBin dAdd (dBin dMul (dC (.int 2)) (dVar 1)) (dC (.int 1))) (dNil))) dNil) (dVar 1)) (dCons (dBin dSub (dCall 2 0 S__law_draw (fun ds _ => ds) (dCons (dVar 0) (dCons (dBin dAdd (dBin dMul (dC (.int 2)) (dVar 1)) (dC (.int 1))) (dNil))) dNil) (dVar 1)) (dNil)))) (dgName 2))
    (dRet (dIf (dTst (dBin dNe (dVar 2) (dTup (dCons (dC (.int 0)) (dCons (dC (.int 0)) (dNil)))))) (dVar 2) (dBin dIx (dLst (dCons (dTup (dCons (dC (.int 0)) (dCons (dC (.int 1)) (dNil)))) (dCons (dTup (dCons (dC (.int 1)) (dCons (dC (.int 0)) (dNil)))) (dCons (dTup (dCons (dUn dNeg (dC (.int 1))) (dCons (dC (.int 0)) (dNil)))) (dCons (dTup (dCons (dC (.int 0)) (dCons (dUn dNeg (dC (.int 1))) (dNil)))) (dNil)))))) (dCall 2 0 S__law_draw (fun ds _ => ds) (dCons (dVar 0) (dCons (dC (.int 4)) (dNil))) dNil))))
def t__law_spots : DS := dRet (dLc [2] (dRng1 (dCons (dBin dMul (dVar 0) (dVar 1)) (dNil))) (dgName 2) (dYes) (dTup (dCons (dBin dFdv (dVar 2) (dVar 1)) (dCons (dBin dMod (dUn dInt (dVar 2)) (dVar 1)) (dNil)))))
def t__law_waves : DS := dSeq (dAsg (dDnK) (dgName 3))
    (dSeq (dFor (dWalk (dCall 2 0 S__law_spots (fun ds _ => ds) (dCons (dVar 1) (dCons (dVar 2) (dNil))) dNil)) (dgName 4) (dSeq (dAsg (dBin dAdd (dBin dMul (dBin dIx (dVar 0) (dC (.int 0))) (dBin dIx (dVar 4) (dC (.int 0)))) (dBin dMul (dBin dIx (dVar 0) (dC (.int 1))) (dBin dIx (dVar 4) (dC (.int 1))))) (dgName 5))
    (dSeq (dAsg (dGetN 3 (dVar 5) (dLst (dNil))) (dgName 6))
    (dPut 3 (dBin dAdd (dVar 6) (dLst (dCons (dVar 4) (dNil)))) (dVar 5)))))
    (dRet (dVar 3)))
def t_is_integer : DS := dSeq (dIfS (dOrT (dNotT (dTst (dBn dIsi (dCons (dVar 0) (dCons (dC (.ty "int")) (dNil)))))) (dTst (dBn dIsi (dCons (dVar 0) (dCons (dC (.ty "bool")) (dNil)))))) (dRet (dC (.bl false))) (dNext))
    (dRet (dAndV (dOrV (dBin dIs (dVar 1) (dC (.non))) (dBin dGe (dVar 0) (dVar 1))) (dOrV (dBin dIs (dVar 2) (dC (.non))) (dBin dLe (dVar 0) (dVar 2)))))
def t_is_pair : DS := dRet (dAndV (dBn dIsi (dCons (dVar 0) (dCons (dC (.ty "tuple")) (dNil)))) (dAndV (dBin dEq (dUn dLen (dVar 0)) (dC (.int 2))) (dUn dAll (dLc [1] (dWalk (dVar 0)) (dgName 1) (dYes) (dCall 1 0 S_is_integer (fun ds es => sel [0, 1, 2] (ds ++ es ++ dd_is_integer)) (dCons (dVar 1) (dNil)) dNil)))))
def t_is_line : DS := dRet (dAndV (dCall 1 0 S_is_pair (fun ds _ => ds) (dCons (dVar 0) (dNil)) dNil) (dBin dNe (dVar 0) (dTup (dCons (dC (.int 0)) (dCons (dC (.int 0)) (dNil))))))
def t_need_line : DS := dIfS (dNotT (dTst (dCall 1 0 S_is_line (fun ds _ => ds) (dCons (dVar 0) (dNil)) dNil))) (dNever) (dNext)
def t_need_size : DS := dIfS (dNotT (dTst (dCall 3 0 S_is_integer (fun ds es => sel [0, 1, 2] (ds ++ es ++ dd_is_integer)) (dCons (dVar 0) (dCons (dC (.int 1)) (dCons (dC (.int 999999999999999999999999999999)) (dNil)))) dNil))) (dNever) (dNext)
def t_need_box : DS := dSeq (dDrop (dCall 1 0 S_need_size (fun ds _ => ds) (dCons (dVar 0) (dNil)) dNil))
    (dDrop (dCall 1 0 S_need_size (fun ds _ => ds) (dCons (dVar 1) (dNil)) dNil))
def t_need_waves : DS := dSeq (dDrop (dCall 1 0 S_need_line (fun ds _ => ds) (dCons (dVar 0) (dNil)) dNil))
    (dDrop (dCall 2 0 S_need_box (fun ds _ => ds) (dCons (dVar 1) (dCons (dVar 2) (dNil))) dNil))
def t_divisor : DS := dSeq (dWhile (dTst (dBin dNe (dVar 1) (dC (.int 0)))) (dPar2 0 1 (dVar 1) (dBin dMod (dVar 0) (dVar 1))))
    (dRet (dUn dAbs (dVar 0)))
def t_widest_wave : DS := dSeq (dDrop (dCall 3 0 S_need_waves (fun ds _ => ds) (dCons (dVar 0) (dCons (dVar 1) (dCons (dVar 2) (dNil)))) dNil))
    (dSeq (dAsg (dVar 0) (dgTup 2 (dgCons (dgName 4) (dgCons (dgName 5) (dgNil)))))
    (dSeq (dIfS (dOrT (dTst (dBin dEq (dVar 4) (dC (.int 0)))) (dTst (dBin dEq (dVar 5) (dC (.int 0))))) (dRet (dIf (dTst (dBin dEq (dVar 4) (dC (.int 0)))) (dVar 1) (dVar 2))) (dNext))
    (dSeq (dAsg (dCall 2 0 S_divisor (fun ds _ => ds) (dCons (dVar 4) (dCons (dVar 5) (dNil))) dNil) (dgName 3))
    (dRet (dBn dMin2 (dCons (dUn dNeg (dBin dFdv (dUn dNeg (dVar 1)) (dBin dFdv (dUn dAbs (dVar 5)) (dVar 3)))) (dCons (dUn dNeg (dBin dFdv (dUn dNeg (dVar 2)) (dBin dFdv (dUn dAbs (dVar 4)) (dVar 3)))) (dNil))))))))
def t__law_right : DS := dSeq (dAsg (dLc [6] (dRng1 (dCons (dC (.int 2)) (dNil))) (dgName 6) (dYes) (dBin dAdd (dC (.int 1)) (dCall 2 0 S__law_draw (fun ds _ => ds) (dCons (dVar 0) (dCons (dBin dIx (dLst (dCons (dC (.int 3)) (dCons (dC (.int 9)) (dNil)))) (dCall 2 0 S__law_draw (fun ds _ => ds) (dCons (dVar 0) (dCons (dC (.int 2)) (dNil))) dNil)) (dNil))) dNil))) (dgUnl 2 (dgCons (dgName 3) (dgCons (dgName 4) (dgNil)))))
    (dSeq (dPar2 1 5 (dCall 2 0 S__law_pair (fun ds _ => ds) (dCons (dVar 0) (dCons (dBin dIx (dLst (dCons (dC (.int 2)) (dCons (dC (.int 7)) (dNil)))) (dCall 2 0 S__law_draw (fun ds _ => ds) (dCons (dVar 0) (dCons (dC (.int 2)) (dNil))) dNil)) (dNil))) dNil) (dBin dIx (dLst (dCons (dC (.int 1)) (dCons (dC (.int 1)) (dCons (dC (.int 4)) (dNil))))) (dCall 2 0 S__law_draw (fun ds _ => ds) (dCons (dVar 0) (dCons (dC (.int 3)) (dNil))) dNil)))
    (dSeq (dAsg (dTup (dCons (dBin dMul (dBin dIx (dVar 1) (dC (.int 0))) (dVar 5)) (dCons (dBin dMul (dBin dIx (dVar 1) (dC (.int 1))) (dVar 5)) (dNil)))) (dgName 1))
    (dSeq (dAsg (dUn dMaxL (dLc [7] (dValsN (dCall 3 0 S__law_waves (fun ds _ => ds) (dCons (dVar 1) (dCons (dVar 3) (dCons (dVar 4) (dNil)))) dNil)) (dgName 7) (dYes) (dUn dLen (dVar 7)))) (dgName 2))
    (dSeq (dIfS (dTst (dBin dNe (dUn dRepr (dCall 3 0 S_widest_wave (fun ds _ => ds) (dCons (dVar 1) (dCons (dVar 3) (dCons (dVar 4) (dNil)))) dNil)) (dUn dRepr (dVar 2)))) (dRet (dC (.bl false))) (dNext))
    (dRet (dBin dEq (dCall 0 3 S_widest_wave (fun ds es => sel [0, 1, 2] (ds ++ es)) dNil (dCons (dTup (dCons (dBin dSub (dC (.int 0)) (dBin dIx (dVar 1) (dC (.int 0)))) (dCons (dBin dSub (dC (.int 0)) (dBin dIx (dVar 1) (dC (.int 1)))) (dNil)))) (dCons (dVar 3) (dCons (dVar 4) (dNil))))) (dVar 2)))))))
def t__law_divisor : DS := dSeq (dWhile (dTst (dBin dNe (dVar 1) (dC (.int 0)))) (dPar2 0 1 (dVar 1) (dBin dMod (dUn dInt (dVar 0)) (dVar 1))))
    (dRet (dUn dAbs (dVar 0)))
def t__law_turn : DS := dSeq (dAsg (dVar 0) (dgTup 2 (dgCons (dgName 2) (dgCons (dgName 3) (dgNil)))))
    (dSeq (dAsg (dCall 2 0 S__law_divisor (fun ds _ => ds) (dCons (dVar 2) (dCons (dVar 3) (dNil))) dNil) (dgName 1))
    (dSeq (dIfS (dTst (dBin dEq (dVar 3) (dC (.int 0)))) (dRet (dTup (dCons (dC (.int 0)) (dCons (dC (.int 1)) (dNil))))) (dNext))
    (dRet (dIf (dTst (dBin dGt (dVar 3) (dC (.int 0)))) (dTup (dCons (dBin dFdv (dVar 3) (dVar 1)) (dCons (dBin dSub (dC (.int 0)) (dBin dFdv (dVar 2) (dVar 1))) (dNil)))) (dTup (dCons (dBin dSub (dC (.int 0)) (dBin dFdv (dVar 3) (dVar 1))) (dCons (dBin dFdv (dVar 2) (dVar 1)) (dNil))))))))
def t__law_times : DS := dSeq (dAsg (dLst (dNil)) (dgName 4))
    (dSeq (dFor (dWalk (dTup (dCons (dTup (dCons (dBin dIx (dVar 0) (dC (.int 0))) (dCons (dBin dIx (dVar 1) (dC (.int 0))) (dCons (dVar 2) (dNil))))) (dCons (dTup (dCons (dBin dIx (dVar 0) (dC (.int 1))) (dCons (dBin dIx (dVar 1) (dC (.int 1))) (dCons (dVar 3) (dNil))))) (dNil))))) (dgTup 3 (dgCons (dgName 5) (dgCons (dgName 6) (dgCons (dgName 7) (dgNil))))) (dIfS (dTst (dBin dNe (dVar 6) (dC (.int 0)))) (dDrop (dOwnL 4 mApp (dCons (dIf (dTst (dBin dGt (dVar 6) (dC (.int 0)))) (dBin dFdv (dBin dSub (dBin dSub (dVar 7) (dC (.int 1))) (dVar 5)) (dVar 6)) (dBin dFdv (dVar 5) (dUn dAbs (dVar 6)))) (dNil)))) (dNext)))
    (dRet (dUn dMinL (dVar 4))))
def t_need_number : DS := dIfS (dNotT (dTst (dCall 3 0 S_is_integer (fun ds es => sel [0, 1, 2] (ds ++ es ++ dd_is_integer)) (dCons (dVar 0) (dCons (dVar 1) (dCons (dVar 2) (dNil)))) dNil))) (dNever) (dNext)
def t_inverse_of : DS := dSeq (dAsg (dTup (dCons (dVar 1) (dCons (dBin dMod (dVar 0) (dVar 1)) (dCons (dC (.int 0)) (dCons (dC (.int 1)) (dNil)))))) (dgTup 4 (dgCons (dgName 2) (dgCons (dgName 3) (dgCons (dgName 4) (dgCons (dgName 5) (dgNil)))))))
    (dSeq (dWhile (dTst (dBin dGt (dVar 3) (dC (.int 0)))) (dSeq (dAsg (dBin dFdv (dVar 2) (dVar 3)) (dgName 6))
    (dAsg (dTup (dCons (dVar 3) (dCons (dBin dSub (dVar 2) (dBin dMul (dVar 6) (dVar 3))) (dCons (dVar 5) (dCons (dBin dSub (dVar 4) (dBin dMul (dVar 6) (dVar 5))) (dNil)))))) (dgTup 4 (dgCons (dgName 2) (dgCons (dgName 3) (dgCons (dgName 4) (dgCons (dgName 5) (dgNil)))))))))
    (dRet (dBin dMod (dVar 4) (dVar 1))))
def t_turns_within : DS := dSeq (dIfS (dTst (dBin dEq (dVar 1) (dC (.int 0)))) (dRet (dIf (dTst (dChn dLe dLt (dC (.int 0)) (dVar 0) (dVar 2))) (dC (.non)) (dTup (dCons (dC (.int 0)) (dCons (dUn dNeg (dC (.int 1))) (dNil)))))) (dNext))
    (dSeq (dIfS (dTst (dBin dLt (dVar 1) (dC (.int 0)))) (dPar2 0 1 (dBin dSub (dBin dSub (dVar 2) (dC (.int 1))) (dVar 0)) (dUn dNeg (dVar 1))) (dNext))
    (dRet (dTup (dCons (dUn dNeg (dBin dFdv (dVar 0) (dVar 1))) (dCons (dBin dFdv (dBin dSub (dBin dSub (dVar 2) (dC (.int 1))) (dVar 0)) (dVar 1)) (dNil))))))
def t_wave_line : DS := dSeq (dAsg (dVar 0) (dgTup 2 (dgCons (dgName 9) (dgCons (dgName 10) (dgNil)))))
    (dSeq (dIfS (dTst (dBin dEq (dVar 10) (dC (.int 0)))) (dSeq (dAsg (dBn dDivmodF (dCons (dVar 3) (dCons (dVar 9) (dNil)))) (dgTup 2 (dgCons (dgName 6) (dgCons (dgName 13) (dgNil)))))
    (dRet (dTup (dCons (dTup (dCons (dVar 6) (dCons (dC (.int 0)) (dNil)))) (dCons (dTup (dCons (dC (.int 0)) (dCons (dC (.int 1)) (dNil)))) (dCons (dIf (dAndT (dTst (dBin dEq (dVar 13) (dC (.int 0)))) (dTst (dChn dLe dLt (dC (.int 0)) (dVar 6) (dVar 1)))) (dVar 2) (dC (.int 0))) (dNil))))))) (dNext))
    (dSeq (dIfS (dTst (dBin dEq (dVar 9) (dC (.int 0)))) (dSeq (dAsg (dBn dDivmodF (dCons (dVar 3) (dCons (dVar 10) (dNil)))) (dgTup 2 (dgCons (dgName 7) (dgCons (dgName 13) (dgNil)))))
    (dRet (dTup (dCons (dTup (dCons (dC (.int 0)) (dCons (dVar 7) (dNil)))) (dCons (dTup (dCons (dC (.int 1)) (dCons (dC (.int 0)) (dNil)))) (dCons (dIf (dAndT (dTst (dBin dEq (dVar 13) (dC (.int 0)))) (dTst (dChn dLe dLt (dC (.int 0)) (dVar 7) (dVar 2)))) (dVar 1) (dC (.int 0))) (dNil))))))) (dNext))
    (dSeq (dAsg (dCall 2 0 S_divisor (fun ds _ => ds) (dCons (dVar 9) (dCons (dVar 10) (dNil))) dNil) (dgName 4))
    (dSeq (dIfS (dTst (dBin dNe (dBin dMod (dVar 3) (dVar 4)) (dC (.int 0)))) (dRet (dTup (dCons (dTup (dCons (dC (.int 0)) (dCons (dC (.int 0)) (dNil)))) (dCons (dTup (dCons (dC (.int 1)) (dCons (dC (.int 0)) (dNil)))) (dCons (dC (.int 0)) (dNil)))))) (dNext))
    (dSeq (dPar3 9 10 3 (dBin dFdv (dVar 9) (dVar 4)) (dBin dFdv (dVar 10) (dVar 4)) (dBin dFdv (dVar 3) (dVar 4)))
    (dSeq (dAsg (dTup (dCons (dUn dAbs (dVar 10)) (dCons (dIf (dTst (dBin dGt (dVar 10) (dC (.int 0)))) (dUn dNeg (dVar 9)) (dVar 9)) (dNil)))) (dgName 5))
    (dSeq (dAsg (dBin dMod (dBin dMul (dVar 3) (dCall 2 0 S_inverse_of (fun ds _ => ds) (dCons (dVar 9) (dCons (dUn dAbs (dVar 10)) (dNil))) dNil)) (dUn dAbs (dVar 10))) (dgName 6))
    (dSeq (dAsg (dBin dFdv (dBin dSub (dVar 3) (dBin dMul (dVar 9) (dVar 6))) (dVar 10)) (dgName 7))
    (dSeq (dAsg (dLst (dCons (dCall 3 0 S_turns_within (fun ds _ => ds) (dCons (dVar 6) (dCons (dBin dIx (dVar 5) (dC (.int 0))) (dCons (dVar 1) (dNil)))) dNil) (dCons (dCall 3 0 S_turns_within (fun ds _ => ds) (dCons (dVar 7) (dCons (dBin dIx (dVar 5) (dC (.int 1))) (dCons (dVar 2) (dNil)))) dNil) (dNil)))) (dgName 8))
    (dSeq (dPar2 11 12 (dUn dMaxL (dLc [14] (dWalk (dVar 8)) (dgName 14) (dYes) (dBin dIx (dVar 14) (dC (.int 0))))) (dUn dMinL (dLc [14] (dWalk (dVar 8)) (dgName 14) (dYes) (dBin dIx (dVar 14) (dC (.int 1))))))
    (dRet (dTup (dCons (dTup (dCons (dBin dAdd (dVar 6) (dBin dMul (dVar 11) (dBin dIx (dVar 5) (dC (.int 0))))) (dCons (dBin dAdd (dVar 7) (dBin dMul (dVar 11) (dBin dIx (dVar 5) (dC (.int 1))))) (dNil)))) (dCons (dVar 5) (dCons (dBn dMax2 (dCons (dC (.int 0)) (dCons (dBin dAdd (dBin dSub (dVar 12) (dVar 11)) (dC (.int 1))) (dNil)))) (dNil))))))))))))))))
def t_wave_size : DS := dSeq (dDrop (dCall 3 0 S_need_waves (fun ds _ => ds) (dCons (dVar 0) (dCons (dVar 1) (dCons (dVar 2) (dNil)))) dNil))
    (dSeq (dDrop (dCall 2 0 S_need_number (fun ds es => sel [0, 1, 3] (ds ++ es ++ dd_need_number)) (dCons (dVar 3) (dCons (dC (.non)) (dNil))) dNil))
    (dRet (dBin dIx (dCall 4 0 S_wave_line (fun ds _ => ds) (dCons (dVar 0) (dCons (dVar 1) (dCons (dVar 2) (dCons (dVar 3) (dNil))))) dNil) (dC (.int 2)))))
def t__law_far_right : DS := dSeq (dAsg (dLc [10] (dRng1 (dCons (dC (.int 2)) (dNil))) (dgName 10) (dYes) (dBin dAdd (dC (.int 1)) (dCall 2 0 S__law_draw (fun ds _ => ds) (dCons (dVar 0) (dCons (dBin dIx (dLst (dCons (dC (.int 30)) (dCons (dBin dSub (dBin dPow (dC (.int 10)) (dC (.int 30))) (dC (.int 1))) (dNil)))) (dCall 2 0 S__law_draw (fun ds _ => ds) (dCons (dVar 0) (dCons (dC (.int 2)) (dNil))) dNil)) (dNil))) dNil))) (dgUnl 2 (dgCons (dgName 6) (dgCons (dgName 7) (dgNil)))))
    (dSeq (dAsg (dCall 2 0 S__law_pair (fun ds _ => ds) (dCons (dVar 0) (dCons (dBin dIx (dLst (dCons (dC (.int 3)) (dCons (dC (.int 50)) (dCons (dBin dPow (dC (.int 10)) (dC (.int 15))) (dCons (dBin dPow (dC (.int 10)) (dC (.int 29))) (dNil)))))) (dCall 2 0 S__law_draw (fun ds _ => ds) (dCons (dVar 0) (dCons (dC (.int 4)) (dNil))) dNil)) (dNil))) dNil) (dgName 1))
    (dSeq (dIfS (dTst (dBin dEq (dCall 2 0 S__law_draw (fun ds _ => ds) (dCons (dVar 0) (dCons (dC (.int 4)) (dNil))) dNil) (dC (.int 0)))) (dSeq (dAsg (dBin dAdd (dC (.int 1)) (dCall 2 0 S__law_draw (fun ds _ => ds) (dCons (dVar 0) (dCons (dBin dPow (dC (.int 10)) (dC (.int 9))) (dNil))) dNil)) (dgName 8))
    (dAsg (dBin dIx (dLst (dCons (dTup (dCons (dC (.int 0)) (dCons (dBin dSub (dC (.int 0)) (dVar 8)) (dNil)))) (dCons (dTup (dCons (dVar 8) (dCons (dC (.int 0)) (dNil)))) (dCons (dTup (dCons (dBin dMul (dC (.int 6)) (dVar 8)) (dCons (dBin dMul (dC (.int 4)) (dVar 8)) (dNil)))) (dCons (dTup (dCons (dVar 8) (dCons (dVar 8) (dNil)))) (dNil)))))) (dCall 2 0 S__law_draw (fun ds _ => ds) (dCons (dVar 0) (dCons (dC (.int 4)) (dNil))) dNil)) (dgName 1))) (dNext))
    (dSeq (dAsg (dCall 1 0 S__law_turn (fun ds _ => ds) (dCons (dVar 1) (dNil)) dNil) (dgName 2))
    (dSeq (dAsg (dIf (dTst (dBin dGe (dBin dIx (dVar 2) (dC (.int 1))) (dC (.int 0)))) (dTup (dCons (dC (.int 0)) (dCons (dC (.int 0)) (dNil)))) (dTup (dCons (dC (.int 0)) (dCons (dBin dSub (dVar 7) (dC (.int 1))) (dNil))))) (dgName 3))
    (dSeq (dAsg (dBin dAdd (dCall 4 0 S__law_times (fun ds _ => ds) (dCons (dVar 3) (dCons (dVar 2) (dCons (dVar 6) (dCons (dVar 7) (dNil))))) dNil) (dC (.int 1))) (dgName 4))
    (dSeq (dIfS (dTst (dBin dNe (dUn dRepr (dCall 3 0 S_widest_wave (fun ds _ => ds) (dCons (dVar 1) (dCons (dVar 6) (dCons (dVar 7) (dNil)))) dNil)) (dUn dRepr (dVar 4)))) (dRet (dC (.bl false))) (dNext))
    (dSeq (dIfS (dTst (dBin dNe (dCall 4 0 S_wave_size (fun ds _ => ds) (dCons (dVar 1) (dCons (dVar 6) (dCons (dVar 7) (dCons (dBin dAdd (dBin dMul (dBin dIx (dVar 1) (dC (.int 0))) (dBin dIx (dVar 3) (dC (.int 0)))) (dBin dMul (dBin dIx (dVar 1) (dC (.int 1))) (dBin dIx (dVar 3) (dC (.int 1))))) (dNil))))) dNil) (dVar 4))) (dRet (dC (.bl false))) (dNext))
    (dSeq (dFor (dRng1 (dCons (dC (.int 4)) (dNil))) (dgName 5) (dSeq (dAsg (dTup (dCons (dCall 2 0 S__law_draw (fun ds _ => ds) (dCons (dVar 0) (dCons (dVar 6) (dNil))) dNil) (dCons (dCall 2 0 S__law_draw (fun ds _ => ds) (dCons (dVar 0) (dCons (dVar 7) (dNil))) dNil) (dNil)))) (dgName 9))
    (dIfS (dTst (dBin dGt (dCall 4 0 S_wave_size (fun ds _ => ds) (dCons (dVar 1) (dCons (dVar 6) (dCons (dVar 7) (dCons (dBin dAdd (dBin dMul (dBin dIx (dVar 1) (dC (.int 0))) (dBin dIx (dVar 9) (dC (.int 0)))) (dBin dMul (dBin dIx (dVar 1) (dC (.int 1))) (dBin dIx (dVar 9) (dC (.int 1))))) (dNil))))) dNil) (dVar 4))) (dRet (dC (.bl false))) (dNext))))
    (dRet (dC (.bl true)))))))))))
def t_law : DS := dSeq (dFor (dEnum (dCons (dBin dAdd (dSl (dVar 0) (dNoP) (dPart (dC (.int 10)))) (dLst (dCons (dC (.int 7)) (dNil)))) (dNil))) (dgTup 2 (dgCons (dgName 2) (dgCons (dgName 3) (dgNil)))) (dSeq (dAsg (dCall 2 0 S__law_source (fun ds _ => ds) (dCons (dVar 3) (dCons (dVar 2) (dNil))) dNil) (dgName 4))
    (dFor (dRng1 (dCons (dC (.int 4)) (dNil))) (dgName 5) (dIfS (dOrT (dNotT (dTst (dCall 1 0 S__law_right (fun ds _ => ds) (dCons (dVar 4) (dNil)) dNil))) (dNotT (dTst (dCall 1 0 S__law_far_right (fun ds _ => ds) (dCons (dVar 4) (dNil)) dNil)))) (dRet (dC (.bl false))) (dNext)))))
    (dSeq (dAsg (dLst (dCons (dCall 3 0 S_widest_wave (fun ds _ => ds) (dCons (dTup (dCons (dC (.int 2)) (dCons (dUn dNeg (dC (.int 1))) (dNil)))) (dCons (dC (.int 3)) (dCons (dC (.int 4)) (dNil)))) dNil) (dCons (dCall 3 0 S_widest_wave (fun ds _ => ds) (dCons (dTup (dCons (dC (.int 4)) (dCons (dC (.int 6)) (dNil)))) (dCons (dC (.int 10)) (dCons (dC (.int 10)) (dNil)))) dNil) (dCons (dCall 3 0 S_widest_wave (fun ds _ => ds) (dCons (dTup (dCons (dC (.int 0)) (dCons (dC (.int 5)) (dNil)))) (dCons (dC (.int 7)) (dCons (dC (.int 9)) (dNil)))) dNil) (dNil))))) (dgName 1))
    (dRet (dBin dEq (dBin dAdd (dVar 1) (dLst (dCons (dCall 3 0 S_widest_wave (fun ds _ => ds) (dCons (dTup (dCons (dUn dNeg (dC (.int 5))) (dCons (dC (.int 0)) (dNil)))) (dCons (dC (.int 7)) (dCons (dC (.int 9)) (dNil)))) dNil) (dNil)))) (dLst (dCons (dC (.int 2)) (dCons (dC (.int 4)) (dCons (dC (.int 7)) (dCons (dC (.int 9)) (dNil)))))))))
theorem u_is_integer_0 {n : Nat} {Q : SV → Nat → Prop} {d : D} : S_is_integer n [d, .non, .non] Q = (okD d = true ∧ Q (.dat (.bl (intD d))) n) := rfl
theorem u_is_integer_1 {n : Nat} {Q : SV → Nat → Prop} {lo : Int} {hi : Int} {d : D} : S_is_integer n [d, .int lo, .int hi] Q = (okD d = true ∧ Q (.dat (.bl (rngD d lo hi))) n) := rfl
theorem u_is_integer_2 {n : Nat} {Q : SV → Nat → Prop} {lo : Int} {d : D} : S_is_integer n [d, .int lo, .non] Q = (okD d = true ∧ Q (.dat (.bl (intD d && (match d with | .int v => decide (lo ≤ v) | _ => false)))) n) := rfl
theorem u_is_pair_0 {n : Nat} {Q : SV → Nat → Prop} {d : D} : S_is_pair n [d] Q = (okE d = true ∧ Q (.dat (.bl (pairD d))) n) := rfl
theorem u__law_draw_0 {n : Nat} {Q : SV → Nat → Prop} {m : Int} : S__law_draw n [.src, .int m] Q = (1 ≤ m ∧ m.natAbs < 10 ^ 300 ∧ n < 10 ^ 18 ∧ ∀ (i : Int) (j : Nat), 0 ≤ i → i < m → n ≤ j → j ≤ n + 1 → Q (.dat (.int i)) j) := rfl
theorem u__law_source_0 {n : Nat} {Q : SV → Nat → Prop} {w1_ : Int} {k : Int} : S__law_source n [.int w1_, .int k] Q = (0 ≤ k ∧ k < 1000 ∧ Q (.dat .src) n) := rfl
theorem u_need_size_0 {n : Nat} {Q : SV → Nat → Prop} {a : Int} : S_need_size n [.int a] Q = ((1 ≤ a ∧ a ≤ 999999999999999999999999999999) ∧ Q (.dat .non) n) := rfl
theorem u_need_box_0 {n : Nat} {Q : SV → Nat → Prop} {a : Int} {b : Int} : S_need_box n [.int a, .int b] Q = ((1 ≤ a ∧ a ≤ 999999999999999999999999999999) ∧ (1 ≤ b ∧ b ≤ 999999999999999999999999999999) ∧ Q (.dat .non) n) := rfl
theorem u__law_spots_0 {n : Nat} {Q : SV → Nat → Prop} {h : Int} {w : Int} : S__law_spots n [.int h, .int w] Q = (0 ≤ h ∧ 1 ≤ w ∧ h ≤ 1000 ∧ w ≤ 1000 ∧ h * w ≤ 10000 ∧ Q (.new (.lst (spotsD h w))) n) := rfl
theorem u_need_number_0 {n : Nat} {Q : SV → Nat → Prop} {v : Int} {lo : Int} {hi : Int} : S_need_number n [.int v, .int lo, .int hi] Q = ((lo ≤ v ∧ v ≤ hi) ∧ Q (.dat .non) n) := rfl
theorem u_need_number_1 {n : Nat} {Q : SV → Nat → Prop} {v : Int} : S_need_number n [.int v, .non, .non] Q = (Q (.dat .non) n) := rfl
theorem u_is_line_0 {n : Nat} {Q : SV → Nat → Prop} {d : D} : S_is_line n [d] Q = (okE d = true ∧ Q (.dat (.bl (vecD d))) n) := rfl
theorem u_need_line_0 {n : Nat} {Q : SV → Nat → Prop} {d : D} : S_need_line n [d] Q = (okE d = true ∧ vecD d = true ∧ Q (.dat .non) n) := rfl
theorem u_need_waves_0 {n : Nat} {Q : SV → Nat → Prop} {R : Int} {C : Int} {d : D} : S_need_waves n [d, .int R, .int C] Q = ((okE d = true ∧ vecD d = true) ∧ sizeW R ∧ sizeW C ∧ Q (.dat .non) n) := rfl
theorem u_divisor_0 {n : Nat} {Q : SV → Nat → Prop} {a : Int} {b : Int} : S_divisor n [.int a, .int b] Q = (a.natAbs < 10 ^ 100 ∧ b.natAbs < 10 ^ 100 ∧ Q (.dat (.int (Int.gcd a b))) n) := rfl
theorem u_inverse_of_0 {n : Nat} {Q : SV → Nat → Prop} {v : Int} {m : Int} : S_inverse_of n [.int v, .int m] Q = ((1 ≤ m ∧ m.natAbs < 10 ^ 100) ∧ v.natAbs < 10 ^ 100 ∧ Int.gcd v m = 1 ∧ ∀ x : Int, 0 ≤ x → x < m → (∃ k, v * x = 1 + k * m) → Q (.dat (.int x)) n) := rfl
theorem u_turns_within_0 {n : Nat} {Q : SV → Nat → Prop} {s : Int} {m : Int} {z : Int} : S_turns_within n [.int s, .int m, .int z] Q = (m ≠ 0 ∧ m.natAbs < 10 ^ 100 ∧ ∀ lo hi : Int, (lo.natAbs ≤ s.natAbs + z.natAbs + 1 ∧ hi.natAbs ≤ s.natAbs + z.natAbs + 1) → (∀ k : Int, lo ≤ k ∧ k ≤ hi ↔ 0 ≤ s + k * m ∧ s + k * m < z) → Q (.dat (.tup [.int lo, .int hi])) n) := rfl
theorem u_wave_line_0 {n : Nat} {Q : SV → Nat → Prop} {a : Int} {b : Int} {r : Int} {c : Int} {t : Int} : S_wave_line n [.tup [.int a, .int b], .int r, .int c, .int t] Q = (¬ (a = 0 ∧ b = 0) ∧ (a.natAbs < 10 ^ 40 ∧ b.natAbs < 10 ^ 40 ∧ t.natAbs < 10 ^ 60) ∧ sizeW r ∧ sizeW c ∧ ∀ x y u v k : Int, LineP a b r c t x y u v k → Q (.dat (.tup [.tup [.int x, .int y], .tup [.int u, .int v], .int k])) n) := rfl
theorem u_wave_size_0 {n : Nat} {Q : SV → Nat → Prop} {a : Int} {b : Int} {r : Int} {c : Int} {t : Int} : S_wave_size n [.tup [.int a, .int b], .int r, .int c, .int t] Q = (¬ (a = 0 ∧ b = 0) ∧ (a.natAbs < 10 ^ 40 ∧ b.natAbs < 10 ^ 40 ∧ t.natAbs < 10 ^ 60) ∧ sizeW r ∧ sizeW c ∧ ∀ x y u v k : Int, LineP a b r c t x y u v k → Q (.dat (.int k)) n) := rfl
theorem u__law_pair_0 {n : Nat} {Q : SV → Nat → Prop} {f : Int} : S__law_pair n [.src, .int f] Q = ((1 ≤ f ∧ f < 10 ^ 40) ∧ n + 3 ≤ 10 ^ 18 ∧ ∀ (a b : Int) (j : Nat), ¬ (a = 0 ∧ b = 0) → (-f ≤ a ∧ a ≤ f) → (-f ≤ b ∧ b ≤ f) → n ≤ j → j ≤ n + 3 → Q (.dat (.tup [.int a, .int b])) j) := rfl
theorem u__law_divisor_0 {n : Nat} {Q : SV → Nat → Prop} {a : Int} {b : Int} : S__law_divisor n [.int a, .int b] Q = (a.natAbs < 10 ^ 100 ∧ b.natAbs < 10 ^ 100 ∧ Q (.dat (.int (Int.gcd a b))) n) := rfl
theorem u_widest_wave_0 {n : Nat} {Q : SV → Nat → Prop} {a : Int} {b : Int} {r : Int} {c : Int} : S_widest_wave n [.tup [.int a, .int b], .int r, .int c] Q = (¬ (a = 0 ∧ b = 0) ∧ (a.natAbs < 10 ^ 40 ∧ b.natAbs < 10 ^ 40) ∧ sizeW r ∧ sizeW c ∧ ∀ W : Int, WideP a b r c W → Q (.dat (.int W)) n) := rfl
theorem u__law_turn_0 {n : Nat} {Q : SV → Nat → Prop} {a : Int} {b : Int} : S__law_turn n [.tup [.int a, .int b]] Q = (¬ (a = 0 ∧ b = 0) ∧ (a.natAbs < 10 ^ 100 ∧ b.natAbs < 10 ^ 100) ∧ ∀ u v : Int, MoveP a b u v → Q (.dat (.tup [.int u, .int v])) n) := rfl
theorem u__law_times_0 {n : Nat} {Q : SV → Nat → Prop} {x : Int} {y : Int} {u : Int} {v : Int} {r : Int} {c : Int} : S__law_times n [.tup [.int x, .int y], .tup [.int u, .int v], .int r, .int c] Q = ((0 < u ∨ (u = 0 ∧ v = 1)) ∧ (u.natAbs < 10 ^ 100 ∧ v.natAbs < 10 ^ 100) ∧ sizeW r ∧ sizeW c ∧ x = 0 ∧ ((y = 0 ∧ 0 ≤ v) ∨ (y = c - 1 ∧ v < 0)) ∧ ∀ m : Int, StepsW u v r c m → Q (.dat (.int m)) n) := rfl
theorem u__law_far_right_0 {n : Nat} {Q : SV → Nat → Prop}  : S__law_far_right n [.src] Q = (n + 30 ≤ 10 ^ 18 ∧ ∀ j : Nat, n ≤ j → j ≤ n + 30 → Q (.dat (.bl true)) j) := rfl
theorem u__law_right_0 {n : Nat} {Q : SV → Nat → Prop}  : S__law_right n [.src] Q = (n + 20 ≤ 10 ^ 18 ∧ ∀ j : Nat, n ≤ j → j ≤ n + 20 → Q (.dat (.bl true)) j) := rfl
theorem u__law_waves_0 {n : Nat} {Q : SV → Nat → Prop} {a : Int} {b : Int} {h : Int} {w : Int} : S__law_waves n [.tup [.int a, .int b], .int h, .int w] Q = ((1 ≤ h ∧ h ≤ 10) ∧ (1 ≤ w ∧ w ≤ 10) ∧ (a.natAbs ≤ 1000 ∧ b.natAbs ≤ 1000) ∧ ∀ es : List (Key × D), WvP a b (spotsL h w) es → EvP a b (spotsL h w) es → es.length ≤ 100 → Q (.new (.dK es)) n) := rfl
theorem XU : (type_of% @okD_i) ∧ (type_of% @okE_p) ∧ (type_of% @intD_i) ∧ (type_of% @rngD_i) ∧ (type_of% @pairD_p) ∧ (type_of% @vecD_p) ∧ (type_of% @u_is_integer_0) ∧ (type_of% @u_is_integer_1) ∧ (type_of% @u_is_integer_2) ∧ (type_of% @u_is_pair_0) ∧ (type_of% @u__law_draw_0) ∧ (type_of% @u__law_source_0) ∧ (type_of% @u_need_size_0) ∧ (type_of% @u_need_box_0) ∧ (type_of% @u__law_spots_0) ∧ (type_of% @u_need_number_0) ∧ (type_of% @u_need_number_1) ∧ (type_of% @u_is_line_0) ∧ (type_of% @u_need_line_0) ∧ (type_of% @u_need_waves_0) ∧ (type_of% @u_divisor_0) ∧ (type_of% @u_inverse_of_0) ∧ (type_of% @u_turns_within_0) ∧ (type_of% @u_wave_line_0) ∧ (type_of% @u_wave_size_0) ∧ (type_of% @u__law_pair_0) ∧ (type_of% @u__law_divisor_0) ∧ (type_of% @u_widest_wave_0) ∧ (type_of% @u__law_turn_0) ∧ (type_of% @u__law_times_0) ∧ (type_of% @u__law_far_right_0) ∧ (type_of% @u__law_right_0) ∧ (type_of% @u__law_waves_0) := ⟨@okD_i, @okE_p, @intD_i, @rngD_i, @pairD_p, @vecD_p, @u_is_integer_0, @u_is_integer_1, @u_is_integer_2, @u_is_pair_0, @u__law_draw_0, @u__law_source_0, @u_need_size_0, @u_need_box_0, @u__law_spots_0, @u_need_number_0, @u_need_number_1, @u_is_line_0, @u_need_line_0, @u_need_waves_0, @u_divisor_0, @u_inverse_of_0, @u_turns_within_0, @u_wave_line_0, @u_wave_size_0, @u__law_pair_0, @u__law_divisor_0, @u_widest_wave_0, @u__law_turn_0, @u__law_times_0, @u__law_far_right_0, @u__law_right_0, @u__law_waves_0⟩

theorem L_is_integer : ∀ n ds Q, S_is_integer n ds Q → ds.length = ps_is_integer.length := by
  intro n ds Q h
  unfold S_is_integer at h
  split at h <;> first | exact h.elim | rfl
set_option maxHeartbeats 0 in
theorem l_is_integer : ∀ n ds Q, S_is_integer n ds Q → t_is_integer (defE Q) (startG n N_is_integer ds) := by
  intro n ds Q h
  unfold S_is_integer at h
  split at h
  · rename_i d
    show t_is_integer (defE Q) ⟨[some (.dat (d)), some (.dat (.non)), some (.dat (.non))], n⟩
    obtain ⟨ok, h⟩ := h
    cases d <;> first | exact absurd ok Bool.false_ne_true | (simp -implicitDefEqProofs only [t_is_integer, ↓XP, ↓x_ifs, ↓XU, XU, XQ, eq_self, List.reverse_cons, List.reverse_nil, Int.cast_ofNat_Int, List.length_cons, List.length_nil, List.nil_append, List.cons_append, ne_eq, Nat.reduceAdd, Nat.reduceLeDiff, Int.reduceEq, Int.reduceLT, Int.reduceLE, Int.reduceToNat, Int.reducePow, Int.reduceAdd, Int.reduceMul, Int.reduceSub, Int.reduceNeg, List.getElem?_cons_zero, List.getElem?_cons_succ, dd_is_integer, dd_need_number]; exact h)
  · rename_i d lo hi
    show t_is_integer (defE Q) ⟨[some (.dat (d)), some (.dat (.int lo)), some (.dat (.int hi))], n⟩
    obtain ⟨ok, h⟩ := h
    cases d <;> first | exact absurd ok Bool.false_ne_true | (simp -implicitDefEqProofs only [t_is_integer, ↓XP, ↓x_ifs, ↓XU, XU, XQ, eq_self, List.reverse_cons, List.reverse_nil, Int.cast_ofNat_Int, List.length_cons, List.length_nil, List.nil_append, List.cons_append, ne_eq, Nat.reduceAdd, Nat.reduceLeDiff, Int.reduceEq, Int.reduceLT, Int.reduceLE, Int.reduceToNat, Int.reducePow, Int.reduceAdd, Int.reduceMul, Int.reduceSub, Int.reduceNeg, List.getElem?_cons_zero, List.getElem?_cons_succ, dd_is_integer, dd_need_number]; exact h) | skip
    rename_i v
    rw [rngD_i] at h
    simp -implicitDefEqProofs only [t_is_integer, ↓XP, ↓x_ifs, ↓XU, XU, XQ, eq_self, List.reverse_cons, List.reverse_nil, Int.cast_ofNat_Int, List.length_cons, List.length_nil, List.nil_append, List.cons_append, ne_eq, Nat.reduceAdd, Nat.reduceLeDiff, Int.reduceEq, Int.reduceLT, Int.reduceLE, Int.reduceToNat, Int.reducePow, Int.reduceAdd, Int.reduceMul, Int.reduceSub, Int.reduceNeg, List.getElem?_cons_zero, List.getElem?_cons_succ, dd_is_integer, dd_need_number]
    by_cases c : lo ≤ v
    · rw [decide_eq_true c] at h ⊢
      simp -implicitDefEqProofs only [t_is_integer, ↓XP, ↓x_ifs, ↓XU, XU, XQ, eq_self, List.reverse_cons, List.reverse_nil, Int.cast_ofNat_Int, List.length_cons, List.length_nil, List.nil_append, List.cons_append, ne_eq, Nat.reduceAdd, Nat.reduceLeDiff, Int.reduceEq, Int.reduceLT, Int.reduceLE, Int.reduceToNat, Int.reducePow, Int.reduceAdd, Int.reduceMul, Int.reduceSub, Int.reduceNeg, List.getElem?_cons_zero, List.getElem?_cons_succ, dd_is_integer, dd_need_number]
      exact h
    · rw [decide_eq_false c] at h ⊢
      simp -implicitDefEqProofs only [t_is_integer, ↓XP, ↓x_ifs, ↓XU, XU, XQ, eq_self, List.reverse_cons, List.reverse_nil, Int.cast_ofNat_Int, List.length_cons, List.length_nil, List.nil_append, List.cons_append, ne_eq, Nat.reduceAdd, Nat.reduceLeDiff, Int.reduceEq, Int.reduceLT, Int.reduceLE, Int.reduceToNat, Int.reducePow, Int.reduceAdd, Int.reduceMul, Int.reduceSub, Int.reduceNeg, List.getElem?_cons_zero, List.getElem?_cons_succ, dd_is_integer, dd_need_number]
      exact h
  · rename_i d lo
    show t_is_integer (defE Q) ⟨[some (.dat (d)), some (.dat (.int lo)), some (.dat (.non))], n⟩
    obtain ⟨ok, h⟩ := h
    cases d <;> first | exact absurd ok Bool.false_ne_true | (simp -implicitDefEqProofs only [t_is_integer, ↓XP, ↓x_ifs, ↓XU, XU, XQ, eq_self, List.reverse_cons, List.reverse_nil, Int.cast_ofNat_Int, List.length_cons, List.length_nil, List.nil_append, List.cons_append, ne_eq, Nat.reduceAdd, Nat.reduceLeDiff, Int.reduceEq, Int.reduceLT, Int.reduceLE, Int.reduceToNat, Int.reducePow, Int.reduceAdd, Int.reduceMul, Int.reduceSub, Int.reduceNeg, List.getElem?_cons_zero, List.getElem?_cons_succ, dd_is_integer, dd_need_number]; exact h) | skip
    rename_i v
    simp -implicitDefEqProofs only [t_is_integer, ↓XP, ↓x_ifs, ↓XU, XU, XQ, eq_self, List.reverse_cons, List.reverse_nil, Int.cast_ofNat_Int, List.length_cons, List.length_nil, List.nil_append, List.cons_append, ne_eq, Nat.reduceAdd, Nat.reduceLeDiff, Int.reduceEq, Int.reduceLT, Int.reduceLE, Int.reduceToNat, Int.reducePow, Int.reduceAdd, Int.reduceMul, Int.reduceSub, Int.reduceNeg, List.getElem?_cons_zero, List.getElem?_cons_succ, dd_is_integer, dd_need_number]
    by_cases c : lo ≤ v
    · simp -implicitDefEqProofs only [t_is_integer, ↓XP, ↓x_ifs, ↓XU, XU, XQ, eq_self, List.reverse_cons, List.reverse_nil, Int.cast_ofNat_Int, List.length_cons, List.length_nil, List.nil_append, List.cons_append, ne_eq, Nat.reduceAdd, Nat.reduceLeDiff, Int.reduceEq, Int.reduceLT, Int.reduceLE, Int.reduceToNat, Int.reducePow, Int.reduceAdd, Int.reduceMul, Int.reduceSub, Int.reduceNeg, List.getElem?_cons_zero, List.getElem?_cons_succ, dd_is_integer, dd_need_number, c]
      simpa [intD, c] using h
    · simp -implicitDefEqProofs only [t_is_integer, ↓XP, ↓x_ifs, ↓XU, XU, XQ, eq_self, List.reverse_cons, List.reverse_nil, Int.cast_ofNat_Int, List.length_cons, List.length_nil, List.nil_append, List.cons_append, ne_eq, Nat.reduceAdd, Nat.reduceLeDiff, Int.reduceEq, Int.reduceLT, Int.reduceLE, Int.reduceToNat, Int.reducePow, Int.reduceAdd, Int.reduceMul, Int.reduceSub, Int.reduceNeg, List.getElem?_cons_zero, List.getElem?_cons_succ, dd_is_integer, dd_need_number, c]
      simpa [intD, c] using h
  · exact h.elim
theorem pair_cases {d : D} (h : pairD d = true) : ∃ a b : Int, d = .tup [.int a, .int b] := by
  cases d <;> first | exact absurd h Bool.false_ne_true | skip
  rename_i ds
  simp only [pairD, Bool.and_eq_true, decide_eq_true_iff] at h
  obtain ⟨h1, h2⟩ := h
  match ds, h1, h2 with
  | [x, y], _, h2 =>
    simp only [List.all_cons, List.all_nil, Bool.and_true, Bool.and_eq_true] at h2
    cases x <;> first | exact absurd h2.1 Bool.false_ne_true | skip
    cases y <;> first | exact absurd h2.2 Bool.false_ne_true | skip
    exact ⟨_, _, rfl⟩
theorem L_is_pair : ∀ n ds Q, S_is_pair n ds Q → ds.length = ps_is_pair.length := by
  intro n ds Q h
  unfold S_is_pair at h
  split at h <;> first | exact h.elim | rfl
set_option maxHeartbeats 0 in
theorem l_is_pair : ∀ n ds Q, S_is_pair n ds Q → t_is_pair (defE Q) (startG n N_is_pair ds) := by
  intro n ds Q h
  unfold S_is_pair at h
  split at h
  · rename_i d
    show t_is_pair (defE Q) ⟨[some (.dat (d)), none], n⟩
    obtain ⟨ok, h⟩ := h
    cases d <;> first | exact absurd ok Bool.false_ne_true | (simp -implicitDefEqProofs only [t_is_pair, ↓XP, ↓x_ifs, ↓XU, XU, XQ, eq_self, List.reverse_cons, List.reverse_nil, Int.cast_ofNat_Int, List.length_cons, List.length_nil, List.nil_append, List.cons_append, ne_eq, Nat.reduceAdd, Nat.reduceLeDiff, Int.reduceEq, Int.reduceLT, Int.reduceLE, Int.reduceToNat, Int.reducePow, Int.reduceAdd, Int.reduceMul, Int.reduceSub, Int.reduceNeg, List.getElem?_cons_zero, List.getElem?_cons_succ, dd_is_integer, dd_need_number]; exact h) | skip
    rename_i ds
    by_cases c : ds.length = 2
    · obtain ⟨x, y, rfl⟩ : ∃ x y, ds = [x, y] := by
        match ds, c with
        | [x, y], _ => exact ⟨x, y, rfl⟩
      simp only [okE, List.all_cons, List.all_nil, Bool.and_true, Bool.and_eq_true] at ok
      obtain ⟨hx, hy⟩ := ok
      rw [show pairD (.tup [x, y]) = (intD x && intD y) by simp [pairD]] at h
      simp -implicitDefEqProofs only [t_is_pair, ↓XP, ↓x_ifs, ↓XU, XU, XQ, eq_self, List.reverse_cons, List.reverse_nil, Int.cast_ofNat_Int, List.length_cons, List.length_nil, List.nil_append, List.cons_append, ne_eq, Nat.reduceAdd, Nat.reduceLeDiff, Int.reduceEq, Int.reduceLT, Int.reduceLE, Int.reduceToNat, Int.reducePow, Int.reduceAdd, Int.reduceMul, Int.reduceSub, Int.reduceNeg, List.getElem?_cons_zero, List.getElem?_cons_succ, dd_is_integer, dd_need_number, hx, hy]
      exact h
    · have c2 : ¬ ((ds.length : Int) = 2) := by omega
      rw [show pairD (.tup ds) = false by simp [pairD, c]] at h
      simp -implicitDefEqProofs only [t_is_pair, ↓XP, ↓x_ifs, ↓XU, XU, XQ, eq_self, List.reverse_cons, List.reverse_nil, Int.cast_ofNat_Int, List.length_cons, List.length_nil, List.nil_append, List.cons_append, ne_eq, Nat.reduceAdd, Nat.reduceLeDiff, Int.reduceEq, Int.reduceLT, Int.reduceLE, Int.reduceToNat, Int.reducePow, Int.reduceAdd, Int.reduceMul, Int.reduceSub, Int.reduceNeg, List.getElem?_cons_zero, List.getElem?_cons_succ, dd_is_integer, dd_need_number, c2]
      exact h
  · exact h.elim
theorem big13 {n : Nat} (h : n < 10 ^ 100) : n < 10 ^ 300 := Nat.lt_trans h (by decide +kernel)
theorem L_need_size : ∀ n ds Q, S_need_size n ds Q → ds.length = ps_need_size.length := by
  intro n ds Q h
  unfold S_need_size at h
  split at h <;> first | exact h.elim | rfl
set_option maxHeartbeats 0 in
theorem l_need_size : ∀ n ds Q, S_need_size n ds Q → t_need_size (defE Q) (startG n N_need_size ds) := by
  intro n ds Q h
  unfold S_need_size at h
  split at h
  · rename_i a
    show t_need_size (defE Q) ⟨[some (.dat (.int a))], n⟩
    obtain ⟨⟨z1, z2⟩, h⟩ := h
    simp -implicitDefEqProofs only [t_need_size, ↓XP, ↓x_ifs, ↓XU, XU, XQ, eq_self, List.reverse_cons, List.reverse_nil, Int.cast_ofNat_Int, List.length_cons, List.length_nil, List.nil_append, List.cons_append, ne_eq, Nat.reduceAdd, Nat.reduceLeDiff, Int.reduceEq, Int.reduceLT, Int.reduceLE, Int.reduceToNat, Int.reducePow, Int.reduceAdd, Int.reduceMul, Int.reduceSub, Int.reduceNeg, List.getElem?_cons_zero, List.getElem?_cons_succ, dd_is_integer, dd_need_number]
    rw [decide_eq_true z1, decide_eq_true z2]
    simp -implicitDefEqProofs only [t_need_size, ↓XP, ↓x_ifs, ↓XU, XU, XQ, eq_self, List.reverse_cons, List.reverse_nil, Int.cast_ofNat_Int, List.length_cons, List.length_nil, List.nil_append, List.cons_append, ne_eq, Nat.reduceAdd, Nat.reduceLeDiff, Int.reduceEq, Int.reduceLT, Int.reduceLE, Int.reduceToNat, Int.reducePow, Int.reduceAdd, Int.reduceMul, Int.reduceSub, Int.reduceNeg, List.getElem?_cons_zero, List.getElem?_cons_succ, dd_is_integer, dd_need_number]
    exact h
  · exact h.elim
theorem L_need_box : ∀ n ds Q, S_need_box n ds Q → ds.length = ps_need_box.length := by
  intro n ds Q h
  unfold S_need_box at h
  split at h <;> first | exact h.elim | rfl
set_option maxHeartbeats 0 in
theorem l_need_box : ∀ n ds Q, S_need_box n ds Q → t_need_box (defE Q) (startG n N_need_box ds) := by
  intro n ds Q h
  unfold S_need_box at h
  split at h
  · rename_i a b
    show t_need_box (defE Q) ⟨[some (.dat (.int a)), some (.dat (.int b))], n⟩
    obtain ⟨z1, z2, h⟩ := h
    simp -implicitDefEqProofs only [t_need_box, ↓XP, ↓x_ifs, ↓XU, XU, XQ, eq_self, List.reverse_cons, List.reverse_nil, Int.cast_ofNat_Int, List.length_cons, List.length_nil, List.nil_append, List.cons_append, ne_eq, Nat.reduceAdd, Nat.reduceLeDiff, Int.reduceEq, Int.reduceLT, Int.reduceLE, Int.reduceToNat, Int.reducePow, Int.reduceAdd, Int.reduceMul, Int.reduceSub, Int.reduceNeg, List.getElem?_cons_zero, List.getElem?_cons_succ, dd_is_integer, dd_need_number]
    exact ⟨z1, z2, h⟩
  · exact h.elim
theorem ib_le {x : Int} {k : Nat} (h : x.natAbs < 2 ^ k) (hk : 0 < k) : Builtin.Int.intBits x ≤ k := by
  unfold Builtin.Int.intBits
  split
  · omega
  · have := log2_lt h hk; omega
theorem pw3 {x : Int} (h : x.natAbs < 10 ^ 300) : (Builtin.Int.intBits x : Int) * 3 ≤ 134217728 := by
  have := ib_le (k := 1000) (Nat.lt_of_lt_of_le h (by decide +kernel)) (by decide)
  omega
theorem pw10 {k : Nat} (h : k ≤ 1000) : (Builtin.Int.intBits 10 : Int) * (k : Int) ≤ 134217728 := by
  have e : Builtin.Int.intBits 10 = 4 := by decide +kernel
  rw [e]; omega
theorem fm_lt {x m : Int} (h : 0 < m) : 0 ≤ x.fmod m ∧ x.fmod m < m := ⟨Int.fmod_nonneg_of_pos x h, Int.fmod_lt_of_pos x h⟩
theorem mn1 {t : Int} {q : SV → Prop} (h : q (.dat (.int t))) : dMinL (.lst [.int t]) q := by
  show 0 < 1 ∧ ∀ m, m ∈ [t] → (∀ y, y ∈ [t] → m ≤ y) → q (.dat (.int m))
  refine ⟨by decide, fun m hm _ => ?_⟩
  rw [List.mem_singleton] at hm
  rw [hm]; exact h
theorem mn2 {s t : Int} {q : SV → Prop} (h : q (.dat (.int (if t < s then t else s)))) : dMinL (.lst [.int s, .int t]) q := by
  show 0 < 2 ∧ ∀ m, m ∈ [s, t] → (∀ y, y ∈ [s, t] → m ≤ y) → q (.dat (.int m))
  refine ⟨by decide, fun m hm hy => ?_⟩
  have h1 := hy s (by simp)
  have h2 := hy t (by simp)
  have : m = if t < s then t else s := by
    simp only [List.mem_cons, List.not_mem_nil, or_false] at hm
    split <;> omega
  rw [this]; exact h
theorem L__law_draw : ∀ n ds Q, S__law_draw n ds Q → ds.length = ps__law_draw.length := by
  intro n ds Q h
  unfold S__law_draw at h
  split at h <;> first | exact h.elim | rfl
set_option maxHeartbeats 0 in
theorem l__law_draw : ∀ n ds Q, S__law_draw n ds Q → t__law_draw (defE Q) (startG n N__law_draw ds) := by
  intro n ds Q h
  unfold S__law_draw at h
  split at h
  · rename_i m
    show t__law_draw (defE Q) ⟨[some (.dat (.src)), some (.dat (.int m)), none, none], n⟩
    obtain ⟨h1, h2, h3, h⟩ := h
    simp -implicitDefEqProofs only [t__law_draw, ↓XP, ↓x_ifs, ↓XU, XU, XQ, eq_self, List.reverse_cons, List.reverse_nil, Int.cast_ofNat_Int, List.length_cons, List.length_nil, List.nil_append, List.cons_append, ne_eq, Nat.reduceAdd, Nat.reduceLeDiff, Int.reduceEq, Int.reduceLT, Int.reduceLE, Int.reduceToNat, Int.reducePow, Int.reduceAdd, Int.reduceMul, Int.reduceSub, Int.reduceNeg, List.getElem?_cons_zero, List.getElem?_cons_succ, dd_is_integer, dd_need_number]
    intro v
    have fin : ∀ (x : Int) (j : Nat), n ≤ j → j ≤ n + 1 → Q (.dat (.int (x.fmod m))) j := fun x j => h _ j (fm_lt (by omega)).1 (fm_lt (by omega)).2
    by_cases c : 0 < v
    · rw [decide_eq_true c]
      simp -implicitDefEqProofs only [t__law_draw, ↓XP, ↓x_ifs, ↓XU, XU, XQ, eq_self, List.reverse_cons, List.reverse_nil, Int.cast_ofNat_Int, List.length_cons, List.length_nil, List.nil_append, List.cons_append, ne_eq, Nat.reduceAdd, Nat.reduceLeDiff, Int.reduceEq, Int.reduceLT, Int.reduceLE, Int.reduceToNat, Int.reducePow, Int.reduceAdd, Int.reduceMul, Int.reduceSub, Int.reduceNeg, List.getElem?_cons_zero, List.getElem?_cons_succ, dd_is_integer, dd_need_number]
      intro w
      exact ⟨by omega, fun u => ⟨by omega, lg h2, fin _ _ (Nat.le_refl _) (Nat.le_succ _)⟩⟩
    · rw [decide_eq_false c]
      simp -implicitDefEqProofs only [t__law_draw, ↓XP, ↓x_ifs, ↓XU, XU, XQ, eq_self, List.reverse_cons, List.reverse_nil, Int.cast_ofNat_Int, List.length_cons, List.length_nil, List.nil_append, List.cons_append, ne_eq, Nat.reduceAdd, Nat.reduceLeDiff, Int.reduceEq, Int.reduceLT, Int.reduceLE, Int.reduceToNat, Int.reducePow, Int.reduceAdd, Int.reduceMul, Int.reduceSub, Int.reduceNeg, List.getElem?_cons_zero, List.getElem?_cons_succ, dd_is_integer, dd_need_number]
      intro w w1 w2
      refine ⟨by omega, by omega, fun y y1 y2 z z1 z2 => ⟨cm (by decide +kernel) (by omega), pw3 (by omega), pw10 (k := 37) (by decide), fun u u1 u2 => ?_⟩⟩
      have f1 := fm_lt (x := (y + 900007 * z) ^ 3) (m := 10000000000000000000000000000000000043) (by decide)
      generalize ((y + 900007 * z) ^ 3).fmod 10000000000000000000000000000000000043 = g at f1 ⊢
      have f2 : 0 ≤ g * u ∧ g * u ≤ 10000000000000000000000000000000000043 * 10 ^ 19 := ⟨Int.mul_nonneg f1.1 u1, Int.mul_le_mul (by omega) (by omega) u1 (by decide)⟩
      refine ⟨cm (by omega) (by omega), pw3 (by omega), pw10 (k := 39) (by decide), lg (by decide +kernel), by omega, ?_⟩
      exact fin _ _ (Nat.le_succ _) (Nat.le_refl _)
  · exact h.elim
theorem L__law_source : ∀ n ds Q, S__law_source n ds Q → ds.length = ps__law_source.length := by
  intro n ds Q h
  unfold S__law_source at h
  split at h <;> first | exact h.elim | rfl
set_option maxHeartbeats 0 in
theorem l__law_source : ∀ n ds Q, S__law_source n ds Q → t__law_source (defE Q) (startG n N__law_source ds) := by
  intro n ds Q h
  unfold S__law_source at h
  split at h
  · rename_i a k
    show t__law_source (defE Q) ⟨[some (.dat (.int a)), some (.dat (.int k)), none], n⟩
    obtain ⟨h1, h2, h⟩ := h
    simp -implicitDefEqProofs only [t__law_source, ↓XP, ↓x_ifs, ↓XU, XU, XQ, eq_self, List.reverse_cons, List.reverse_nil, Int.cast_ofNat_Int, List.length_cons, List.length_nil, List.nil_append, List.cons_append, ne_eq, Nat.reduceAdd, Nat.reduceLeDiff, Int.reduceEq, Int.reduceLT, Int.reduceLE, Int.reduceToNat, Int.reducePow, Int.reduceAdd, Int.reduceMul, Int.reduceSub, Int.reduceNeg, List.getElem?_cons_zero, List.getElem?_cons_succ, dd_is_integer, dd_need_number]
    have f := fm_lt (x := absI a) (m := 100000000000000000000000000000000000000081) (by decide)
    generalize absI a = g at f ⊢
    refine ⟨pw10 (k := 18) (by decide), pw10 (k := 41) (by decide), cm (by omega) (by decide), cm (by decide) (by omega), s_k ⟨?_, ?_, h⟩⟩
    · split <;> omega
    · split <;> omega
  · exact h.elim
theorem L__law_spots : ∀ n ds Q, S__law_spots n ds Q → ds.length = ps__law_spots.length := by
  intro n ds Q h
  unfold S__law_spots at h
  split at h <;> first | exact h.elim | rfl
set_option maxHeartbeats 0 in
theorem l__law_spots : ∀ n ds Q, S__law_spots n ds Q → t__law_spots (defE Q) (startG n N__law_spots ds) := by
  intro n ds Q h
  unfold S__law_spots at h
  split at h
  · rename_i a w
    show t__law_spots (defE Q) ⟨[some (.dat (.int a)), some (.dat (.int w)), none], n⟩
    obtain ⟨a1, w1, a2, w2, aw, h⟩ := h
    have aw0 : 0 ≤ a * w := Int.mul_nonneg a1 (by omega)
    simp -implicitDefEqProofs only [t__law_spots, ↓XP, ↓x_ifs, ↓XU, XU, XQ, eq_self, List.reverse_cons, List.reverse_nil, Int.cast_ofNat_Int, List.length_cons, List.length_nil, List.nil_append, List.cons_append, ne_eq, Nat.reduceAdd, Nat.reduceLeDiff, Int.reduceEq, Int.reduceLT, Int.reduceLE, Int.reduceToNat, Int.reducePow, Int.reduceAdd, Int.reduceMul, Int.reduceSub, Int.reduceNeg, List.getElem?_cons_zero, List.getElem?_cons_succ, dd_is_integer, dd_need_number]
    refine ⟨cm (by omega) (by omega), by omega, ?_⟩
    refine ⟨by rw [rangeD_len]; exact Nat.le_trans (m := 10000) (by omega) (by decide), ?_⟩
    refine lc_all (f := spotD w) (fun d hd k k' q => ?_) h
    obtain ⟨y, rfl, y1, y2⟩ := rangeD_mem hd
    simp -implicitDefEqProofs only [t__law_spots, ↓XP, ↓x_ifs, ↓XU, XU, XQ, eq_self, List.reverse_cons, List.reverse_nil, Int.cast_ofNat_Int, List.length_cons, List.length_nil, List.nil_append, List.cons_append, ne_eq, Nat.reduceAdd, Nat.reduceLeDiff, Int.reduceEq, Int.reduceLT, Int.reduceLE, Int.reduceToNat, Int.reducePow, Int.reduceAdd, Int.reduceMul, Int.reduceSub, Int.reduceNeg, List.getElem?_cons_zero, List.getElem?_cons_succ, dd_is_integer, dd_need_number]
    exact ⟨by omega, lg (by omega), by omega, q⟩
  · exact h.elim
theorem spot_in {r w s : Int} (hw : 1 ≤ w) (h0 : 0 ≤ s) (h1 : s < r * w) : inB r w (s.fdiv w) (s.fmod w) := by
  rw [Int.fdiv_eq_ediv_of_nonneg _ (by omega), Int.fmod_eq_emod_of_nonneg _ (by omega)]
  exact ⟨Int.ediv_nonneg h0 (by omega), Int.ediv_lt_of_lt_mul (by omega) h1, Int.emod_nonneg s (b := w) (by omega), Int.emod_lt_of_pos s (b := w) (by omega)⟩
theorem dm {k c : Int} (hc : 1 ≤ c) (hk : 0 ≤ k) : k / c * c + k % c = k ∧ 0 ≤ k / c ∧ 0 ≤ k % c ∧ k % c < c := by
  have e := Int.mul_ediv_add_emod k c
  rw [Int.mul_comm] at e
  exact ⟨e, Int.ediv_nonneg hk (by omega), Int.emod_nonneg _ (by omega), Int.emod_lt_of_pos _ (by omega)⟩
theorem prLt_ne {p q : Int × Int} (h : prLt p q) : p ≠ q := fun e => by subst e; unfold prLt at h; omega
theorem fdm {s w : Int} (hw : 1 ≤ w) (hs : 0 ≤ s) : s.fdiv w * w + s.fmod w = s ∧ 0 ≤ s.fdiv w ∧ 0 ≤ s.fmod w ∧ s.fmod w < w := by
  rw [Int.fdiv_eq_ediv_of_nonneg _ (by omega), Int.fmod_eq_emod_of_nonneg _ (by omega)]
  exact dm hw hs
theorem spot_lt {w s t : Int} (hw : 1 ≤ w) (hs : 0 ≤ s) (h : s < t) : prLt (spotP w s) (spotP w t) := by
  obtain ⟨a1, a2, a3, a4⟩ := fdm hw hs
  obtain ⟨b1, b2, b3, b4⟩ := fdm hw (show 0 ≤ t by omega)
  show s.fdiv w < t.fdiv w ∨ (s.fdiv w = t.fdiv w ∧ s.fmod w < t.fmod w)
  by_cases c : s.fdiv w < t.fdiv w
  · exact .inl c
  · by_cases d : s.fdiv w = t.fdiv w
    · rw [d] at a1; exact .inr ⟨d, by omega⟩
    · have := Int.mul_le_mul_of_nonneg_right (show t.fdiv w + 1 ≤ s.fdiv w by omega) (show 0 ≤ w by omega)
      rw [Int.add_mul] at this
      omega
theorem spots_asc {g w : Int} (hw : 1 ≤ w) : (spotsL g w).Pairwise prLt := by
  unfold spotsL
  rw [List.pairwise_map]
  exact List.pairwise_lt_range.imp fun h => spot_lt hw (by omega) (by omega)
theorem spots_in {g w : Int} (hw : 1 ≤ w) {q : Int × Int} : q ∈ spotsL g w ↔ inB g w q.1 q.2 := by
  constructor
  · intro h
    obtain ⟨s, hs, rfl⟩ := List.mem_map.mp h
    have := List.mem_range.mp hs
    exact spot_in hw (by omega) (by omega)
  · rintro ⟨h1, h2, h3, h4⟩
    have xc : 0 ≤ q.1 * w := Int.mul_nonneg h1 (by omega)
    have xr : (q.1 + 1) * w ≤ g * w := Int.mul_le_mul_of_nonneg_right (by omega) (by omega)
    rw [Int.add_mul, Int.one_mul] at xr
    refine List.mem_map.mpr ⟨(q.1 * w + q.2).toNat, List.mem_range.mpr (by omega), ?_⟩
    show (_, _) = q
    rw [show (((q.1 * w + q.2).toNat : Nat) : Int) = q.1 * w + q.2 by omega]
    rw [Int.fdiv_eq_ediv_of_nonneg _ (by omega), Int.fmod_eq_emod_of_nonneg _ (by omega), Int.add_comm, Int.add_mul_ediv_right _ _ (by omega), Int.ediv_eq_zero_of_lt h3 h4, Int.zero_add, Int.add_mul_emod_self_right, Int.emod_eq_of_lt h3 h4]
theorem sorted_eq {as bs : List (Int × Int)} (h : as.Perm bs) (ha : as.Pairwise fun a b => a.1 < b.1 ∨ (a.1 = b.1 ∧ a.2 ≤ b.2)) (hb : bs.Pairwise prLt) : as = bs := by
  refine List.Perm.eq_of_pairwise (le := fun a b => a.1 < b.1 ∨ (a.1 = b.1 ∧ a.2 ≤ b.2)) (fun a b _ _ h1 h2 => ?_) ha (hb.imp fun h => ?_) h
  · exact Prod.ext (by omega) (by omega)
  · rcases h with h | h
    · exact .inl h
    · exact .inr ⟨h.1, by omega⟩
theorem L_need_number : ∀ n ds Q, S_need_number n ds Q → ds.length = ps_need_number.length := by
  intro n ds Q h
  unfold S_need_number at h
  split at h <;> first | exact h.elim | rfl
set_option maxHeartbeats 0 in
theorem l_need_number : ∀ n ds Q, S_need_number n ds Q → t_need_number (defE Q) (startG n N_need_number ds) := by
  intro n ds Q h
  unfold S_need_number at h
  split at h
  · rename_i v lo hi
    show t_need_number (defE Q) ⟨[some (.dat (.int v)), some (.dat (.int lo)), some (.dat (.int hi))], n⟩
    obtain ⟨⟨z1, z2⟩, h⟩ := h
    simp -implicitDefEqProofs only [t_need_number, ↓XP, ↓x_ifs, ↓XU, XU, XQ, eq_self, List.reverse_cons, List.reverse_nil, Int.cast_ofNat_Int, List.length_cons, List.length_nil, List.nil_append, List.cons_append, ne_eq, Nat.reduceAdd, Nat.reduceLeDiff, Int.reduceEq, Int.reduceLT, Int.reduceLE, Int.reduceToNat, Int.reducePow, Int.reduceAdd, Int.reduceMul, Int.reduceSub, Int.reduceNeg, List.getElem?_cons_zero, List.getElem?_cons_succ, dd_is_integer, dd_need_number]
    rw [decide_eq_true z1, decide_eq_true z2]
    simp -implicitDefEqProofs only [t_need_number, ↓XP, ↓x_ifs, ↓XU, XU, XQ, eq_self, List.reverse_cons, List.reverse_nil, Int.cast_ofNat_Int, List.length_cons, List.length_nil, List.nil_append, List.cons_append, ne_eq, Nat.reduceAdd, Nat.reduceLeDiff, Int.reduceEq, Int.reduceLT, Int.reduceLE, Int.reduceToNat, Int.reducePow, Int.reduceAdd, Int.reduceMul, Int.reduceSub, Int.reduceNeg, List.getElem?_cons_zero, List.getElem?_cons_succ, dd_is_integer, dd_need_number]
    exact h
  · rename_i v
    show t_need_number (defE Q) ⟨[some (.dat (.int v)), some (.dat (.non)), some (.dat (.non))], n⟩
    simp -implicitDefEqProofs only [t_need_number, ↓XP, ↓x_ifs, ↓XU, XU, XQ, eq_self, List.reverse_cons, List.reverse_nil, Int.cast_ofNat_Int, List.length_cons, List.length_nil, List.nil_append, List.cons_append, ne_eq, Nat.reduceAdd, Nat.reduceLeDiff, Int.reduceEq, Int.reduceLT, Int.reduceLE, Int.reduceToNat, Int.reducePow, Int.reduceAdd, Int.reduceMul, Int.reduceSub, Int.reduceNeg, List.getElem?_cons_zero, List.getElem?_cons_succ, dd_is_integer, dd_need_number]
    exact h
  · exact h.elim
theorem rangeD_eq : ∀ (n : Nat) (lo : Int), rangeD lo n = (List.range n).map fun t : Nat => D.int (lo + t)
  | 0, _ => rfl
  | n + 1, lo => by
    rw [rangeD, rangeD_eq n (lo + 1), List.range_succ_eq_map, List.map_cons, List.map_map]
    congr 1
    · simp
    · refine List.map_congr_left fun t _ => ?_
      show D.int (lo + 1 + t) = D.int (lo + ((t + 1 : Nat) : Int))
      rw [Int.natCast_add]; congr 1; omega
theorem spots_eq {g w : Int} : spotsD g w = (spotsL g w).map prD := by
  unfold spotsD spotsL
  rw [rangeD_eq, List.map_map, List.map_map]
  refine List.map_congr_left fun t _ => ?_
  show spotD w (D.int (0 + (t : Int))) = _
  rw [Int.zero_add]; rfl
theorem eqD_prD {p q : Int × Int} : eqD (prD p) (prD q) = decide (p = q) := by
  obtain ⟨a, b⟩ := p
  obtain ⟨c, d⟩ := q
  unfold eqD prD
  simp only [toPy, toPys, PyData.eqv, PyData.eqvAll, Bool.and_true]
  rw [Bool.eq_iff_iff]; simp
theorem any_prD {ps : List (Int × Int)} {q : Int × Int} : ((ps.map prD).any fun z => eqD z (prD q)) = decide (q ∈ ps) := by
  rw [Bool.eq_iff_iff, decide_eq_true_iff, List.any_eq_true]
  constructor
  · rintro ⟨d, hd, h⟩
    obtain ⟨p, hp, rfl⟩ := List.mem_map.mp hd
    rw [eqD_prD, decide_eq_true_iff] at h
    subst h; exact hp
  · intro h
    exact ⟨prD q, List.mem_map.mpr ⟨q, h, rfl⟩, by rw [eqD_prD]; simp⟩
theorem pl_prD {n : Nat} {p : Int × Int} : Pl (n + 1) (prD p) := by
  intro e he
  simp only [List.mem_cons, List.not_mem_nil, or_false] at he
  rcases he with rfl | rfl <;> (cases n <;> trivial)
theorem pl_prs2 {n : Nat} {ps : List (Int × Int)} : Pl (n + 2) (.lst (ps.map prD)) := by
  intro d hd
  obtain ⟨p, _, rfl⟩ := List.mem_map.mp hd
  exact pl_prD
/-- in, not in -/
theorem in_prs {ps : List (Int × Int)} {a b : Int} {q : SV → Prop} (h : q (.dat (.bl (decide ((a, b) ∈ ps))))) : dIn (.tup [.int a, .int b]) (.lst (ps.map prD)) q := by
  refine ⟨pl_prD (p := (a, b)), pl_prs2, ?_⟩
  rw [show (List.map prD ps).any (fun z => eqD z (.tup [.int a, .int b])) = decide ((a, b) ∈ ps) from any_prD (q := (a, b))]
  exact h
theorem nin_prs {ps : List (Int × Int)} {a b : Int} {q : SV → Prop} (h : q (.dat (.bl (!decide ((a, b) ∈ ps))))) : dNotIn (.tup [.int a, .int b]) (.lst (ps.map prD)) q := by
  refine ⟨pl_prD (p := (a, b)), pl_prs2, ?_⟩
  rw [show (List.map prD ps).any (fun z => eqD z (.tup [.int a, .int b])) = decide ((a, b) ∈ ps) from any_prD (q := (a, b))]
  exact h
theorem L_is_line : ∀ n ds Q, S_is_line n ds Q → ds.length = ps_is_line.length := by
  intro n ds Q h
  unfold S_is_line at h
  split at h <;> first | exact h.elim | rfl
set_option maxHeartbeats 0 in
theorem l_is_line : ∀ n ds Q, S_is_line n ds Q → t_is_line (defE Q) (startG n N_is_line ds) := by
  intro n ds Q h
  unfold S_is_line at h
  split at h
  · rename_i d
    show t_is_line (defE Q) ⟨[some (.dat (d))], n⟩
    obtain ⟨ok, h⟩ := h
    cases hp : pairD d with
    | true =>
      obtain ⟨a, b, rfl⟩ := pair_cases hp
      simp -implicitDefEqProofs only [t_is_line, ↓XP, ↓x_ifs, ↓XU, XU, XQ, eq_self, List.reverse_cons, List.reverse_nil, Int.cast_ofNat_Int, List.length_cons, List.length_nil, List.nil_append, List.cons_append, ne_eq, Nat.reduceAdd, Nat.reduceLeDiff, Int.reduceEq, Int.reduceLT, Int.reduceLE, Int.reduceToNat, Int.reducePow, Int.reduceAdd, Int.reduceMul, Int.reduceSub, Int.reduceNeg, List.getElem?_cons_zero, List.getElem?_cons_succ, dd_is_integer, dd_need_number]
      exact h
    | false =>
      have hv : vecD d = false := by
        unfold vecD
        split
        · exact absurd hp (by rw [pairD_p]; decide)
        · rfl
      rw [hv] at h
      simp -implicitDefEqProofs only [t_is_line, ↓XP, ↓x_ifs, ↓XU, XU, XQ, eq_self, List.reverse_cons, List.reverse_nil, Int.cast_ofNat_Int, List.length_cons, List.length_nil, List.nil_append, List.cons_append, ne_eq, Nat.reduceAdd, Nat.reduceLeDiff, Int.reduceEq, Int.reduceLT, Int.reduceLE, Int.reduceToNat, Int.reducePow, Int.reduceAdd, Int.reduceMul, Int.reduceSub, Int.reduceNeg, List.getElem?_cons_zero, List.getElem?_cons_succ, dd_is_integer, dd_need_number, ok, hp]
      exact h
  · exact h.elim
theorem plP {ps : List (Int × Int)} : Pl 20 (.lst (ps.map fun p => D.tup [.int p.1, .int p.2])) := pl_prs2 (n := 18)
theorem q_cons {p : Int × Int} {ps : List (Int × Int)} {f : Bool → Prop} (h : f false) : eqQ (.lst (D.tup [.int p.1, .int p.2] :: ps.map fun p => D.tup [.int p.1, .int p.2])) (.lst []) f := by
  have e : eqD (.lst (D.tup [.int p.1, .int p.2] :: ps.map fun p => D.tup [.int p.1, .int p.2])) (.lst []) = false := by
    unfold eqD; simp [toPy, toPys, PyData.eqv, PyData.eqvAll]
  show Pl 20 _ ∧ Pl 20 _ ∧ f (eqD _ _)
  rw [e]
  exact ⟨plP (ps := p :: ps), fun d hd => (by cases hd), h⟩
theorem max_of {ns : List Int} {q : SV → Prop} (h0 : 0 < ns.length) (h : ∀ m, m ∈ ns → (∀ y, y ∈ ns → y ≤ m) → q (.dat (.int m))) : dMaxL (.lst (ns.map D.int)) q := by
  show (match intsOf (ns.map D.int) with | some ns => (0 < ns.length ∧ ∀ m, m ∈ ns → (∀ y, y ∈ ns → y ≤ m) → q (.dat (.int m))) | none => False)
  rw [intsOf_map ns]
  exact ⟨h0, h⟩
theorem min_of {ns : List Int} {q : SV → Prop} (h0 : 0 < ns.length) (h : ∀ m, m ∈ ns → (∀ y, y ∈ ns → m ≤ y) → q (.dat (.int m))) : dMinL (.lst (ns.map D.int)) q := by
  show (match intsOf (ns.map D.int) with | some ns => (0 < ns.length ∧ ∀ m, m ∈ ns → (∀ y, y ∈ ns → m ≤ y) → q (.dat (.int m))) | none => False)
  rw [intsOf_map ns]
  exact ⟨h0, h⟩
theorem L_need_line : ∀ n ds Q, S_need_line n ds Q → ds.length = ps_need_line.length := by
  intro n ds Q h
  unfold S_need_line at h
  split at h <;> first | exact h.elim | rfl
set_option maxHeartbeats 0 in
theorem l_need_line : ∀ n ds Q, S_need_line n ds Q → t_need_line (defE Q) (startG n N_need_line ds) := by
  intro n ds Q h
  unfold S_need_line at h
  split at h
  · rename_i d
    show t_need_line (defE Q) ⟨[some (.dat (d))], n⟩
    obtain ⟨ok, hv, h⟩ := h
    simp -implicitDefEqProofs only [t_need_line, ↓XP, ↓x_ifs, ↓XU, XU, XQ, eq_self, List.reverse_cons, List.reverse_nil, Int.cast_ofNat_Int, List.length_cons, List.length_nil, List.nil_append, List.cons_append, ne_eq, Nat.reduceAdd, Nat.reduceLeDiff, Int.reduceEq, Int.reduceLT, Int.reduceLE, Int.reduceToNat, Int.reducePow, Int.reduceAdd, Int.reduceMul, Int.reduceSub, Int.reduceNeg, List.getElem?_cons_zero, List.getElem?_cons_succ, dd_is_integer, dd_need_number, ok, hv]
    exact h
  · exact h.elim
theorem L_need_waves : ∀ n ds Q, S_need_waves n ds Q → ds.length = ps_need_waves.length := by
  intro n ds Q h
  unfold S_need_waves at h
  split at h <;> first | exact h.elim | rfl
set_option maxHeartbeats 0 in
theorem l_need_waves : ∀ n ds Q, S_need_waves n ds Q → t_need_waves (defE Q) (startG n N_need_waves ds) := by
  intro n ds Q h
  unfold S_need_waves at h
  split at h
  · rename_i d R C
    show t_need_waves (defE Q) ⟨[some (.dat (d)), some (.dat (.int R)), some (.dat (.int C))], n⟩
    obtain ⟨⟨ok, hv⟩, hr, hc, h⟩ := h
    unfold sizeW at hr hc
    simp -implicitDefEqProofs only [t_need_waves, ↓XP, ↓x_ifs, ↓XU, XU, XQ, eq_self, List.reverse_cons, List.reverse_nil, Int.cast_ofNat_Int, List.length_cons, List.length_nil, List.nil_append, List.cons_append, ne_eq, Nat.reduceAdd, Nat.reduceLeDiff, Int.reduceEq, Int.reduceLT, Int.reduceLE, Int.reduceToNat, Int.reducePow, Int.reduceAdd, Int.reduceMul, Int.reduceSub, Int.reduceNeg, List.getElem?_cons_zero, List.getElem?_cons_succ, dd_is_integer, dd_need_number, ok, hv]
    exact ⟨hr, hc, h⟩
  · exact h.elim
theorem keyP_inj {p q : Int × Int} (h : keyP p = keyP q) : p = q := by
  unfold keyP at h
  have h1 := (List.cons.inj h).1
  have h2 := (List.cons.inj (List.cons.inj h).2).1
  exact Prod.ext (Sum.inl.inj h1) (Sum.inl.inj h2)
theorem dict_has : ∀ {F : List (Int × Int)} {a b : Int}, (valD (dictD F) [.inl a, .inl b]).isSome = decide ((a, b) ∈ F)
  | [], a, b => rfl
  | p :: F, a, b => by
    show (if keyP p = [.inl a, .inl b] then some (D.bl true) else valD (dictD F) [.inl a, .inl b]).isSome = _
    by_cases e : p = (a, b)
    · subst e
      rw [if_pos (show keyP (a, b) = [.inl a, .inl b] from rfl)]
      simp
    · rw [if_neg (show ¬ keyP p = [.inl a, .inl b] from fun z => e (keyP_inj (q := (a, b)) z)), dict_has]
      exact decide_eq_decide.mpr ⟨fun h => List.mem_cons_of_mem _ h, fun h => (List.mem_cons.mp h).resolve_left fun z => e z.symm⟩
theorem dict_put {F : List (Int × Int)} {a b : Int} (h : (a, b) ∉ F) : putD (dictD F) [.inl a, .inl b] (.bl true) = dictD (F ++ [(a, b)]) := by
  unfold putD
  have e : ((dictD F).any fun kv => decide (kv.1 = [.inl a, .inl b])) = false := by
    rw [List.any_eq_false]
    intro kv hk
    obtain ⟨p, hp, rfl⟩ := List.mem_map.mp hk
    simp only [decide_eq_true_eq]
    intro z
    exact h (by rw [← keyP_inj (q := (a, b)) z]; exact hp)
  rw [if_neg (by rw [e]; decide)]
  unfold dictD
  rw [List.map_append]
  rfl
theorem nodup_le : ∀ {N : Nat} {l : List Nat}, l.Nodup → (∀ x ∈ l, x < N) → l.length ≤ N
  | 0, l, _, h => by
    cases l with
    | nil => exact Nat.le_refl 0
    | cons a l => exact absurd (h a List.mem_cons_self) (Nat.not_lt_zero _)
  | N + 1, l, hn, h => by
    have h1 : (l.erase N).Nodup := hn.erase N
    have h2 : ∀ x ∈ l.erase N, x < N := fun x hx => by
      have hx2 := List.mem_of_mem_erase hx
      have := h x hx2
      have hne : x ≠ N := fun z => by
        subst z
        exact (List.Nodup.not_mem_erase hn) hx
      omega
    have h3 := nodup_le h1 h2
    have h4 : l.length ≤ (l.erase N).length + 1 := by
      by_cases hm : N ∈ l
      · rw [List.length_erase_of_mem hm]; omega
      · rw [List.erase_of_not_mem hm]; omega
    omega
theorem box_le {F : List (Int × Int)} {A lo hi : Int} (hn : F.Nodup) (h : ∀ p ∈ F, 0 ≤ p.1 ∧ p.1 ≤ A ∧ lo ≤ p.2 ∧ p.2 ≤ hi) (hA : 0 ≤ A) (hl : lo ≤ hi) : F.length ≤ ((A + 1) * (hi - lo + 1)).toNat := by
  have key : ∀ p ∈ F, 0 ≤ p.1 * (hi - lo + 1) + (p.2 - lo) ∧ p.1 * (hi - lo + 1) + (p.2 - lo) < (A + 1) * (hi - lo + 1) := fun p hp => by
    obtain ⟨h1, h2, h3, h4⟩ := h p hp
    have m1 := Int.mul_nonneg h1 (show 0 ≤ hi - lo + 1 by omega)
    have m2 := Int.mul_le_mul_of_nonneg_right h2 (show 0 ≤ hi - lo + 1 by omega)
    rw [Int.add_mul, Int.one_mul]
    omega
  have := nodup_le (N := ((A + 1) * (hi - lo + 1)).toNat) (l := F.map fun p => (p.1 * (hi - lo + 1) + (p.2 - lo)).toNat) ?_ fun x hx => ?_
  · rw [List.length_map] at this; exact this
  · rw [List.nodup_iff_pairwise_ne, List.pairwise_map]
    rw [List.nodup_iff_pairwise_ne] at hn
    refine (List.Pairwise.and_mem.mp hn).imp fun {p q} hpq e => ?_
    obtain ⟨hp, hq, hne⟩ := hpq
    have kp := key p hp
    have kq := key q hq
    obtain ⟨p1, p2, p3, p4⟩ := h p hp
    obtain ⟨q1, q2, q3, q4⟩ := h q hq
    have e2 : p.1 * (hi - lo + 1) + (p.2 - lo) = q.1 * (hi - lo + 1) + (q.2 - lo) := by omega
    refine hne ?_
    have e3 : p.1 = q.1 := by
      rcases Int.lt_trichotomy p.1 q.1 with z | z | z
      · have := Int.mul_le_mul_of_nonneg_right (show p.1 + 1 ≤ q.1 by omega) (show 0 ≤ hi - lo + 1 by omega)
        rw [Int.add_mul, Int.one_mul] at this
        omega
      · exact z
      · have := Int.mul_le_mul_of_nonneg_right (show q.1 + 1 ≤ p.1 by omega) (show 0 ≤ hi - lo + 1 by omega)
        rw [Int.add_mul, Int.one_mul] at this
        omega
    rw [e3] at e2
    exact Prod.ext e3 (by omega)
  · obtain ⟨p, hp, rfl⟩ := List.mem_map.mp hx
    have := key p hp
    omega
theorem q_ne {ws : List (Int × Int)} {f : Bool → Prop} (hne : ws ≠ []) (h : f false) : eqQ (.lst (ws.map prD)) (.lst []) f := by
  cases ws with
  | nil => exact absurd rfl hne
  | cons p ws => exact q_cons (p := p) (ps := ws) h
structure WInv (ms : List (Int × Int)) (A lo hi : Int) (F ws : List (Int × Int)) : Prop where
  nd : F.Nodup
  rc : ∀ p ∈ F, Reach ms A lo hi p ∧ 0 ≤ p.1 ∧ p.1 ≤ A ∧ lo ≤ p.2 ∧ p.2 ≤ hi
  z : (0, 0) ∈ F
  wf : ∀ p ∈ ws, p ∈ F
  le : ws.length ≤ F.length
def ClosedAt (ms : List (Int × Int)) (A lo hi : Int) (F : List (Int × Int)) (p : Int × Int) (l : List (Int × Int)) : Prop := ∀ s ∈ l, p.1 + s.1 ≤ A → lo ≤ p.2 + s.2 → p.2 + s.2 ≤ hi → (p.1 + s.1, p.2 + s.2) ∈ F
theorem WInv.size {ms : List (Int × Int)} {A lo hi : Int} {F ws : List (Int × Int)} (h : WInv ms A lo hi F ws) (hA : 0 ≤ A) (hl : lo ≤ hi) : F.length ≤ ((A + 1) * (hi - lo + 1)).toNat := box_le h.nd (fun p hp => (h.rc p hp).2) hA hl
theorem WInv.fin {ms : List (Int × Int)} {A lo hi : Int} {F : List (Int × Int)} (h : WInv ms A lo hi F []) (c : ∀ p ∈ F, ClosedAt ms A lo hi F p ms) (p : Int × Int) : p ∈ F ↔ Reach ms A lo hi p := by
  refine ⟨fun hp => (h.rc p hp).1, fun hr => ?_⟩
  induction hr with
  | zero => exact h.z
  | step _ hs h1 h2 h3 ih => exact c _ ih _ hs h1 h2 h3
theorem insE_mem {F : List (Int × Int)} {p q : Int × Int} : q ∈ insE F p ↔ q ∈ F ∨ q = p := by
  unfold insE
  split
  · rename_i h
    exact ⟨.inl, fun z => z.elim id fun z => by subst z; exact h⟩
  · rw [List.mem_append, List.mem_singleton]
theorem insE_nodup {F : List (Int × Int)} {p : Int × Int} (h : F.Nodup) : (insE F p).Nodup := by
  unfold insE
  split
  · exact h
  · rename_i n
    rw [List.nodup_append]
    refine ⟨h, by simp, fun x hx y hy => ?_⟩
    rw [List.mem_singleton] at hy
    rintro rfl
    rw [hy] at hx
    exact n hx
theorem insE_len {F : List (Int × Int)} {p : Int × Int} : F.length ≤ (insE F p).length ∧ (insE F p).length ≤ F.length + 1 := by
  unfold insE
  split
  · omega
  · rw [List.length_append, List.length_singleton]; omega
theorem insAll_mem : ∀ {L F : List (Int × Int)} {q : Int × Int}, q ∈ insAll F L ↔ q ∈ F ∨ q ∈ L
  | [], F, q => by simp [insAll]
  | p :: L, F, q => by
    show q ∈ insAll (insE F p) L ↔ _
    rw [insAll_mem, insE_mem, List.mem_cons, or_assoc]
theorem insAll_nodup : ∀ {L F : List (Int × Int)}, F.Nodup → (insAll F L).Nodup
  | [], F, h => h
  | p :: L, F, h => insAll_nodup (L := L) (insE_nodup h)
theorem insAll_len : ∀ {L F : List (Int × Int)}, F.length ≤ (insAll F L).length ∧ (insAll F L).length ≤ F.length + L.length
  | [], F => ⟨Nat.le_refl _, Nat.le_refl _⟩
  | p :: L, F => by
    have h1 := insAll_len (L := L) (F := insE F p)
    have h2 := insE_len (F := F) (p := p)
    show F.length ≤ (insAll (insE F p) L).length ∧ (insAll (insE F p) L).length ≤ _
    rw [List.length_cons]
    omega
theorem dict_any {F : List (Int × Int)} {a b : Int} : ((dictD F).any fun kv => decide (kv.1 = [.inl a, .inl b])) = decide ((a, b) ∈ F) := by
  rw [Bool.eq_iff_iff, List.any_eq_true, decide_eq_true_iff]
  constructor
  · rintro ⟨kv, hk, e⟩
    obtain ⟨p, hp, rfl⟩ := List.mem_map.mp hk
    rw [← keyP_inj (p := p) (q := (a, b)) (of_decide_eq_true e)]
    exact hp
  · intro h
    exact ⟨_, List.mem_map.mpr ⟨(a, b), h, rfl⟩, decide_eq_true rfl⟩
theorem dict_set {F : List (Int × Int)} {a b : Int} : putD (dictD F) [.inl a, .inl b] (.bl true) = dictD (insE F (a, b)) := by
  by_cases h : (a, b) ∈ F
  · unfold putD insE
    rw [dict_any, decide_eq_true h, if_pos rfl, if_pos h]
    unfold dictD
    rw [List.map_map]
    refine List.map_congr_left fun p _ => ?_
    show (if keyP p = [.inl a, .inl b] then (keyP p, D.bl true) else (keyP p, D.bl true)) = _
    split <;> rfl
  · rw [dict_put h]
    unfold insE
    rw [if_neg h]
theorem keysT_dictD {F : List (Int × Int)} : keysT (dictD F) = F.map prD := by
  unfold keysT dictD
  rw [List.map_map]
  rfl
theorem len_dictD {F : List (Int × Int)} : (dictD F).length = F.length := List.length_map ..
theorem sort_set {F qs : List (Int × Int)} (hn : F.Nodup) (hp : qs.Perm F) (hs : qs.Pairwise prLe) : SortSet (· ∈ F) qs := by
  refine ⟨?_, fun p => hp.mem_iff⟩
  have h2 := List.nodup_iff_pairwise_ne.mp (hp.nodup_iff.mpr hn)
  refine (hs.and h2).imp fun {a b} h => ?_
  obtain ⟨h1, h2⟩ := h
  unfold prLe at h1
  unfold prLt
  rcases h1 with h1 | ⟨h1, h3⟩
  · exact .inl h1
  · refine .inr ⟨h1, ?_⟩
    have : a.2 ≠ b.2 := fun e => h2 (Prod.ext h1 e)
    omega
theorem SortSet.nodup {S : Int × Int → Prop} {qs : List (Int × Int)} (h : SortSet S qs) : qs.Nodup := List.nodup_iff_pairwise_ne.mpr (h.1.imp prLt_ne)
theorem SortSet.unique {S S' : Int × Int → Prop} {as bs : List (Int × Int)} (h : SortSet S as) (h' : SortSet S' bs) (e : ∀ p, S p ↔ S' p) : as = bs := by
  refine sorted_eq ((List.perm_ext_iff_of_nodup h.nodup h'.nodup).mpr fun p => (h.2 p).trans ((e p).trans (h'.2 p).symm)) (h.1.imp fun h => ?_) h'.1
  rcases h with h | h
  · exact .inl h
  · exact .inr ⟨h.1, by omega⟩
theorem SortSet.imp {S S' : Int × Int → Prop} {as : List (Int × Int)} (h : SortSet S as) (e : ∀ p, S p ↔ S' p) : SortSet S' as := ⟨h.1, fun p => (h.2 p).trans (e p)⟩
theorem nodup_sub {α : Type} [DecidableEq α] : ∀ {A B : List α}, A.Nodup → (∀ x ∈ A, x ∈ B) → A.length ≤ B.length
  | [], _, _, _ => Nat.zero_le _
  | x :: A, B, hn, h => by
    have hx := h x List.mem_cons_self
    obtain ⟨h1, h2⟩ := List.nodup_cons.mp hn
    have ih := nodup_sub (A := A) (B := B.erase x) h2 fun y hy => by
      have hne : y ≠ x := fun z => h1 (by rw [← z]; exact hy)
      exact (List.mem_erase_of_ne hne).mpr (h y (List.mem_cons_of_mem _ hy))
    rw [List.length_erase_of_mem hx] at ih
    have := List.length_pos_of_mem hx
    rw [List.length_cons]
    omega
theorem boxB_iff {r c : Int} {p : Int × Int} : boxB r c p = true ↔ inB r c p.1 p.2 := by
  unfold boxB inB
  simp only [Bool.and_eq_true, decide_eq_true_eq]
  constructor
  · rintro ⟨⟨a, b⟩, c, d⟩; exact ⟨a, b, c, d⟩
  · rintro ⟨a, b, c, d⟩; exact ⟨⟨a, b⟩, c, d⟩
theorem standB_iff {ms F : List (Int × Int)} {r c : Int} {p : Int × Int} : standB ms r c F p = true ↔ inB r c p.1 p.2 ∧ p ∉ F ∧ ∀ q, SrcP ms r c p q → q ∈ F := by
  unfold standB SrcP
  simp only [Bool.and_eq_true, Bool.not_eq_true', decide_eq_false_iff_not, List.all_eq_true, Bool.or_eq_true, decide_eq_true_eq]
  rw [boxB_iff]
  constructor
  · rintro ⟨h1, h2, h3⟩
    refine ⟨h1, h2, ?_⟩
    rintro q ⟨hq, s, hs, rfl⟩
    rcases h3 s hs with h | h
    · rw [boxB_iff.mpr hq] at h; cases h
    · exact h
  · rintro ⟨h1, h2, h3⟩
    refine ⟨h1, h2, fun s hs => ?_⟩
    cases e : boxB r c (p.1 - s.1, p.2 - s.2) with
    | false => exact .inl rfl
    | true => exact .inr (h3 _ ⟨boxB_iff.mp e, s, hs, rfl⟩)
theorem subs_nodup {ms : List (Int × Int)} {x y : Int} (h : ms.Nodup) : (ms.map fun s => (x - s.1, y - s.2)).Nodup := by
  rw [List.nodup_iff_pairwise_ne, List.pairwise_map]
  refine (List.nodup_iff_pairwise_ne.mp h).imp fun {a b} hne e => hne ?_
  have e1 := (Prod.mk.inj e).1
  have e2 := (Prod.mk.inj e).2
  exact Prod.ext (by omega) (by omega)
theorem adds_nodup {ms : List (Int × Int)} {x y : Int} (h : ms.Nodup) : (ms.map fun s => (x + s.1, y + s.2)).Nodup := by
  rw [List.nodup_iff_pairwise_ne, List.pairwise_map]
  refine (List.nodup_iff_pairwise_ne.mp h).imp fun {a b} hne e => hne ?_
  have e1 := (Prod.mk.inj e).1
  have e2 := (Prod.mk.inj e).2
  exact Prod.ext (by omega) (by omega)
theorem src_sort {ms qs : List (Int × Int)} {r c x y : Int} (hs : StepsOk ms) (h1 : qs.Perm ((ms.map fun s => (x - s.1, y - s.2)).filter (boxB r c))) (h2 : qs.Pairwise prLe) : SortSet (SrcP ms r c (x, y)) qs := by
  refine (sort_set ((subs_nodup hs.2.2.2).sublist List.filter_sublist) h1 h2).imp fun p => ?_
  rw [List.mem_filter, List.mem_map, boxB_iff]
  exact ⟨fun ⟨⟨s, h, e⟩, b⟩ => ⟨b, s, h, e.symm⟩, fun ⟨b, s, h, e⟩ => ⟨⟨s, h, e.symm⟩, b⟩⟩
theorem red_sort {ms qs : List (Int × Int)} {r c x y : Int} (hs : StepsOk ms) (h1 : qs.Perm ((ms.map fun s => (x + s.1, y + s.2)).filter (boxB r c))) (h2 : qs.Pairwise prLe) : SortSet (RedP ms r c (x, y)) qs := by
  refine (sort_set ((adds_nodup hs.2.2.2).sublist List.filter_sublist) h1 h2).imp fun p => ?_
  rw [List.mem_filter, List.mem_map, boxB_iff]
  exact ⟨fun ⟨⟨s, h, e⟩, b⟩ => ⟨b, s, h, e.symm⟩, fun ⟨b, s, h, e⟩ => ⟨⟨s, h, e.symm⟩, b⟩⟩
theorem src_len {ms qs : List (Int × Int)} {r c : Int} {p : Int × Int} (hs : StepsOk ms) (h : SortSet (SrcP ms r c p) qs) : qs.length ≤ 4 := by
  have := nodup_sub (B := ms.map fun s => (p.1 - s.1, p.2 - s.2)) h.nodup fun q hq => by
    obtain ⟨_, s, hs2, e⟩ := (h.2 q).mp hq
    exact List.mem_map.mpr ⟨s, hs2, e.symm⟩
  rw [List.length_map] at this
  exact Nat.le_trans this hs.2.1
theorem red_len {ms qs : List (Int × Int)} {r c : Int} {p : Int × Int} (hs : StepsOk ms) (h : SortSet (RedP ms r c p) qs) : qs.length ≤ 4 := by
  have := nodup_sub (B := ms.map fun s => (p.1 + s.1, p.2 + s.2)) h.nodup fun q hq => by
    obtain ⟨_, s, hs2, e⟩ := (h.2 q).mp hq
    exact List.mem_map.mpr ⟨s, hs2, e.symm⟩
  rw [List.length_map] at this
  exact Nat.le_trans this hs.2.1
theorem valD_put {κ : Type} [DecidableEq κ] {es : List (κ × D)} {k k' : κ} {v : D} : valD (putD es k v) k' = if k' = k then some v else valD es k' := by
  have hv : ∀ (es : List (κ × D)), valD (es ++ [(k, v)]) k' = match valD es k' with | some d => some d | none => if k = k' then some v else none := by
    intro es
    induction es with
    | nil => simp [valD]
    | cons e es ih =>
      obtain ⟨q, d⟩ := e
      rw [List.cons_append]
      by_cases c : q = k'
      · simp [valD, c]
      · rw [show valD ((q, d) :: (es ++ [(k, v)])) k' = valD (es ++ [(k, v)]) k' by simp [valD, c], show valD ((q, d) :: es) k' = valD es k' by simp [valD, c], ih]
  have hm : ∀ (es : List (κ × D)), valD (es.map fun kv => if kv.1 = k then (kv.1, v) else kv) k' = match valD es k' with | some d => if k' = k then some v else some d | none => none := by
    intro es
    induction es with
    | nil => simp [valD]
    | cons e es ih =>
      obtain ⟨q, d⟩ := e
      rw [List.map_cons]
      by_cases c : q = k'
      · subst c
        by_cases c2 : q = k
        · simp [valD, c2]
        · simp [valD, c2]
      · by_cases c2 : q = k
        · simp only [c2, if_true]
          rw [show valD ((k, v) :: _) k' = valD (es.map fun kv => if kv.1 = k then (kv.1, v) else kv) k' by rw [c2] at c; simp [valD, c], ih, show valD ((k, d) :: es) k' = valD es k' by rw [c2] at c; simp [valD, c]]
        · simp only [c2, if_false]
          rw [show valD ((q, d) :: _) k' = valD (es.map fun kv => if kv.1 = k then (kv.1, v) else kv) k' by simp [valD, c], ih, show valD ((q, d) :: es) k' = valD es k' by simp [valD, c]]
  have hk : ∀ (es : List (κ × D)), (es.any fun kv => decide (kv.1 = k)) = (valD es k).isSome := by
    intro es
    induction es with
    | nil => rfl
    | cons e es ih =>
      obtain ⟨q, d⟩ := e
      rw [List.any_cons, ih]
      by_cases c : q = k
      · simp [valD, c]
      · simp [valD, c]
  unfold putD
  split
  · rename_i h
    rw [hk] at h
    rw [hm]
    by_cases c : k' = k
    · subst c
      rw [if_pos rfl]
      cases e : valD es k' with
      | none => rw [e] at h; cases h
      | some d => simp
    · rw [if_neg c]
      cases valD es k' <;> simp [c]
  · rename_i h
    rw [hk] at h
    rw [hv]
    by_cases c : k' = k
    · subst c
      rw [if_pos rfl]
      cases e : valD es k' with
      | none => simp
      | some d => rw [e] at h; exact absurd rfl h
    · rw [if_neg c]
      have c' : ¬ k = k' := fun z => c z.symm
      cases valD es k' <;> simp [c']
theorem put_len {κ : Type} [DecidableEq κ] {es : List (κ × D)} {k : κ} {v : D} : (putD es k v).length ≤ es.length + 1 := by
  unfold putD
  split
  · rw [List.length_map]; omega
  · rw [List.length_append, List.length_singleton]; omega
theorem HasKeys.nil : HasKeys [] [] := fun a b => by simp [valD]
theorem HasKeys.put {es : List (List Key × D)} {F : List (Int × Int)} {a b : Int} {v : D} (h : HasKeys es F) : HasKeys (putD es [.inl a, .inl b] v) (F ++ [(a, b)]) := fun x y => by
  rw [valD_put]
  by_cases c : x = a ∧ y = b
  · obtain ⟨rfl, rfl⟩ := c
    simp
  · rw [if_neg (by intro z; exact c ⟨Sum.inl.inj (List.cons.inj z).1, Sum.inl.inj (List.cons.inj (List.cons.inj z).2).1⟩), h x y]
    refine decide_eq_decide.mpr ⟨fun z => List.mem_append_left _ z, fun z => ?_⟩
    rcases List.mem_append.mp z with z | z
    · exact z
    · rw [List.mem_singleton] at z
      exact absurd ⟨(Prod.mk.inj z).1, (Prod.mk.inj z).2⟩ c
theorem legal_fault {ms : List (Int × Int)} {r c : Int} : ∀ {L F : List (Int × Int)}, LegalF ms r c F L → faultLs ms r c F (L.map prD) = .tup []
  | [], _, _ => rfl
  | p :: L, F, h => by
    rw [List.map_cons, faultLs, if_pos (show pairD (prD p) = true from pairD_p), show pairOf (prD p) = p from rfl, if_pos h.1]
    exact legal_fault h.2
theorem ok_prs {L : List (Int × Int)} : okL (.lst (L.map prD)) = true := by
  show (L.map prD).all okE = true
  rw [List.all_eq_true]
  intro d hd
  obtain ⟨p, _, rfl⟩ := List.mem_map.mp hd
  rfl
theorem legal_ok {ms L : List (Int × Int)} {r c : Int} (h : LegalF ms r c [] L) (hl : L.length ≤ 400) : okL (.lst (L.map prD)) = true ∧ faultLD ms r c (.lst (L.map prD)) = .tup [] := by
  refine ⟨ok_prs, ?_⟩
  show (if (L.map prD).length ≤ 400 then faultLs ms r c [] (L.map prD) else .tup [.non]) = _
  rw [if_pos (by rw [List.length_map]; exact hl)]
  exact legal_fault h
theorem minp_of {ps : List (Int × Int)} {q : SV → Prop} (h0 : 0 < ps.length) (h : ∀ m, m ∈ ps → (∀ q ∈ ps, prLe m q) → q (.dat (prD m))) : dMinP (.lst (ps.map prD)) q := by
  show (match prsOf (ps.map prD) with | some ps => 0 < ps.length ∧ ∀ m : Int × Int, m ∈ ps → (∀ q ∈ ps, prLe m q) → q (.dat (prD m)) | none => False)
  rw [prsOf_map]
  exact ⟨h0, h⟩
theorem prLe_anti {p q : Int × Int} (h1 : prLe p q) (h2 : prLe q p) : p = q := by
  unfold prLe at h1 h2
  exact Prod.ext (by omega) (by omega)
theorem BreakP.unique {ms : List (Int × Int)} {v : Int × Int} {r c : Int} : ∀ {L F : List (Int × Int)} {o o' : Option (Int × (Int × Int))}, BreakP ms v r c F L o → BreakP ms v r c F L o' → o = o'
  | [], _, _, _, h, h' => (show _ = none from h).trans (show _ = none from h').symm
  | p :: L, F, o, o', h, h' => by
    rcases h with ⟨⟨x, x1, x2⟩, q, a1, a2, a3, rfl⟩ | ⟨a1, a2⟩
    · rcases h' with ⟨_, q', b1, b2, b3, rfl⟩ | ⟨b1, b2⟩
      · rw [prLe_anti (a3 q' b1 b2) (b3 q a1 a2)]
      · exact absurd (b1 x x1) x2
    · rcases h' with ⟨⟨x, x1, x2⟩, _⟩ | ⟨b1, b2⟩
      · exact absurd (a1 x x1) x2
      · exact BreakP.unique a2 b2
theorem loops_go {ms : List (Int × Int)} {a b : Int} (hs : StepsOk ms) (hb : 1 ≤ b) : ∀ {R F : List (Int × Int)}, F ++ R = spotsL a b → LegalF ms a b F R
  | [], _, _ => trivial
  | p :: R, F, e => by
    have asc := spots_asc (g := a) hb
    rw [← e, List.pairwise_append] at asc
    obtain ⟨_, hR, hF⟩ := asc
    have pin : p ∈ spotsL a b := by rw [← e]; exact List.mem_append_right _ List.mem_cons_self
    refine ⟨standB_iff.mpr ⟨(spots_in hb).mp pin, fun z => prLt_ne (hF p z p List.mem_cons_self) rfl, fun q hq => ?_⟩, loops_go hs hb (by rw [List.append_assoc]; exact e)⟩
    have qin : q ∈ F ++ p :: R := by rw [e]; exact (spots_in hb).mpr hq.1
    obtain ⟨_, s, hsm, rfl⟩ := hq
    have st := hs.2.2.1 s hsm
    unfold stepOk at st
    rcases List.mem_append.mp qin with h | h
    · exact h
    · exfalso
      rcases List.mem_cons.mp h with h | h
      · have e1 := congrArg Prod.fst h
        have e2 := congrArg Prod.snd h
        simp only at e1 e2
        omega
      · have := (List.pairwise_cons.mp hR).1 _ h
        unfold prLt at this
        simp only at this
        omega
theorem loops_legal {ms : List (Int × Int)} {a b : Int} (hs : StepsOk ms) (hb : 1 ≤ b) : LegalF ms a b [] (spotsL a b) := loops_go hs hb rfl
theorem spots_nd {a b : Int} (hb : 1 ≤ b) : (spotsL a b).Nodup := List.nodup_iff_pairwise_ne.mpr ((spots_asc hb).imp prLt_ne)
theorem high_none {ms : List (Int × Int)} {a b : Int} : ∀ {L F : List (Int × Int)}, (∀ p ∈ L, inB a b p.1 p.2) → BreakP ms (a, 0) a b F L none
  | [], _, _ => rfl
  | p :: L, F, h => .inr ⟨fun q hq => by
      have h1 := h p List.mem_cons_self
      have h2 := hq.1
      unfold inB at h1 h2
      simp only at h2
      omega, high_none fun x hx => h x (List.mem_cons_of_mem _ hx)⟩
theorem gcd_fmod {x y : Int} : Int.gcd y (x.fmod y) = Int.gcd x y := by
  have e : x.fmod y = x - y * x.fdiv y := Int.fmod_def x y
  rw [e]
  apply Nat.dvd_antisymm
  · refine Int.dvd_gcd ?_ (Int.gcd_dvd_left ..)
    have h1 := Int.gcd_dvd_left y (x - y * x.fdiv y)
    have h2 := Int.gcd_dvd_right y (x - y * x.fdiv y)
    have := Int.dvd_add h2 (Int.dvd_trans h1 (Int.dvd_mul_right y (x.fdiv y)))
    rwa [Int.sub_add_cancel] at this
  · exact Int.dvd_gcd (Int.gcd_dvd_right ..) (Int.dvd_sub (Int.gcd_dvd_left ..) (Int.dvd_trans (Int.gcd_dvd_right ..) (Int.dvd_mul_right y (x.fdiv y))))
theorem fmod_abs {x y : Int} (h : y ≠ 0) : (x.fmod y).natAbs < y.natAbs := by
  rcases Int.lt_trichotomy y 0 with k | k | k
  · have h1 := Int.fmod_nonneg_of_pos (-x) (show 0 < -y by omega)
    have h2 := Int.fmod_lt_of_pos (-x) (show 0 < -y by omega)
    rw [Int.neg_fmod_neg] at h1 h2
    omega
  · exact absurd k h
  · have h1 := Int.fmod_nonneg_of_pos x k
    have h2 := Int.fmod_lt_of_pos x k
    omega
theorem L_divisor : ∀ n ds Q, S_divisor n ds Q → ds.length = ps_divisor.length := by
  intro n ds Q h
  unfold S_divisor at h
  split at h <;> first | exact h.elim | rfl
set_option maxHeartbeats 0 in
theorem l_divisor : ∀ n ds Q, S_divisor n ds Q → t_divisor (defE Q) (startG n N_divisor ds) := by
  intro n ds Q h
  unfold S_divisor at h
  split at h
  · rename_i a b
    show t_divisor (defE Q) ⟨[some (.dat (.int a)), some (.dat (.int b))], n⟩
    obtain ⟨h1, h2, h⟩ := h
    refine wh_inv (fun k G => ∃ x y : Int, k = y.natAbs ∧ Int.gcd x y = Int.gcd a b ∧ x.natAbs < 10 ^ 100 ∧ y.natAbs < 10 ^ 100 ∧ G = ⟨[some (.dat (.int x)), some (.dat (.int y))], n⟩) ?_ (m := b.natAbs) ⟨a, b, rfl, rfl, h1, h2, rfl⟩
    rintro k G N ⟨x, y, rfl, e, x1, y1, rfl⟩ hN
    by_cases z : y = 0
    · subst z
      have ab : absI x = (Int.gcd a b : Int) := by rw [← e, Int.gcd_zero_right, absI_eq]; omega
      simp -implicitDefEqProofs only [t_divisor, ↓XP, ↓x_ifs, ↓XU, XU, XQ, eq_self, List.reverse_cons, List.reverse_nil, Int.cast_ofNat_Int, List.length_cons, List.length_nil, List.nil_append, List.cons_append, ne_eq, Nat.reduceAdd, Nat.reduceLeDiff, Int.reduceEq, Int.reduceLT, Int.reduceLE, Int.reduceToNat, Int.reducePow, Int.reduceAdd, Int.reduceMul, Int.reduceSub, Int.reduceNeg, List.getElem?_cons_zero, List.getElem?_cons_succ, dd_is_integer, dd_need_number]
      rw [ab]
      exact h
    · have lt := fmod_abs (x := x) z
      simp -implicitDefEqProofs only [t_divisor, ↓XP, ↓x_ifs, ↓XU, XU, XQ, eq_self, List.reverse_cons, List.reverse_nil, Int.cast_ofNat_Int, List.length_cons, List.length_nil, List.nil_append, List.cons_append, ne_eq, Nat.reduceAdd, Nat.reduceLeDiff, Int.reduceEq, Int.reduceLT, Int.reduceLE, Int.reduceToNat, Int.reducePow, Int.reduceAdd, Int.reduceMul, Int.reduceSub, Int.reduceNeg, List.getElem?_cons_zero, List.getElem?_cons_succ, dd_is_integer, dd_need_number, z]
      first
        | exact hN _ _ lt ⟨y, x.fmod y, rfl, by rw [gcd_fmod]; exact e, y1, by omega, rfl⟩
        | exact ⟨lg (by omega), hN _ _ lt ⟨y, x.fmod y, rfl, by rw [gcd_fmod]; exact e, y1, by omega, rfl⟩⟩
        | exact ⟨by omega, lg (by omega), hN _ _ lt ⟨y, x.fmod y, rfl, by rw [gcd_fmod]; exact e, y1, by omega, rfl⟩⟩
  · exact h.elim
theorem inv_step {f s o r q m : Int} (h : (f.natAbs : Int) * r + (s.natAbs : Int) * o ≤ m) (hq : 0 ≤ q) (hr : 0 ≤ r) (ho : 0 ≤ o - q * r) : (s.natAbs : Int) * (o - q * r) + ((f - q * s).natAbs : Int) * r ≤ m := by
  have h1 : ((f - q * s).natAbs : Int) ≤ f.natAbs + q * s.natAbs := by
    have e1 : (f - q * s).natAbs ≤ f.natAbs + (q * s).natAbs := Int.natAbs_sub_le f (q * s)
    have e2 : (q * s).natAbs = q.natAbs * s.natAbs := Int.natAbs_mul q s
    have e3 : ((q.natAbs * s.natAbs : Nat) : Int) = q * s.natAbs := by rw [Int.natCast_mul, Int.natAbs_of_nonneg hq]
    omega
  have h2 := Int.mul_le_mul_of_nonneg_right h1 hr
  rw [Int.add_mul] at h2
  rw [Int.mul_sub]
  have h3 : q * (s.natAbs : Int) * r = (s.natAbs : Int) * (q * r) := by rw [Int.mul_comm q, Int.mul_assoc]
  omega
theorem L_inverse_of : ∀ n ds Q, S_inverse_of n ds Q → ds.length = ps_inverse_of.length := by
  intro n ds Q h
  unfold S_inverse_of at h
  split at h <;> first | exact h.elim | rfl
set_option maxHeartbeats 0 in
theorem l_inverse_of : ∀ n ds Q, S_inverse_of n ds Q → t_inverse_of (defE Q) (startG n N_inverse_of ds) := by
  intro n ds Q h
  unfold S_inverse_of at h
  split at h
  · rename_i v m
    show t_inverse_of (defE Q) ⟨[some (.dat (.int v)), some (.dat (.int m)), none, none, none, none, none], n⟩
    obtain ⟨⟨m1, m2⟩, v1, hg, h⟩ := h
    have nn : 0 ≤ v.fmod m := Int.fmod_nonneg_of_pos v (by omega)
    have lt := Int.fmod_lt_of_pos v (show 0 < m by omega)
    have f0 : v.fmod m = v - m * v.fdiv m := Int.fmod_def v m
    simp -implicitDefEqProofs only [t_inverse_of, ↓XP, ↓x_ifs, ↓XU, XU, XQ, eq_self, List.reverse_cons, List.reverse_nil, Int.cast_ofNat_Int, List.length_cons, List.length_nil, List.nil_append, List.cons_append, ne_eq, Nat.reduceAdd, Nat.reduceLeDiff, Int.reduceEq, Int.reduceLT, Int.reduceLE, Int.reduceToNat, Int.reducePow, Int.reduceAdd, Int.reduceMul, Int.reduceSub, Int.reduceNeg, List.getElem?_cons_zero, List.getElem?_cons_succ, dd_is_integer, dd_need_number]
    refine ⟨by omega, ?_⟩
    refine wh_inv (fun k G => ∃ (o r f s : Int) (o6 : Option SC), k = r.toNat ∧ (1 ≤ o ∧ o ≤ m) ∧ (0 ≤ r ∧ r ≤ m) ∧ Int.gcd o r = 1 ∧ (∃ k1, o = f * v + k1 * m) ∧ (∃ k2, r = s * v + k2 * m) ∧ (f.natAbs : Int) * r + (s.natAbs : Int) * o ≤ m ∧ (f.natAbs : Int) ≤ m ∧ G = ⟨[some (.dat (.int v)), some (.dat (.int m)), some (.dat (.int o)), some (.dat (.int r)), some (.dat (.int f)), some (.dat (.int s)), o6], n⟩) ?_ (m := (v.fmod m).toNat) ⟨m, v.fmod m, 0, 1, none, rfl, ⟨m1, by omega⟩, ⟨nn, by omega⟩, by rw [gcd_fmod]; exact hg, ⟨1, by rw [Int.zero_mul, Int.one_mul, Int.zero_add]⟩, ⟨-(v.fdiv m), by rw [f0, Int.one_mul, Int.neg_mul, Int.mul_comm m]; omega⟩, by simp, by simp; omega, rfl⟩
    rintro k G N ⟨o, r, f, s, o6, rfl, ⟨o1, o2⟩, ⟨r1, r2⟩, g, ⟨k1, e1⟩, ⟨k2, e2⟩, b1, b2, rfl⟩ hN
    by_cases z : 0 < r
    · have nr : 0 ≤ (f.natAbs : Int) * r := Int.mul_nonneg (by omega) r1
      have sb : (s.natAbs : Int) ≤ m := by
        have := Int.mul_le_mul_of_nonneg_left o1 (show 0 ≤ (s.natAbs : Int) by omega)
        omega
      have ed : o.fdiv r = o / r := Int.fdiv_eq_ediv_of_nonneg _ r1
      have q0 : 0 ≤ o / r := Int.ediv_nonneg (by omega) r1
      have q1 : o / r ≤ o := Int.ediv_le_self _ (by omega)
      have em : o - o / r * r = o % r := by have := Int.emod_add_mul_ediv o r; rw [Int.mul_comm] at this; omega
      have m0 := Int.emod_nonneg o (show r ≠ 0 by omega)
      have ml := Int.emod_lt_of_pos o z
      have eg : Int.gcd r (o - o / r * r) = 1 := by
        rw [em, ← Int.fmod_eq_emod_of_nonneg _ r1, gcd_fmod]; exact g
      have st := inv_step (q := o / r) b1 q0 r1 (by omega)
      simp -implicitDefEqProofs only [t_inverse_of, ↓XP, ↓x_ifs, ↓XU, XU, XQ, eq_self, List.reverse_cons, List.reverse_nil, Int.cast_ofNat_Int, List.length_cons, List.length_nil, List.nil_append, List.cons_append, ne_eq, Nat.reduceAdd, Nat.reduceLeDiff, Int.reduceEq, Int.reduceLT, Int.reduceLE, Int.reduceToNat, Int.reducePow, Int.reduceAdd, Int.reduceMul, Int.reduceSub, Int.reduceNeg, List.getElem?_cons_zero, List.getElem?_cons_succ, dd_is_integer, dd_need_number, z]
      rw [ed]
      refine ⟨by omega, lg (by omega), cm (by omega) (by omega), cm (by omega) (by omega), ?_⟩
      have s0 : 0 ≤ (s.natAbs : Int) * (o - o / r * r) := Int.mul_nonneg (by omega) (by omega)
      refine hN _ _ (show (o - o / r * r).toNat < r.toNat by omega) ⟨r, o - o / r * r, s, f - o / r * s, _, rfl, ⟨by omega, r2⟩, ⟨by omega, by omega⟩, eg, ⟨k2, e2⟩, ⟨k1 - o / r * k2, ?_⟩, st, sb, rfl⟩
      rw [Int.sub_mul, Int.sub_mul, Int.mul_assoc, Int.mul_assoc]
      have h3 : o / r * r = o / r * (s * v) + o / r * (k2 * m) := by rw [← Int.mul_add, ← e2]
      omega
    · obtain rfl : r = 0 := by omega
      rw [Int.gcd_zero_right] at g
      simp -implicitDefEqProofs only [t_inverse_of, ↓XP, ↓x_ifs, ↓XU, XU, XQ, eq_self, List.reverse_cons, List.reverse_nil, Int.cast_ofNat_Int, List.length_cons, List.length_nil, List.nil_append, List.cons_append, ne_eq, Nat.reduceAdd, Nat.reduceLeDiff, Int.reduceEq, Int.reduceLT, Int.reduceLE, Int.reduceToNat, Int.reducePow, Int.reduceAdd, Int.reduceMul, Int.reduceSub, Int.reduceNeg, List.getElem?_cons_zero, List.getElem?_cons_succ, dd_is_integer, dd_need_number]
      refine ⟨by omega, h _ (Int.fmod_nonneg_of_pos f (by omega)) (Int.fmod_lt_of_pos f (by omega)) ⟨-(k1 + v * f.fdiv m), ?_⟩⟩
      rw [Int.fmod_def, Int.mul_sub, Int.neg_mul, Int.add_mul]
      have e3 : v * (m * f.fdiv m) = v * f.fdiv m * m := by rw [Int.mul_comm m, Int.mul_assoc]
      have e4 : v * f = f * v := Int.mul_comm v f
      omega
  · exact h.elim
theorem L_turns_within : ∀ n ds Q, S_turns_within n ds Q → ds.length = ps_turns_within.length := by
  intro n ds Q h
  unfold S_turns_within at h
  split at h <;> first | exact h.elim | rfl
set_option maxHeartbeats 0 in
theorem l_turns_within : ∀ n ds Q, S_turns_within n ds Q → t_turns_within (defE Q) (startG n N_turns_within ds) := by
  intro n ds Q h
  unfold S_turns_within at h
  split at h
  · rename_i s m z
    show t_turns_within (defE Q) ⟨[some (.dat (.int s)), some (.dat (.int m)), some (.dat (.int z))], n⟩
    obtain ⟨m0, m1, h⟩ := h
    have dv : ∀ {x d : Int}, 0 < d → ∀ k : Int, k ≤ x.fdiv d ↔ k * d ≤ x := fun {x d} hd k => by
      rw [Int.fdiv_eq_ediv_of_nonneg _ (by omega)]
      exact Int.le_ediv_iff_mul_le hd
    by_cases c : m < 0
    · simp -implicitDefEqProofs only [t_turns_within, ↓XP, ↓x_ifs, ↓XU, XU, XQ, eq_self, List.reverse_cons, List.reverse_nil, Int.cast_ofNat_Int, List.length_cons, List.length_nil, List.nil_append, List.cons_append, ne_eq, Nat.reduceAdd, Nat.reduceLeDiff, Int.reduceEq, Int.reduceLT, Int.reduceLE, Int.reduceToNat, Int.reducePow, Int.reduceAdd, Int.reduceMul, Int.reduceSub, Int.reduceNeg, List.getElem?_cons_zero, List.getElem?_cons_succ, dd_is_integer, dd_need_number, m0, c]
      have fb : ∀ {x : Int}, (x.fdiv (-m)).natAbs ≤ x.natAbs := fun {x} => by rw [Int.fdiv_eq_ediv_of_nonneg _ (by omega)]; exact Int.natAbs_ediv_le_natAbs ..
      have f1 := fb (x := z - 1 - s)
      have f2 := fb (x := z - 1 - (z - 1 - s))
      refine ⟨by omega, lg (by omega), by omega, lg (by omega), h _ _ ⟨by omega, by omega⟩ fun k => ?_⟩
      have a1 := dv (x := z - 1 - s) (d := -m) (by omega) (-k)
      have a2 := dv (x := z - 1 - (z - 1 - s)) (d := -m) (by omega) k
      rw [Int.neg_mul_neg] at a1
      rw [Int.mul_neg] at a2
      omega
    · simp -implicitDefEqProofs only [t_turns_within, ↓XP, ↓x_ifs, ↓XU, XU, XQ, eq_self, List.reverse_cons, List.reverse_nil, Int.cast_ofNat_Int, List.length_cons, List.length_nil, List.nil_append, List.cons_append, ne_eq, Nat.reduceAdd, Nat.reduceLeDiff, Int.reduceEq, Int.reduceLT, Int.reduceLE, Int.reduceToNat, Int.reducePow, Int.reduceAdd, Int.reduceMul, Int.reduceSub, Int.reduceNeg, List.getElem?_cons_zero, List.getElem?_cons_succ, dd_is_integer, dd_need_number, m0, c]
      have fb : ∀ {x : Int}, (x.fdiv m).natAbs ≤ x.natAbs := fun {x} => by rw [Int.fdiv_eq_ediv_of_nonneg _ (by omega)]; exact Int.natAbs_ediv_le_natAbs ..
      have f1 := fb (x := s)
      have f2 := fb (x := z - 1 - s)
      refine ⟨lg (by omega), lg (by omega), h _ _ ⟨by omega, by omega⟩ fun k => ?_⟩
      have a1 := dv (x := s) (d := m) (by omega) (-k)
      have a2 := dv (x := z - 1 - s) (d := m) (by omega) k
      rw [Int.neg_mul] at a1
      omega
  · exact h.elim
theorem line_none {a b r c t x y u v : Int} (hb : u.natAbs < 10 ^ 50 ∧ v.natAbs < 10 ^ 50) (hu : 0 < u ∨ (u = 0 ∧ 0 < v)) (h : ∀ p q : Int, inB r c p q → a * p + b * q ≠ t) : LineP a b r c t x y u v 0 :=
  ⟨Int.le_refl _, hb, hu, fun p q => ⟨fun z => absurd z.2 (h p q z.1), fun ⟨i, h1, h2, _⟩ => absurd h2 (by omega)⟩⟩
theorem cop_dvd {A B x : Int} (hg : Int.gcd A B = 1) (h : B ∣ A * x) : B ∣ x := by
  have h2 : B.natAbs ∣ A.natAbs * x.natAbs := by rw [← Int.natAbs_mul]; exact Int.natAbs_dvd_natAbs.mpr h
  have cp : Nat.Coprime B.natAbs A.natAbs := by
    show Nat.gcd B.natAbs A.natAbs = 1
    rw [Nat.gcd_comm]; exact hg
  exact Int.natAbs_dvd_natAbs.mp (cp.dvd_of_dvd_mul_left h2)
theorem sol_iff {A B T row col M m1 : Int} (hB : B ≠ 0) (hg : Int.gcd A B = 1) (e : A * row + B * col = T) (hm : (M = B ∧ m1 = -A) ∨ (M = -B ∧ m1 = A)) (p q : Int) : A * p + B * q = T ↔ ∃ k, p = row + k * M ∧ q = col + k * m1 := by
  constructor
  · intro h
    have h1 : A * (p - row) = B * (col - q) := by grind
    obtain ⟨j, hj⟩ : B ∣ p - row := cop_dvd hg ⟨_, h1⟩
    have h3 : A * j = col - q := by
      refine Int.eq_of_mul_eq_mul_left hB ?_
      grind
    rcases hm with ⟨rfl, rfl⟩ | ⟨rfl, rfl⟩
    · exact ⟨j, by grind, by grind⟩
    · exact ⟨-j, by grind, by grind⟩
  · rintro ⟨k, rfl, rfl⟩
    rcases hm with ⟨rfl, rfl⟩ | ⟨rfl, rfl⟩ <;> grind
/-- a wave by its first solution, the steps and the turns in the box -/
theorem line_of {inB' : Int → Int → Prop} {A B T row col M m1 l1 h1 l2 h2 r c : Int} (hI : ∀ p q, inB' p q ↔ (0 ≤ p ∧ p < r) ∧ (0 ≤ q ∧ q < c)) (hB : B ≠ 0) (hg : Int.gcd A B = 1) (e : A * row + B * col = T) (hm : (M = B ∧ m1 = -A) ∨ (M = -B ∧ m1 = A))
    (s1 : ∀ k : Int, l1 ≤ k ∧ k ≤ h1 ↔ 0 ≤ row + k * M ∧ row + k * M < r) (s2 : ∀ k : Int, l2 ≤ k ∧ k ≤ h2 ↔ 0 ≤ col + k * m1 ∧ col + k * m1 < c) (lo hi mx : Int) (hlo : lo = max l1 l2) (hhi : hi = min h1 h2) (hmx : mx = max 0 (hi - lo + 1)) (p q : Int) :
    (inB' p q ∧ A * p + B * q = T) ↔ ∃ i : Int, 0 ≤ i ∧ i < mx ∧ p = row + lo * M + i * M ∧ q = col + lo * m1 + i * m1 := by
  rw [hI, sol_iff hB hg e hm]
  constructor
  · rintro ⟨⟨b1, b2⟩, k, rfl, rfl⟩
    have t1 := (s1 k).mpr b1
    have t2 := (s2 k).mpr b2
    exact ⟨k - lo, by omega, by omega, by rw [Int.sub_mul]; omega, by rw [Int.sub_mul]; omega⟩
  · rintro ⟨i, i1, i2, rfl, rfl⟩
    have t1 := (s1 (lo + i)).mp (by omega)
    have t2 := (s2 (lo + i)).mp (by omega)
    rw [Int.add_mul] at t1 t2
    exact ⟨⟨by omega, by omega⟩, lo + i, by rw [Int.add_mul]; omega, by rw [Int.add_mul]; omega⟩
theorem col_is {A B T x M k : Int} (hB : B ≠ 0) (hm : M = B ∨ M = -B) (hx : A * x = 1 + k * M) : A * ((T * x).fmod M) + B * ((T - A * ((T * x).fmod M)).fdiv B) = T := by
  have f := Int.fmod_def (T * x) M
  generalize (T * x).fdiv M = q at f
  generalize (T * x).fmod M = row at f ⊢
  have e : ∃ s, T - A * row = B * s := by
    rcases hm with rfl | rfl
    · exact ⟨A * q - T * k, by grind⟩
    · exact ⟨-(A * q - T * k), by grind⟩
  obtain ⟨s, e⟩ := e
  rw [e, Int.mul_fdiv_cancel_left _ hB]
  omega
theorem gcd_parts {a b : Int} (h : a ≠ 0) : ∃ A B : Int, a = Int.gcd a b * A ∧ b = Int.gcd a b * B ∧ Int.gcd A B = 1 := by
  obtain ⟨A, hA⟩ := Int.gcd_dvd_left a b
  obtain ⟨B, hB⟩ := Int.gcd_dvd_right a b
  refine ⟨A, B, hA, hB, ?_⟩
  have g := Int.gcd_mul_left (Int.gcd a b) A B
  rw [← hA, ← hB, Int.natAbs_natCast] at g
  have gp := Int.gcd_pos_of_ne_zero_left b h
  exact (Nat.eq_of_mul_eq_mul_left gp (by rw [Nat.mul_one]; exact g)).symm
theorem abs_part {g A a : Int} (h : a = g * A) (hg : 0 < g) : A.natAbs ≤ a.natAbs := by
  rw [h, Int.natAbs_mul]
  exact Nat.le_mul_of_pos_left _ (by omega)
theorem L_wave_line : ∀ n ds Q, S_wave_line n ds Q → ds.length = ps_wave_line.length := by
  intro n ds Q h
  unfold S_wave_line at h
  split at h <;> first | exact h.elim | rfl
set_option maxHeartbeats 0 in
theorem l_wave_line : ∀ n ds Q, S_wave_line n ds Q → t_wave_line (defE Q) (startG n N_wave_line ds) := by
  intro n ds Q h
  unfold S_wave_line at h
  split at h
  · rename_i a b r c t
    show t_wave_line (defE Q) ⟨[some (.dat (.tup [.int a, .int b])), some (.dat (.int r)), some (.dat (.int c)), some (.dat (.int t)), none, none, none, none, none, none, none, none, none, none, none], n⟩
    obtain ⟨h0, ⟨a1, b1, t1⟩, ⟨r1, r2⟩, ⟨c1, c2⟩, h⟩ := h
    have fm : ∀ {x d : Int}, d ≠ 0 → (x.fmod d = 0 ↔ x = d * x.fdiv d) := fun {x d} hd => by have := Int.fmod_def x d; omega
    by_cases b0 : b = 0
    · subst b0
      have na : a ≠ 0 := fun z => h0 ⟨z, rfl⟩
      simp -implicitDefEqProofs only [t_wave_line, ↓XP, ↓x_ifs, ↓XU, XU, XQ, eq_self, List.reverse_cons, List.reverse_nil, Int.cast_ofNat_Int, List.length_cons, List.length_nil, List.nil_append, List.cons_append, ne_eq, Nat.reduceAdd, Nat.reduceLeDiff, Int.reduceEq, Int.reduceLT, Int.reduceLE, Int.reduceToNat, Int.reducePow, Int.reduceAdd, Int.reduceMul, Int.reduceSub, Int.reduceNeg, List.getElem?_cons_zero, List.getElem?_cons_succ, dd_is_integer, dd_need_number]
      refine ⟨⟨na, lg (by omega)⟩, ?_⟩
      have key : ∀ p : Int, a * p = t → t.fmod a = 0 ∧ p = t.fdiv a := fun p e => by
        subst e; exact ⟨Int.mul_fmod_right a p, (Int.mul_fdiv_cancel_left p na).symm⟩
      by_cases z : t.fmod a = 0
      · have e := (fm na).mp z
        by_cases g : 0 ≤ t.fdiv a ∧ t.fdiv a < r
        · simp -implicitDefEqProofs only [t_wave_line, ↓XP, ↓x_ifs, ↓XU, XU, XQ, eq_self, List.reverse_cons, List.reverse_nil, Int.cast_ofNat_Int, List.length_cons, List.length_nil, List.nil_append, List.cons_append, ne_eq, Nat.reduceAdd, Nat.reduceLeDiff, Int.reduceEq, Int.reduceLT, Int.reduceLE, Int.reduceToNat, Int.reducePow, Int.reduceAdd, Int.reduceMul, Int.reduceSub, Int.reduceNeg, List.getElem?_cons_zero, List.getElem?_cons_succ, dd_is_integer, dd_need_number, z, g.1, g.2]
          refine h _ _ _ _ _ ⟨by omega, by decide, .inr ⟨rfl, by decide⟩, fun p q => ⟨fun w => ⟨q, w.1.2.2.1, w.1.2.2.2, ?_, by omega⟩, ?_⟩⟩
          · have := (key p (by have := w.2; omega)).2
            omega
          · rintro ⟨i, i1, i2, rfl, rfl⟩
            unfold inB
            refine ⟨by omega, ?_⟩
            rw [Int.mul_zero, Int.add_zero, Int.zero_mul]; omega
        · have no : Q (.dat (.tup [.tup [.int (t.fdiv a), .int 0], .tup [.int 0, .int 1], .int 0])) n := h _ _ _ _ _ (line_none (by decide) (.inr ⟨rfl, by decide⟩) fun p q w e2 => by
            have := (key p (by omega)).2
            unfold inB at w
            omega)
          by_cases g1 : 0 ≤ t.fdiv a
          · have g2 : ¬ t.fdiv a < r := fun y => g ⟨g1, y⟩
            simp -implicitDefEqProofs only [t_wave_line, ↓XP, ↓x_ifs, ↓XU, XU, XQ, eq_self, List.reverse_cons, List.reverse_nil, Int.cast_ofNat_Int, List.length_cons, List.length_nil, List.nil_append, List.cons_append, ne_eq, Nat.reduceAdd, Nat.reduceLeDiff, Int.reduceEq, Int.reduceLT, Int.reduceLE, Int.reduceToNat, Int.reducePow, Int.reduceAdd, Int.reduceMul, Int.reduceSub, Int.reduceNeg, List.getElem?_cons_zero, List.getElem?_cons_succ, dd_is_integer, dd_need_number, z, g1, g2]
            exact no
          · simp -implicitDefEqProofs only [t_wave_line, ↓XP, ↓x_ifs, ↓XU, XU, XQ, eq_self, List.reverse_cons, List.reverse_nil, Int.cast_ofNat_Int, List.length_cons, List.length_nil, List.nil_append, List.cons_append, ne_eq, Nat.reduceAdd, Nat.reduceLeDiff, Int.reduceEq, Int.reduceLT, Int.reduceLE, Int.reduceToNat, Int.reducePow, Int.reduceAdd, Int.reduceMul, Int.reduceSub, Int.reduceNeg, List.getElem?_cons_zero, List.getElem?_cons_succ, dd_is_integer, dd_need_number, z, g1]
            exact no
      · simp -implicitDefEqProofs only [t_wave_line, ↓XP, ↓x_ifs, ↓XU, XU, XQ, eq_self, List.reverse_cons, List.reverse_nil, Int.cast_ofNat_Int, List.length_cons, List.length_nil, List.nil_append, List.cons_append, ne_eq, Nat.reduceAdd, Nat.reduceLeDiff, Int.reduceEq, Int.reduceLT, Int.reduceLE, Int.reduceToNat, Int.reducePow, Int.reduceAdd, Int.reduceMul, Int.reduceSub, Int.reduceNeg, List.getElem?_cons_zero, List.getElem?_cons_succ, dd_is_integer, dd_need_number, z]
        exact h _ _ _ _ _ (line_none (by decide) (.inr ⟨rfl, by decide⟩) fun p q w e2 => z (key p (by omega)).1)
    · by_cases a0 : a = 0
      · subst a0
        simp -implicitDefEqProofs only [t_wave_line, ↓XP, ↓x_ifs, ↓XU, XU, XQ, eq_self, List.reverse_cons, List.reverse_nil, Int.cast_ofNat_Int, List.length_cons, List.length_nil, List.nil_append, List.cons_append, ne_eq, Nat.reduceAdd, Nat.reduceLeDiff, Int.reduceEq, Int.reduceLT, Int.reduceLE, Int.reduceToNat, Int.reducePow, Int.reduceAdd, Int.reduceMul, Int.reduceSub, Int.reduceNeg, List.getElem?_cons_zero, List.getElem?_cons_succ, dd_is_integer, dd_need_number, b0]
        first | refine ⟨⟨b0, lg (by omega)⟩, ?_⟩ | refine ⟨lg (by omega), ?_⟩
        have key : ∀ p : Int, b * p = t → t.fmod b = 0 ∧ p = t.fdiv b := fun p e => by
          subst e; exact ⟨Int.mul_fmod_right b p, (Int.mul_fdiv_cancel_left p b0).symm⟩
        by_cases z : t.fmod b = 0
        · have e := (fm b0).mp z
          by_cases g : 0 ≤ t.fdiv b ∧ t.fdiv b < c
          · simp -implicitDefEqProofs only [t_wave_line, ↓XP, ↓x_ifs, ↓XU, XU, XQ, eq_self, List.reverse_cons, List.reverse_nil, Int.cast_ofNat_Int, List.length_cons, List.length_nil, List.nil_append, List.cons_append, ne_eq, Nat.reduceAdd, Nat.reduceLeDiff, Int.reduceEq, Int.reduceLT, Int.reduceLE, Int.reduceToNat, Int.reducePow, Int.reduceAdd, Int.reduceMul, Int.reduceSub, Int.reduceNeg, List.getElem?_cons_zero, List.getElem?_cons_succ, dd_is_integer, dd_need_number, z, g.1, g.2]
            refine h _ _ _ _ _ ⟨by omega, by decide, .inl (by decide), fun p q => ⟨fun w => ⟨p, w.1.1, w.1.2.1, by omega, ?_⟩, ?_⟩⟩
            · have := (key q (by have := w.2; omega)).2
              omega
            · rintro ⟨i, i1, i2, rfl, rfl⟩
              unfold inB
              refine ⟨by omega, ?_⟩
              rw [Int.mul_zero, Int.add_zero, Int.zero_mul]; omega
          · have no : Q (.dat (.tup [.tup [.int 0, .int (t.fdiv b)], .tup [.int 1, .int 0], .int 0])) n := h _ _ _ _ _ (line_none (by decide) (.inl (by decide)) fun p q w e2 => by
              have := (key q (by omega)).2
              unfold inB at w
              omega)
            by_cases g1 : 0 ≤ t.fdiv b
            · have g2 : ¬ t.fdiv b < c := fun y => g ⟨g1, y⟩
              simp -implicitDefEqProofs only [t_wave_line, ↓XP, ↓x_ifs, ↓XU, XU, XQ, eq_self, List.reverse_cons, List.reverse_nil, Int.cast_ofNat_Int, List.length_cons, List.length_nil, List.nil_append, List.cons_append, ne_eq, Nat.reduceAdd, Nat.reduceLeDiff, Int.reduceEq, Int.reduceLT, Int.reduceLE, Int.reduceToNat, Int.reducePow, Int.reduceAdd, Int.reduceMul, Int.reduceSub, Int.reduceNeg, List.getElem?_cons_zero, List.getElem?_cons_succ, dd_is_integer, dd_need_number, z, g1, g2]
              exact no
            · simp -implicitDefEqProofs only [t_wave_line, ↓XP, ↓x_ifs, ↓XU, XU, XQ, eq_self, List.reverse_cons, List.reverse_nil, Int.cast_ofNat_Int, List.length_cons, List.length_nil, List.nil_append, List.cons_append, ne_eq, Nat.reduceAdd, Nat.reduceLeDiff, Int.reduceEq, Int.reduceLT, Int.reduceLE, Int.reduceToNat, Int.reducePow, Int.reduceAdd, Int.reduceMul, Int.reduceSub, Int.reduceNeg, List.getElem?_cons_zero, List.getElem?_cons_succ, dd_is_integer, dd_need_number, z, g1]
              exact no
        · simp -implicitDefEqProofs only [t_wave_line, ↓XP, ↓x_ifs, ↓XU, XU, XQ, eq_self, List.reverse_cons, List.reverse_nil, Int.cast_ofNat_Int, List.length_cons, List.length_nil, List.nil_append, List.cons_append, ne_eq, Nat.reduceAdd, Nat.reduceLeDiff, Int.reduceEq, Int.reduceLT, Int.reduceLE, Int.reduceToNat, Int.reducePow, Int.reduceAdd, Int.reduceMul, Int.reduceSub, Int.reduceNeg, List.getElem?_cons_zero, List.getElem?_cons_succ, dd_is_integer, dd_need_number, z]
          exact h _ _ _ _ _ (line_none (by decide) (.inl (by decide)) fun p q w e2 => z (key q (by omega)).1)
      · have gp : 0 < (Int.gcd a b : Int) := by have := Int.gcd_pos_of_ne_zero_left b a0; omega
        obtain ⟨A, B, hA, hB, hg⟩ := gcd_parts (b := b) a0
        simp -implicitDefEqProofs only [t_wave_line, ↓XP, ↓x_ifs, ↓XU, XU, XQ, eq_self, List.reverse_cons, List.reverse_nil, Int.cast_ofNat_Int, List.length_cons, List.length_nil, List.nil_append, List.cons_append, ne_eq, Nat.reduceAdd, Nat.reduceLeDiff, Int.reduceEq, Int.reduceLT, Int.reduceLE, Int.reduceToNat, Int.reducePow, Int.reduceAdd, Int.reduceMul, Int.reduceSub, Int.reduceNeg, List.getElem?_cons_zero, List.getElem?_cons_succ, dd_is_integer, dd_need_number, a0, b0]
        refine ⟨by omega, by omega, by omega, ?_⟩
        generalize (Int.gcd a b : Int) = g at gp hA hB ⊢
        have A1 := abs_part hA gp
        have B1 := abs_part hB gp
        have nA : A ≠ 0 := fun z => a0 (by rw [hA, z, Int.mul_zero])
        have nB : B ≠ 0 := fun z => b0 (by rw [hB, z, Int.mul_zero])
        have sum : ∀ p q : Int, a * p + b * q = g * (A * p + B * q) := fun p q => by rw [hA, hB, Int.mul_add, Int.mul_assoc, Int.mul_assoc]
        by_cases z : t.fmod g = 0
        · have e := (fm (show g ≠ 0 by omega)).mp z
          have ea : a.fdiv g = A := by rw [hA]; exact Int.mul_fdiv_cancel_left A (by omega)
          have eb : b.fdiv g = B := by rw [hB]; exact Int.mul_fdiv_cancel_left B (by omega)
          have T1 := abs_part e gp
          have G1 : g.natAbs < 10 ^ 40 := by
            have : g.natAbs ≤ a.natAbs := by rw [hA, Int.natAbs_mul]; exact Nat.le_mul_of_pos_right _ (by omega)
            omega
          rw [decide_eq_true z]
          simp -implicitDefEqProofs only [t_wave_line, ↓XP, ↓x_ifs, ↓XU, XU, XQ, eq_self, List.reverse_cons, List.reverse_nil, Int.cast_ofNat_Int, List.length_cons, List.length_nil, List.nil_append, List.cons_append, ne_eq, Nat.reduceAdd, Nat.reduceLeDiff, Int.reduceEq, Int.reduceLT, Int.reduceLE, Int.reduceToNat, Int.reducePow, Int.reduceAdd, Int.reduceMul, Int.reduceSub, Int.reduceNeg, List.getElem?_cons_zero, List.getElem?_cons_succ, dd_is_integer, dd_need_number]
          refine ⟨by omega, lg (by omega), by omega, lg (by omega), by omega, lg (by omega), ?_⟩
          rw [ea, eb]
          generalize t.fdiv g = T at e T1 ⊢
          have M1 : 1 ≤ absI B ∧ absI B < 10 ^ 40 := by rw [absI_eq]; omega
          have gM : Int.gcd A (absI B) = 1 := by
            unfold absI
            split
            · rw [Int.gcd_neg]; exact hg
            · exact hg
          by_cases B0 : 0 < B
          all_goals
            simp -implicitDefEqProofs only [t_wave_line, ↓XP, ↓x_ifs, ↓XU, XU, XQ, eq_self, List.reverse_cons, List.reverse_nil, Int.cast_ofNat_Int, List.length_cons, List.length_nil, List.nil_append, List.cons_append, ne_eq, Nat.reduceAdd, Nat.reduceLeDiff, Int.reduceEq, Int.reduceLT, Int.reduceLE, Int.reduceToNat, Int.reducePow, Int.reduceAdd, Int.reduceMul, Int.reduceSub, Int.reduceNeg, List.getElem?_cons_zero, List.getElem?_cons_succ, dd_is_integer, dd_need_number, B0]
            refine ⟨⟨M1.1, by omega⟩, by omega, gM, fun x x1 x2 ⟨k, hx⟩ => ?_⟩
            have hM : absI B = B ∨ absI B = -B := by rw [absI_eq]; omega
            have ec := col_is (T := T) nB hM hx
            have rw0 := Int.fmod_nonneg_of_pos (T * x) (show 0 < absI B by omega)
            have rw1 := Int.fmod_lt_of_pos (T * x) (show 0 < absI B by omega)
            try (simp -implicitDefEqProofs only [t_wave_line, ↓XP, ↓x_ifs, ↓XU, XU, XQ, eq_self, List.reverse_cons, List.reverse_nil, Int.cast_ofNat_Int, List.length_cons, List.length_nil, List.nil_append, List.cons_append, ne_eq, Nat.reduceAdd, Nat.reduceLeDiff, Int.reduceEq, Int.reduceLT, Int.reduceLE, Int.reduceToNat, Int.reducePow, Int.reduceAdd, Int.reduceMul, Int.reduceSub, Int.reduceNeg, List.getElem?_cons_zero, List.getElem?_cons_succ, dd_is_integer, dd_need_number])
            refine ⟨cm (by omega) (by omega), by omega, ?_⟩
            generalize (T * x).fmod (absI B) = row at ec rw0 rw1 ⊢
            refine ⟨cm (by omega) (by omega), nB, lg (by omega), ?_⟩
            generalize (T - A * row).fdiv B = col at ec ⊢
            have cb : col.natAbs < 10 ^ 90 := by
              have e5 : (B * col).natAbs = B.natAbs * col.natAbs := Int.natAbs_mul ..
              have e6 : col.natAbs ≤ B.natAbs * col.natAbs := Nat.le_mul_of_pos_left _ (by omega)
              have e7 : (A * row).natAbs ≤ 10 ^ 80 := abs_mul (x := 10 ^ 40) (y := 10 ^ 40) (by omega) (by omega) (by decide)
              omega
            refine ⟨by omega, by omega, fun l1 h1 ⟨l1b, h1b⟩ s1 => ⟨by omega, by omega, fun l2 h2 ⟨l2b, h2b⟩ s2 => ?_⟩⟩
            refine max_of (ns := [l1, l2]) (by simp) fun lo i1 i2 => ?_
            have elo : lo = max l1 l2 := by
              have q1 := i2 l1 (by simp)
              have q2 := i2 l2 (by simp)
              simp only [List.mem_cons, List.not_mem_nil, or_false] at i1
              omega
            simp -implicitDefEqProofs only [t_wave_line, ↓XP, ↓x_ifs, ↓XU, XU, XQ, eq_self, List.reverse_cons, List.reverse_nil, Int.cast_ofNat_Int, List.length_cons, List.length_nil, List.nil_append, List.cons_append, ne_eq, Nat.reduceAdd, Nat.reduceLeDiff, Int.reduceEq, Int.reduceLT, Int.reduceLE, Int.reduceToNat, Int.reducePow, Int.reduceAdd, Int.reduceMul, Int.reduceSub, Int.reduceNeg, List.getElem?_cons_zero, List.getElem?_cons_succ, dd_is_integer, dd_need_number]
            refine min_of (ns := [h1, h2]) (by simp) fun hi i3 i4 => ?_
            have ehi : hi = min h1 h2 := by
              have q1 := i4 h1 (by simp)
              have q2 := i4 h2 (by simp)
              simp only [List.mem_cons, List.not_mem_nil, or_false] at i3
              omega
            simp -implicitDefEqProofs only [t_wave_line, ↓XP, ↓x_ifs, ↓XU, XU, XQ, eq_self, List.reverse_cons, List.reverse_nil, Int.cast_ofNat_Int, List.length_cons, List.length_nil, List.nil_append, List.cons_append, ne_eq, Nat.reduceAdd, Nat.reduceLeDiff, Int.reduceEq, Int.reduceLT, Int.reduceLE, Int.reduceToNat, Int.reducePow, Int.reduceAdd, Int.reduceMul, Int.reduceSub, Int.reduceNeg, List.getElem?_cons_zero, List.getElem?_cons_succ, dd_is_integer, dd_need_number]
            have eqv : ∀ p q : Int, a * p + b * q = t ↔ A * p + B * q = T := fun p q => by
              rw [sum, e]
              exact ⟨fun w => Int.eq_of_mul_eq_mul_left (by omega) w, fun w => by rw [w]⟩
            have hm : ∀ m1 : Int, (0 < B → m1 = -A) → (¬ 0 < B → m1 = A) → (absI B = B ∧ m1 = -A) ∨ (absI B = -B ∧ m1 = A) := fun m1 y1 y2 => by
              by_cases y : 0 < B
              · exact .inl ⟨by rw [absI_eq]; omega, y1 y⟩
              · exact .inr ⟨by rw [absI_eq]; omega, y2 y⟩
            unfold sizeW at *
            refine ⟨cm (by omega) (by omega), cm (by omega) (by omega), h _ _ _ _ _ ⟨by rw [maxI_eq]; omega, ⟨by omega, by omega⟩, .inl (by omega), fun p q => ?_⟩⟩
            rw [eqv]
            exact line_of (inB' := inB r c) (fun p q => by unfold inB; omega) nB hg ec (hm _ (by first | exact fun _ => rfl | exact fun w => absurd w B0) (by first | exact fun _ => rfl | exact fun w => absurd B0 w)) s1 s2 lo hi _ elo ehi (by rw [maxI_eq]) p q
        · rw [decide_eq_false z]
          simp -implicitDefEqProofs only [t_wave_line, ↓XP, ↓x_ifs, ↓XU, XU, XQ, eq_self, List.reverse_cons, List.reverse_nil, Int.cast_ofNat_Int, List.length_cons, List.length_nil, List.nil_append, List.cons_append, ne_eq, Nat.reduceAdd, Nat.reduceLeDiff, Int.reduceEq, Int.reduceLT, Int.reduceLE, Int.reduceToNat, Int.reducePow, Int.reduceAdd, Int.reduceMul, Int.reduceSub, Int.reduceNeg, List.getElem?_cons_zero, List.getElem?_cons_succ, dd_is_integer, dd_need_number]
          exact h _ _ _ _ _ (line_none (by decide) (.inl (by decide)) fun p q w e2 => z (by rw [← e2, sum]; exact Int.mul_fmod_right g _))
  · exact h.elim
theorem L_wave_size : ∀ n ds Q, S_wave_size n ds Q → ds.length = ps_wave_size.length := by
  intro n ds Q h
  unfold S_wave_size at h
  split at h <;> first | exact h.elim | rfl
set_option maxHeartbeats 0 in
theorem l_wave_size : ∀ n ds Q, S_wave_size n ds Q → t_wave_size (defE Q) (startG n N_wave_size ds) := by
  intro n ds Q h
  unfold S_wave_size at h
  split at h
  · rename_i a b r c t
    show t_wave_size (defE Q) ⟨[some (.dat (.tup [.int a, .int b])), some (.dat (.int r)), some (.dat (.int c)), some (.dat (.int t))], n⟩
    obtain ⟨h0, ⟨a1, b1, t1⟩, r1, c1, h⟩ := h
    have nz : (!(decide (a = 0) && decide (b = 0))) = true := by
      rw [Bool.not_eq_true', Bool.and_eq_false_iff, decide_eq_false_iff_not, decide_eq_false_iff_not]
      omega
    simp -implicitDefEqProofs only [t_wave_size, ↓XP, ↓x_ifs, ↓XU, XU, XQ, eq_self, List.reverse_cons, List.reverse_nil, Int.cast_ofNat_Int, List.length_cons, List.length_nil, List.nil_append, List.cons_append, ne_eq, Nat.reduceAdd, Nat.reduceLeDiff, Int.reduceEq, Int.reduceLT, Int.reduceLE, Int.reduceToNat, Int.reducePow, Int.reduceAdd, Int.reduceMul, Int.reduceSub, Int.reduceNeg, List.getElem?_cons_zero, List.getElem?_cons_succ, dd_is_integer, dd_need_number]
    refine ⟨nz, r1, c1, ?_⟩
    try (simp -implicitDefEqProofs only [t_wave_size, ↓XP, ↓x_ifs, ↓XU, XU, XQ, eq_self, List.reverse_cons, List.reverse_nil, Int.cast_ofNat_Int, List.length_cons, List.length_nil, List.nil_append, List.cons_append, ne_eq, Nat.reduceAdd, Nat.reduceLeDiff, Int.reduceEq, Int.reduceLT, Int.reduceLE, Int.reduceToNat, Int.reducePow, Int.reduceAdd, Int.reduceMul, Int.reduceSub, Int.reduceNeg, List.getElem?_cons_zero, List.getElem?_cons_succ, dd_is_integer, dd_need_number])
    refine ⟨h0, ⟨a1, b1, t1⟩, r1, c1, fun x y u v k hL => ?_⟩
    try (simp -implicitDefEqProofs only [t_wave_size, ↓XP, ↓x_ifs, ↓XU, XU, XQ, eq_self, List.reverse_cons, List.reverse_nil, Int.cast_ofNat_Int, List.length_cons, List.length_nil, List.nil_append, List.cons_append, ne_eq, Nat.reduceAdd, Nat.reduceLeDiff, Int.reduceEq, Int.reduceLT, Int.reduceLE, Int.reduceToNat, Int.reducePow, Int.reduceAdd, Int.reduceMul, Int.reduceSub, Int.reduceNeg, List.getElem?_cons_zero, List.getElem?_cons_succ, dd_is_integer, dd_need_number])
    exact h x y u v k hL
  · exact h.elim
theorem L__law_pair : ∀ n ds Q, S__law_pair n ds Q → ds.length = ps__law_pair.length := by
  intro n ds Q h
  unfold S__law_pair at h
  split at h <;> first | exact h.elim | rfl
set_option maxHeartbeats 0 in
theorem l__law_pair : ∀ n ds Q, S__law_pair n ds Q → t__law_pair (defE Q) (startG n N__law_pair ds) := by
  intro n ds Q h
  unfold S__law_pair at h
  split at h
  · rename_i f
    show t__law_pair (defE Q) ⟨[some (.dat (.src)), some (.dat (.int f)), none], n⟩
    obtain ⟨⟨f1, f2⟩, hn, h⟩ := h
    simp -implicitDefEqProofs only [t__law_pair, ↓XP, ↓x_ifs, ↓XU, XU, XQ, eq_self, List.reverse_cons, List.reverse_nil, Int.cast_ofNat_Int, List.length_cons, List.length_nil, List.nil_append, List.cons_append, ne_eq, Nat.reduceAdd, Nat.reduceLeDiff, Int.reduceEq, Int.reduceLT, Int.reduceLE, Int.reduceToNat, Int.reducePow, Int.reduceAdd, Int.reduceMul, Int.reduceSub, Int.reduceNeg, List.getElem?_cons_zero, List.getElem?_cons_succ, dd_is_integer, dd_need_number]
    refine ⟨cm (by decide +kernel) (by omega), by omega, by omega, by omega, fun x j x1 x2 j1 j2 => ⟨cm (by decide +kernel) (by omega), by omega, by omega, by omega, fun y k y1 y2 k1 k2 => ?_⟩⟩
    by_cases c : x - f = 0 ∧ y - f = 0
    · rw [decide_eq_true c.1, decide_eq_true c.2]
      simp -implicitDefEqProofs only [t__law_pair, ↓XP, ↓x_ifs, ↓XU, XU, XQ, eq_self, List.reverse_cons, List.reverse_nil, Int.cast_ofNat_Int, List.length_cons, List.length_nil, List.nil_append, List.cons_append, ne_eq, Nat.reduceAdd, Nat.reduceLeDiff, Int.reduceEq, Int.reduceLT, Int.reduceLE, Int.reduceToNat, Int.reducePow, Int.reduceAdd, Int.reduceMul, Int.reduceSub, Int.reduceNeg, List.getElem?_cons_zero, List.getElem?_cons_succ, dd_is_integer, dd_need_number]
      refine ⟨by decide +kernel, by omega, fun i m i1 i2 m1 m2 => ?_⟩
      obtain rfl | rfl | rfl | rfl : i = 0 ∨ i = 1 ∨ i = 2 ∨ i = 3 := by omega
      all_goals
        simp -implicitDefEqProofs only [t__law_pair, ↓XP, ↓x_ifs, ↓XU, XU, XQ, eq_self, List.reverse_cons, List.reverse_nil, Int.cast_ofNat_Int, List.length_cons, List.length_nil, List.nil_append, List.cons_append, ne_eq, Nat.reduceAdd, Nat.reduceLeDiff, Int.reduceEq, Int.reduceLT, Int.reduceLE, Int.reduceToNat, Int.reducePow, Int.reduceAdd, Int.reduceMul, Int.reduceSub, Int.reduceNeg, List.getElem?_cons_zero, List.getElem?_cons_succ, dd_is_integer, dd_need_number]
        exact h _ _ _ (by omega) (by omega) (by omega) (by omega) (by omega)
    · rw [show (decide (x - f = 0) && decide (y - f = 0)) = false by simpa using c]
      simp -implicitDefEqProofs only [t__law_pair, ↓XP, ↓x_ifs, ↓XU, XU, XQ, eq_self, List.reverse_cons, List.reverse_nil, Int.cast_ofNat_Int, List.length_cons, List.length_nil, List.nil_append, List.cons_append, ne_eq, Nat.reduceAdd, Nat.reduceLeDiff, Int.reduceEq, Int.reduceLT, Int.reduceLE, Int.reduceToNat, Int.reducePow, Int.reduceAdd, Int.reduceMul, Int.reduceSub, Int.reduceNeg, List.getElem?_cons_zero, List.getElem?_cons_succ, dd_is_integer, dd_need_number]
      exact h _ _ _ c (by omega) (by omega) (by omega) (by omega)
  · exact h.elim
theorem keysI_of : ∀ {es : List (Key × D)} {ns : List Int}, es.map (·.1) = ns.map Sum.inl → keysI es = some ns
  | [], ns, h => by cases ns with | nil => rfl | cons a ns => cases h
  | (k, d) :: es, ns, h => by
    cases ns with
    | nil => cases h
    | cons a ns =>
      rw [List.map_cons, List.map_cons] at h
      obtain ⟨h1, h2⟩ := List.cons.inj h
      have h1 : k = .inl a := h1
      subst h1
      rw [keysI, keysI_of h2]
theorem keysI_map : ∀ {es : List (Key × D)} {ns : List Int}, keysI es = some ns → es.map (·.1) = ns.map Sum.inl
  | [], ns, h => by cases h; rfl
  | (k, d) :: es, ns, h => by
    cases k with
    | inr x => cases h
    | inl i =>
      cases e : keysI es with
      | none => rw [keysI, e] at h; cases h
      | some ms =>
        rw [keysI, e] at h
        cases h
        rw [List.map_cons, List.map_cons, keysI_map e]
theorem keysI_put {es : List (Key × D)} {ns : List Int} {m : Int} {v : D} (h : keysI es = some ns) : ∃ ns', keysI (putD es (.inl m) v) = some ns' ∧ ∀ j, j ∈ ns' ↔ j ∈ ns ∨ j = m := by
  have hm := keysI_map h
  unfold putD
  by_cases c : (es.any fun kv => decide (kv.1 = Sum.inl m)) = true
  · rw [if_pos c]
    refine ⟨ns, keysI_of ?_, fun j => ⟨.inl, fun z => ?_⟩⟩
    · rw [← hm, List.map_map]
      refine List.map_congr_left fun kv _ => ?_
      show (if kv.1 = Sum.inl m then (kv.1, v) else kv).1 = kv.1
      split <;> rfl
    · rcases z with z | rfl
      · exact z
      · obtain ⟨kv, h1, h2⟩ := List.any_eq_true.mp c
        have : kv.1 ∈ ns.map (Sum.inl : Int → Key) := by rw [← hm]; exact List.mem_map_of_mem h1
        rw [of_decide_eq_true h2] at this
        obtain ⟨i, hi, e⟩ := List.mem_map.mp this
        cases e
        exact hi
  · rw [if_neg c]
    refine ⟨ns ++ [m], keysI_of (by rw [List.map_append, List.map_append, hm]; rfl), fun j => by rw [List.mem_append, List.mem_singleton]⟩
theorem WvP.put {a b : Int} {F : List (Int × Int)} {es : List (Key × D)} {p : Int × Int} (h : WvP a b F es) : WvP a b (F ++ [p]) (putD es (.inl (a * p.1 + b * p.2)) (.lst ((F.filter (timB a b (a * p.1 + b * p.2))).map prD ++ [prD p]))) := by
  obtain ⟨⟨ns, h1, h2⟩, h3⟩ := h
  obtain ⟨ns', g1, g2⟩ := keysI_put (m := a * p.1 + b * p.2) (v := .lst ((F.filter (timB a b (a * p.1 + b * p.2))).map prD ++ [prD p])) h1
  refine ⟨⟨ns', g1, fun m => ?_⟩, fun m => ?_⟩
  · rw [g2, h2]
    constructor
    · rintro (⟨q, hq, e⟩ | rfl)
      · exact ⟨q, List.mem_append_left _ hq, e⟩
      · exact ⟨p, List.mem_append_right _ (List.mem_singleton_self _), rfl⟩
    · rintro ⟨q, hq, e⟩
      rcases List.mem_append.mp hq with hq | hq
      · exact .inl ⟨q, hq, e⟩
      · rw [List.mem_singleton] at hq; subst hq; exact .inr e.symm
  · rw [valD_put, List.filter_append, h3]
    by_cases z : m = a * p.1 + b * p.2
    · subst z
      have t : timB a b (a * p.1 + b * p.2) p = true := decide_eq_true rfl
      rw [if_pos rfl, List.filter_cons, if_pos t, List.filter_nil, if_neg (by simp), List.map_append]; rfl
    · have t : ¬ timB a b m p = true := by unfold timB; rw [decide_eq_true_iff]; exact fun y => z y.symm
      rw [if_neg (by simpa using z), List.filter_cons, if_neg t, List.filter_nil, List.append_nil]
theorem up_key {T : DS} {E : DEnds} {G : Gm} (P : Gm → Prop) (h : ∀ E' : DEnds, (∀ G, P G → E'.nx G) → T E' G) (h2 : ∀ G, P G → E.nx G) : T E G := h E h2
theorem seq_key {A B : DS} {E : DEnds} {G : Gm} (P : Gm → Prop) (h : ∀ E' : DEnds, (∀ G, P G → E'.nx G) → A E' G) (h2 : ∀ G, P G → B E G) : dSeq A B E G := h { E with nx := B E } h2
theorem ev_key {T : DE} {Q : SV → Gm → Prop} {G : Gm} (P : SV → Gm → Prop) (h : ∀ Q' : SV → Gm → Prop, (∀ v G, P v G → Q' v G) → T G Q') (h2 : ∀ v G, P v G → Q v G) : T G Q := h Q h2
theorem tv_key {T : DT} {Q : Bool → Gm → Prop} {G : Gm} (P : Bool → Gm → Prop) (h : ∀ Q' : Bool → Gm → Prop, (∀ v G, P v G → Q' v G) → T G Q') (h2 : ∀ v G, P v G → Q v G) : T G Q := h Q h2
theorem br_key {p : Nat} {c : Bool} {A B : DS} {E : DEnds} {G : Gm} (P : Gm → Prop) (h : ∀ E' : DEnds, (∀ G, P G → E'.nx G) → brS p c A B E' G) (h2 : ∀ G, P G → E.nx G) : brS p c A B E G := h E h2
theorem Lat.cast {ms : List (Int × Int)} {p q : Int × Int} (h : Lat ms p) (e1 : p.1 = q.1) (e2 : p.2 = q.2) : Lat ms q := by
  rw [← show p = q from Prod.ext e1 e2]; exact h
theorem lat_add {ms : List (Int × Int)} {p q : Int × Int} (h : Lat ms p) (g : Lat ms q) : Lat ms (p.1 + q.1, p.2 + q.2) := by
  induction g with
  | zero => exact h.cast (by simp) (by simp)
  | @add q s _ hs ih => exact (Lat.add ih hs).cast (by simp only; omega) (by simp only; omega)
  | @sub q s _ hs ih => exact (Lat.sub ih hs).cast (by simp only; omega) (by simp only; omega)
theorem lat_neg {ms : List (Int × Int)} {p : Int × Int} (h : Lat ms p) : Lat ms (-p.1, -p.2) := by
  induction h with
  | zero => exact Lat.zero
  | @add q s _ hs ih => exact (Lat.sub ih hs).cast (by simp only; omega) (by simp only; omega)
  | @sub q s _ hs ih => exact (Lat.add ih hs).cast (by simp only; omega) (by simp only; omega)
theorem lat_sub {ms : List (Int × Int)} {p q : Int × Int} (h : Lat ms p) (g : Lat ms q) : Lat ms (p.1 - q.1, p.2 - q.2) := (lat_add h (lat_neg g)).cast (by simp only; omega) (by simp only; omega)
theorem lat_nat {ms : List (Int × Int)} {p : Int × Int} (h : Lat ms p) : ∀ n : Nat, Lat ms (n * p.1, n * p.2)
  | 0 => Lat.zero.cast (by simp) (by simp)
  | n + 1 => (lat_add (lat_nat h n) h).cast (by simp only; grind) (by simp only; grind)
theorem lat_mul {ms : List (Int × Int)} {p : Int × Int} (h : Lat ms p) (n : Int) : Lat ms (n * p.1, n * p.2) := by
  rcases Int.natAbs_eq n with e | e
  · rw [e]; exact lat_nat h _
  · rw [e]; exact (lat_neg (lat_nat h n.natAbs)).cast (by simp only; grind) (by simp only; grind)
theorem lat_one {ms : List (Int × Int)} {s : Int × Int} (h : s ∈ ms) : Lat ms s := (Lat.add .zero h).cast (by simp) (by simp)
theorem lat_le {ms ns : List (Int × Int)} {p : Int × Int} (h : Lat ms p) (g : ∀ s ∈ ms, Lat ns s) : Lat ns p := by
  induction h with
  | zero => exact .zero
  | @add q s _ hs ih => exact lat_add ih (g s hs)
  | @sub q s _ hs ih => exact lat_sub ih (g s hs)
theorem lat_snoc {ms : List (Int × Int)} {s p : Int × Int} : Lat (ms ++ [s]) p ↔ ∃ c : Int, Lat ms (p.1 - c * s.1, p.2 - c * s.2) := by
  constructor
  · intro h
    induction h with
    | zero => exact ⟨0, Lat.zero.cast (by simp) (by simp)⟩
    | @add q t _ ht ih =>
      obtain ⟨c, ih⟩ := ih
      rcases List.mem_append.mp ht with ht | ht
      · exact ⟨c, (Lat.add ih ht).cast (by simp only; omega) (by simp only; omega)⟩
      · rw [List.mem_singleton.mp ht]
        exact ⟨c + 1, ih.cast (by simp only; grind) (by simp only; grind)⟩
    | @sub q t _ ht ih =>
      obtain ⟨c, ih⟩ := ih
      rcases List.mem_append.mp ht with ht | ht
      · exact ⟨c, (Lat.sub ih ht).cast (by simp only; omega) (by simp only; omega)⟩
      · rw [List.mem_singleton.mp ht]
        exact ⟨c - 1, ih.cast (by simp only; grind) (by simp only; grind)⟩
  · rintro ⟨c, h⟩
    have h1 : Lat (ms ++ [s]) (p.1 - c * s.1, p.2 - c * s.2) := lat_le h fun t ht => lat_one (List.mem_append_left _ ht)
    have h2 : Lat (ms ++ [s]) (c * s.1, c * s.2) := lat_mul (lat_one (List.mem_append_right _ (List.mem_singleton.mpr rfl))) c
    exact (lat_add h1 h2).cast (by simp only; omega) (by simp only; omega)
theorem lat_nil {p : Int × Int} : Lat [] p ↔ p = (0, 0) := by
  constructor
  · intro h
    cases h with
    | zero => rfl
    | add _ h => cases h
    | sub _ h => cases h
  · rintro rfl; exact .zero
theorem bez : ∀ (n : Nat) (a b : Int), b.natAbs ≤ n → ∃ u v : Int, a * u + b * v = Int.gcd a b
  | n, a, b, h => by
    by_cases z : b = 0
    · subst z
      rw [Int.gcd_zero_right]
      rcases Int.natAbs_eq a with e | e
      · exact ⟨1, 0, by omega⟩
      · exact ⟨-1, 0, by omega⟩
    · cases n with
      | zero => omega
      | succ n =>
        have lt := fmod_abs (x := a) z
        obtain ⟨u, v, e⟩ := bez n b (a.fmod b) (by omega)
        rw [gcd_fmod] at e
        refine ⟨v, u - a.fdiv b * v, ?_⟩
        rw [← e, Int.fmod_def]
        grind
/-- the numbers of the while loop: two rows that go down -/
def Two (ms : List (Int × Int)) (g h k x y : Int) : Prop := ∀ p, Lat ms p ↔ ∃ a b c : Int, p.1 = a * g + c * x ∧ p.2 = a * h + b * k + c * y
theorem two_in {pre : List (Int × Int)} {g h k x y : Int} (hl : ∀ p, Lat pre p ↔ Bas g h k p) : Two (pre ++ [(x, y)]) g h k x y := by
  intro p
  rw [lat_snoc]
  constructor
  · rintro ⟨c, e⟩
    obtain ⟨a, b, e1, e2⟩ := (hl _).mp e
    simp only at e1 e2
    exact ⟨a, b, c, by omega, by omega⟩
  · rintro ⟨a, b, c, e1, e2⟩
    exact ⟨c, (hl _).mpr ⟨a, b, by simp only; omega, by simp only; omega⟩⟩
theorem two_step {ms : List (Int × Int)} {g h k x y t : Int} (hl : Two ms g h k x y) : Two ms x y k (g - t * x) (h - t * y) := by
  intro p
  rw [hl p]
  constructor
  · rintro ⟨a, b, c, e1, e2⟩
    exact ⟨c + a * t, b, a, by rw [e1]; grind, by rw [e2]; grind⟩
  · rintro ⟨a, b, c, e1, e2⟩
    exact ⟨c, b, a - c * t, by rw [e1]; grind, by rw [e2]; grind⟩
theorem two_out {ms : List (Int × Int)} {g h k y : Int} (hl : Two ms g h k 0 y) (p : Int × Int) : Lat ms p ↔ Bas g h (Int.gcd k y) p := by
  rw [hl p]
  constructor
  · rintro ⟨a, b, c, e1, e2⟩
    obtain ⟨u, hu⟩ : (Int.gcd k y : Int) ∣ k := Int.gcd_dvd_left ..
    obtain ⟨v, hv⟩ : (Int.gcd k y : Int) ∣ y := Int.gcd_dvd_right ..
    refine ⟨a, b * u + c * v, by rw [e1]; omega, ?_⟩
    rw [e2]
    have h1 : b * k = b * (Int.gcd k y * u) := by rw [← hu]
    have h2 : c * y = c * (Int.gcd k y * v) := by rw [← hv]
    rw [h1, h2]
    grind
  · rintro ⟨a, b, e1, e2⟩
    obtain ⟨u, v, e⟩ := bez _ k y (Nat.le_refl _)
    refine ⟨a, b * u, b * v, by rw [e1]; omega, ?_⟩
    rw [e2, ← e]
    grind
theorem gcd_most {a b M : Int} (ha : 0 ≤ a ∧ a ≤ M) (hb : b.natAbs ≤ M) : (Int.gcd a b : Int) ≤ M := by
  by_cases z : b = 0
  · subst z
    rw [Int.gcd_zero_right]
    omega
  · have : Int.gcd a b ≤ b.natAbs := Int.gcd_le_natAbs_right a z
    omega
theorem L__law_divisor : ∀ n ds Q, S__law_divisor n ds Q → ds.length = ps__law_divisor.length := by
  intro n ds Q h
  unfold S__law_divisor at h
  split at h <;> first | exact h.elim | rfl
set_option maxHeartbeats 0 in
theorem l__law_divisor : ∀ n ds Q, S__law_divisor n ds Q → t__law_divisor (defE Q) (startG n N__law_divisor ds) := by
  intro n ds Q h
  unfold S__law_divisor at h
  split at h
  · rename_i a b
    show t__law_divisor (defE Q) ⟨[some (.dat (.int a)), some (.dat (.int b))], n⟩
    obtain ⟨h1, h2, h⟩ := h
    refine wh_inv (fun k G => ∃ x y : Int, k = y.natAbs ∧ Int.gcd x y = Int.gcd a b ∧ x.natAbs < 10 ^ 100 ∧ y.natAbs < 10 ^ 100 ∧ G = ⟨[some (.dat (.int x)), some (.dat (.int y))], n⟩) ?_ (m := b.natAbs) ⟨a, b, rfl, rfl, h1, h2, rfl⟩
    rintro k G N ⟨x, y, rfl, e, x1, y1, rfl⟩ hN
    by_cases z : y = 0
    · subst z
      have ab : absI x = (Int.gcd a b : Int) := by rw [← e, Int.gcd_zero_right, absI_eq]; omega
      simp -implicitDefEqProofs only [t__law_divisor, ↓XP, ↓x_ifs, ↓XU, XU, XQ, eq_self, List.reverse_cons, List.reverse_nil, Int.cast_ofNat_Int, List.length_cons, List.length_nil, List.nil_append, List.cons_append, ne_eq, Nat.reduceAdd, Nat.reduceLeDiff, Int.reduceEq, Int.reduceLT, Int.reduceLE, Int.reduceToNat, Int.reducePow, Int.reduceAdd, Int.reduceMul, Int.reduceSub, Int.reduceNeg, List.getElem?_cons_zero, List.getElem?_cons_succ, dd_is_integer, dd_need_number]
      rw [ab]
      exact h
    · have lt := fmod_abs (x := x) z
      simp -implicitDefEqProofs only [t__law_divisor, ↓XP, ↓x_ifs, ↓XU, XU, XQ, eq_self, List.reverse_cons, List.reverse_nil, Int.cast_ofNat_Int, List.length_cons, List.length_nil, List.nil_append, List.cons_append, ne_eq, Nat.reduceAdd, Nat.reduceLeDiff, Int.reduceEq, Int.reduceLT, Int.reduceLE, Int.reduceToNat, Int.reducePow, Int.reduceAdd, Int.reduceMul, Int.reduceSub, Int.reduceNeg, List.getElem?_cons_zero, List.getElem?_cons_succ, dd_is_integer, dd_need_number, z]
      first
        | exact hN _ _ lt ⟨y, x.fmod y, rfl, by rw [gcd_fmod]; exact e, y1, by omega, rfl⟩
        | exact ⟨lg (by omega), hN _ _ lt ⟨y, x.fmod y, rfl, by rw [gcd_fmod]; exact e, y1, by omega, rfl⟩⟩
        | exact ⟨by omega, lg (by omega), hN _ _ lt ⟨y, x.fmod y, rfl, by rw [gcd_fmod]; exact e, y1, by omega, rfl⟩⟩
  · exact h.elim
theorem ltB_iff {p q : Int × Int} : ltB p q = true ↔ prLt p q := by
  unfold ltB prLt
  rw [Bool.or_eq_true, Bool.and_eq_true, decide_eq_true_iff, decide_eq_true_iff, decide_eq_true_iff]
theorem cntB_congr {r c : Int} {P Q : Int × Int → Bool} (h : ∀ p ∈ spotsL r c, P p = Q p) : cntB r c P = cntB r c Q := by
  unfold cntB
  rw [List.filter_congr h]
theorem filt_or {P Q : Int × Int → Bool} : ∀ {L : List (Int × Int)}, (∀ p ∈ L, ¬ (P p = true ∧ Q p = true)) → (L.filter fun p => P p || Q p).length = (L.filter P).length + (L.filter Q).length
  | [], _ => rfl
  | p :: L, h => by
    have ih := filt_or (L := L) fun q hq => h q (List.mem_cons_of_mem _ hq)
    have h0 := h p List.mem_cons_self
    rw [List.filter_cons, List.filter_cons, List.filter_cons]
    cases hp : P p with
    | true =>
      cases hq : Q p with
      | true => exact absurd ⟨hp, hq⟩ h0
      | false => simp only [Bool.or_false, if_true, Bool.false_eq_true, if_false, List.length_cons]; omega
    | false =>
      cases hq : Q p with
      | true => simp only [Bool.or_true, if_true, Bool.false_eq_true, if_false, List.length_cons]; omega
      | false => simp only [Bool.or_false, Bool.false_eq_true, if_false]; omega
theorem cntB_or {r c : Int} {P Q : Int × Int → Bool} (h : ∀ p ∈ spotsL r c, ¬ (P p = true ∧ Q p = true)) : (cntB r c fun p => P p || Q p) = cntB r c P + cntB r c Q := by
  unfold cntB
  rw [filt_or h]
  omega
theorem cntB_nn {r c : Int} {P : Int × Int → Bool} : 0 ≤ cntB r c P := Int.natCast_nonneg _
theorem cntB_all {r c : Int} {P : Int × Int → Bool} (hr : 0 ≤ r) (hc : 0 ≤ c) (h : ∀ p ∈ spotsL r c, P p = true) : cntB r c P = r * c := by
  unfold cntB
  rw [List.filter_eq_self.mpr h]
  unfold spotsL
  rw [List.length_map, List.length_range]
  exact Int.toNat_of_nonneg (Int.mul_nonneg hr hc)
theorem cntB_none {r c : Int} {P : Int × Int → Bool} (h : ∀ p ∈ spotsL r c, P p = false) : cntB r c P = 0 := by
  unfold cntB
  rw [List.filter_eq_nil_iff.mpr fun p hp => by rw [h p hp]; decide]
  rfl
theorem cntB_le {r c : Int} {P Q : Int × Int → Bool} (c1 : 1 ≤ c) (h : ∀ p ∈ spotsL r c, P p = true → Q p = true) : cntB r c P ≤ cntB r c Q := by
  unfold cntB
  refine Int.ofNat_le.mpr (nodup_sub ((spots_nd c1).filter _) fun p hp => ?_)
  obtain ⟨h1, h2⟩ := List.mem_filter.mp hp
  exact List.mem_filter.mpr ⟨h1, h p h1 h2⟩
theorem cntB_pos {r c : Int} {P : Int × Int → Bool} {p : Int × Int} (hp : p ∈ spotsL r c) (h : P p = true) : 1 ≤ cntB r c P := by
  unfold cntB
  have := List.length_pos_of_mem (List.mem_filter.mpr ⟨hp, h⟩)
  omega
theorem early_next {a b r c t : Int} : earlyS a b r c (t + 1) = earlyS a b r c t + sizeT a b r c t := by
  unfold earlyS sizeT
  rw [← cntB_or fun p _ ⟨h1, h2⟩ => by have h1 := of_decide_eq_true h1; have h2 := of_decide_eq_true h2; omega]
  refine cntB_congr fun p _ => ?_
  rw [Bool.eq_iff_iff, Bool.or_eq_true, decide_eq_true_iff, decide_eq_true_iff, decide_eq_true_iff]
  omega
theorem early_mono {a b r c s t : Int} (c1 : 1 ≤ c) (h : s ≤ t) : earlyS a b r c s ≤ earlyS a b r c t := by
  unfold earlyS
  refine cntB_le c1 fun p _ hp => ?_
  have := of_decide_eq_true hp
  exact decide_eq_true (by omega)
/-- the points of a line, by their turns -/
theorem linT_size {a b r c t x y u v k : Int} (c1 : 1 ≤ c) (h : LineP a b r c t x y u v k) : sizeT a b r c t = k := by
  obtain ⟨k0, _, dir, hl⟩ := h
  unfold sizeT cntB
  have e : ((spotsL r c).filter fun p => decide (a * p.1 + b * p.2 = t)).length = ((List.range k.toNat).map fun s : Nat => (x + (s : Int) * u, y + (s : Int) * v)).length := by
    refine Nat.le_antisymm (nodup_sub ((spots_nd c1).filter _) fun p hp => ?_) (nodup_sub ?_ fun p hp => ?_)
    · obtain ⟨h1, h2⟩ := List.mem_filter.mp hp
      obtain ⟨i, i0, i1, e1, e2⟩ := (hl p.1 p.2).mp ⟨(spots_in c1).mp h1, of_decide_eq_true h2⟩
      refine List.mem_map.mpr ⟨i.toNat, List.mem_range.mpr (by omega), ?_⟩
      rw [Int.toNat_of_nonneg i0]
      exact Prod.ext e1.symm e2.symm
    · rw [List.nodup_iff_pairwise_ne, List.pairwise_map]
      refine (List.nodup_iff_pairwise_ne.mp List.nodup_range).imp fun {i j} hij z => hij ?_
      have z1 := congrArg Prod.fst z
      have z2 := congrArg Prod.snd z
      simp only at z1 z2
      have y1 : ((i : Int) - j) * u = 0 := by rw [Int.sub_mul]; omega
      have y2 : ((i : Int) - j) * v = 0 := by rw [Int.sub_mul]; omega
      refine Classical.byContradiction fun q => ?_
      have w1 := (Int.mul_eq_zero.mp y1).resolve_left (by omega)
      have w2 := (Int.mul_eq_zero.mp y2).resolve_left (by omega)
      omega
    · obtain ⟨s, hs1, rfl⟩ := List.mem_map.mp hp
      have hs1 := List.mem_range.mp hs1
      obtain ⟨g1, g2⟩ := (hl (x + (s : Int) * u) (y + (s : Int) * v)).mpr ⟨s, by omega, by omega, rfl, rfl⟩
      exact List.mem_filter.mpr ⟨(spots_in c1).mpr g1, decide_eq_true g2⟩
  rw [e, List.length_map, List.length_range]
  omega
theorem turn_lt {u v i j x y : Int} (dir : 0 < u ∨ (u = 0 ∧ 0 < v)) : prLt (x + i * u, y + i * v) (x + j * u, y + j * v) ↔ i < j := by
  unfold prLt
  simp only
  constructor
  · intro h
    refine Classical.byContradiction fun q => ?_
    rcases dir with d | ⟨d, d2⟩
    · have := Int.mul_le_mul_of_nonneg_right (show j ≤ i by omega) (show 0 ≤ u by omega)
      by_cases e : i = j
      · subst e; omega
      · have := Int.mul_lt_mul_of_pos_right (show j < i by omega) d
        omega
    · subst d
      have := Int.mul_le_mul_of_nonneg_right (show j ≤ i by omega) (show 0 ≤ v by omega)
      omega
  · intro h
    rcases dir with d | ⟨d, d2⟩
    · have := Int.mul_lt_mul_of_pos_right h d
      omega
    · subst d
      have := Int.mul_lt_mul_of_pos_right h d2
      omega
theorem linT_at {a b r c t x y u v k i : Int} (c1 : 1 ≤ c) (h : LineP a b r c t x y u v k) (i0 : 0 ≤ i) (i1 : i < k) : turnS a b r c (x + i * u) (y + i * v) = i := by
  obtain ⟨k0, _, dir, hl⟩ := h
  have tt := ((hl (x + i * u) (y + i * v)).mpr ⟨i, i0, i1, rfl, rfl⟩).2
  unfold turnS cntB
  rw [tt]
  have inj : ∀ j j' : Int, x + j * u = x + j' * u → y + j * v = y + j' * v → j = j' := fun j j' z1 z2 => by
    have y1 : (j - j') * u = 0 := by rw [Int.sub_mul]; omega
    have y2 : (j - j') * v = 0 := by rw [Int.sub_mul]; omega
    refine Classical.byContradiction fun q => ?_
    have w1 := (Int.mul_eq_zero.mp y1).resolve_left (by omega)
    have w2 := (Int.mul_eq_zero.mp y2).resolve_left (by omega)
    omega
  have e : ((spotsL r c).filter fun p => decide (a * p.1 + b * p.2 = t) && ltB p (x + i * u, y + i * v)).length = ((List.range i.toNat).map fun s : Nat => (x + (s : Int) * u, y + (s : Int) * v)).length := by
    refine Nat.le_antisymm (nodup_sub ((spots_nd c1).filter _) fun p hp => ?_) (nodup_sub ?_ fun p hp => ?_)
    · obtain ⟨h1, h2⟩ := List.mem_filter.mp hp
      rw [Bool.and_eq_true, ltB_iff] at h2
      obtain ⟨j, j0, j1, e1, e2⟩ := (hl p.1 p.2).mp ⟨(spots_in c1).mp h1, of_decide_eq_true h2.1⟩
      have lt := h2.2
      rw [show p = (x + j * u, y + j * v) from Prod.ext e1 e2, turn_lt dir] at lt
      refine List.mem_map.mpr ⟨j.toNat, List.mem_range.mpr (by omega), ?_⟩
      rw [Int.toNat_of_nonneg j0]
      exact Prod.ext e1.symm e2.symm
    · rw [List.nodup_iff_pairwise_ne, List.pairwise_map]
      refine (List.nodup_iff_pairwise_ne.mp List.nodup_range).imp fun {i j} hij z => hij ?_
      have := inj i j (congrArg Prod.fst z) (congrArg Prod.snd z)
      omega
    · obtain ⟨s, hs1, rfl⟩ := List.mem_map.mp hp
      have hs1 := List.mem_range.mp hs1
      obtain ⟨g1, g2⟩ := (hl (x + (s : Int) * u) (y + (s : Int) * v)).mpr ⟨s, by omega, by omega, rfl, rfl⟩
      refine List.mem_filter.mpr ⟨(spots_in c1).mpr g1, ?_⟩
      rw [Bool.and_eq_true, ltB_iff, turn_lt dir]
      exact ⟨decide_eq_true g2, by omega⟩
  rw [e, List.length_map, List.length_range]
  omega
theorem mul_low {a p k : Int} (h0 : 0 ≤ p) (h1 : p ≤ k) : minI 0 (a * k) ≤ a * p ∧ a * p ≤ maxI 0 (a * k) := by
  rw [minI_eq, maxI_eq]
  by_cases c : 0 ≤ a
  · have := Int.mul_nonneg c h0
    have := Int.mul_le_mul_of_nonneg_left h1 c
    omega
  · have h2 := Int.mul_nonneg (show 0 ≤ -a by omega) h0
    have h3 := Int.mul_le_mul_of_nonneg_left h1 (show 0 ≤ -a by omega)
    rw [Int.neg_mul] at h2 h3
    rw [Int.neg_mul] at h3
    omega
theorem time_in {a b r c : Int} {p : Int × Int} (h : inB r c p.1 p.2) : lowT a b r c ≤ a * p.1 + b * p.2 ∧ a * p.1 + b * p.2 ≤ topT a b r c := by
  unfold inB at h
  have h1 := mul_low (a := a) (p := p.1) (k := r - 1) (by omega) (by omega)
  have h2 := mul_low (a := b) (p := p.2) (k := c - 1) (by omega) (by omega)
  unfold lowT topT
  omega
theorem early_low {a b r c t : Int} (c1 : 1 ≤ c) (h : t ≤ lowT a b r c) : earlyS a b r c t = 0 := cntB_none fun p hp => by
  have := (time_in (a := a) (b := b) ((spots_in c1).mp hp)).1
  exact decide_eq_false (by omega)
theorem early_top {a b r c t : Int} (r1 : 0 ≤ r) (c1 : 1 ≤ c) (h : topT a b r c < t) : earlyS a b r c t = r * c := cntB_all r1 (by omega) fun p hp => by
  have := (time_in (a := a) (b := b) ((spots_in c1).mp hp)).2
  exact decide_eq_true (by omega)
theorem sizeT_le {a b r c t : Int} {f : Int × Int → Nat} {W : Nat} (c1 : 1 ≤ c) (h1 : ∀ p, inB r c p.1 p.2 → f p < W) (h2 : ∀ p q, inB r c p.1 p.2 → inB r c q.1 q.2 → a * p.1 + b * p.2 = t → a * q.1 + b * q.2 = t → f p = f q → p = q) : sizeT a b r c t ≤ W := by
  unfold sizeT cntB
  have e := nodup_sub (A := ((spotsL r c).filter fun p => decide (a * p.1 + b * p.2 = t)).map f) (B := List.range W) ?_ ?_
  · rw [List.length_map, List.length_range] at e
    omega
  · rw [List.nodup_iff_pairwise_ne, List.pairwise_map]
    refine (List.nodup_iff_pairwise_ne.mp ((spots_nd (a := r) c1).filter fun p => decide (a * p.1 + b * p.2 = t))).imp_of_mem fun {p q} hp hq hne z => hne ?_
    obtain ⟨p1, p2⟩ := List.mem_filter.mp hp
    obtain ⟨q1, q2⟩ := List.mem_filter.mp hq
    exact h2 p q ((spots_in c1).mp p1) ((spots_in c1).mp q1) (of_decide_eq_true p2) (of_decide_eq_true q2) z
  · intro x hx
    obtain ⟨p, hp, rfl⟩ := List.mem_map.mp hx
    exact List.mem_range.mpr (h1 p ((spots_in c1).mp (List.mem_filter.mp hp).1))
theorem sizeT_ge {a b r c t : Int} {g : Nat → Int × Int} {W : Nat} (c1 : 1 ≤ c) (h1 : ∀ i, i < W → inB r c (g i).1 (g i).2 ∧ a * (g i).1 + b * (g i).2 = t) (h2 : ∀ i j, i < j → g i ≠ g j) : (W : Int) ≤ sizeT a b r c t := by
  unfold sizeT cntB
  have e := nodup_sub (A := (List.range W).map g) (B := (spotsL r c).filter fun p => decide (a * p.1 + b * p.2 = t)) ?_ ?_
  · rw [List.length_map, List.length_range] at e
    omega
  · rw [List.nodup_iff_pairwise_ne, List.pairwise_map]
    exact List.pairwise_lt_range.imp fun h => h2 _ _ h
  · intro x hx
    obtain ⟨i, hi, rfl⟩ := List.mem_map.mp hx
    obtain ⟨g1, g2⟩ := h1 i (List.mem_range.mp hi)
    exact List.mem_filter.mpr ⟨(spots_in c1).mpr g1, decide_eq_true g2⟩
theorem wide_of {a b r c W t : Int} {g : Nat → Int × Int} (c1 : 1 ≤ c) (W1 : 1 ≤ W) (hle : ∀ t, sizeT a b r c t ≤ W) (h1 : ∀ i, i < W.toNat → inB r c (g i).1 (g i).2 ∧ a * (g i).1 + b * (g i).2 = t) (h2 : ∀ i j, i < j → g i ≠ g j) : WideP a b r c W := by
  have ge := sizeT_ge c1 h1 h2
  have := hle t
  obtain ⟨g1, g2⟩ := h1 0 (by omega)
  have ti := time_in (a := a) (b := b) g1
  rw [g2] at ti
  exact ⟨W1, hle, t, ti, by omega⟩
/-- the numbers of every d-th row -/
theorem ceil_lt {d r W p : Int} (d1 : 1 ≤ d) (h : ∀ k : Int, k < W ↔ k * d < r) (p0 : 0 ≤ p) (p1 : p < r) : (p / d).toNat < W.toNat := by
  have e := Int.emod_add_mul_ediv p d
  have m0 := Int.emod_nonneg p (show d ≠ 0 by omega)
  have q0 : 0 ≤ p / d := Int.ediv_nonneg p0 (by omega)
  have := (h (p / d)).mpr (by rw [Int.mul_comm]; omega)
  omega
theorem ceil_eq {d p q : Int} (d1 : 1 ≤ d) (p0 : 0 ≤ p) (q0 : 0 ≤ q) (hd : d ∣ p - q) (e : (p / d).toNat = (q / d).toNat) : p = q := by
  have ep := Int.emod_add_mul_ediv p d
  have eq := Int.emod_add_mul_ediv q d
  have h0 : 0 ≤ p / d := Int.ediv_nonneg p0 (by omega)
  have h1 : 0 ≤ q / d := Int.ediv_nonneg q0 (by omega)
  have hm : p % d = q % d := Int.emod_eq_emod_iff_emod_sub_eq_zero.mpr (Int.emod_eq_zero_of_dvd hd)
  have e2 : p / d = q / d := by omega
  rw [e2, hm] at ep
  omega
theorem ceil_is {d r : Int} (d1 : 1 ≤ d) : ∀ k : Int, k < -((-r).fdiv d) ↔ k * d < r := fun k => by
  have dv : -k ≤ (-r).fdiv d ↔ -k * d ≤ -r := by
    rw [Int.fdiv_eq_ediv_of_nonneg _ (by omega)]
    exact Int.le_ediv_iff_mul_le (by omega)
  rw [Int.neg_mul] at dv
  omega
theorem L_widest_wave : ∀ n ds Q, S_widest_wave n ds Q → ds.length = ps_widest_wave.length := by
  intro n ds Q h
  unfold S_widest_wave at h
  split at h <;> first | exact h.elim | rfl
set_option maxHeartbeats 0 in
theorem l_widest_wave : ∀ n ds Q, S_widest_wave n ds Q → t_widest_wave (defE Q) (startG n N_widest_wave ds) := by
  intro n ds Q h
  unfold S_widest_wave at h
  split at h
  · rename_i a b r c
    show t_widest_wave (defE Q) ⟨[some (.dat (.tup [.int a, .int b])), some (.dat (.int r)), some (.dat (.int c)), none, none, none], n⟩
    obtain ⟨nz, ⟨a1, b1⟩, hr, hc, h⟩ := h
    have hv : (!(decide (a = 0) && decide (b = 0))) = true := by
      simp only [Bool.not_eq_true', Bool.and_eq_false_iff, decide_eq_false_iff_not]
      omega
    have r2 := hr
    have c2 := hc
    unfold sizeW at r2 c2
    by_cases a0 : a = 0
    · subst a0
      have b0 : b ≠ 0 := by omega
      have wd : WideP 0 b r c r := by
        refine wide_of (t := 0) (g := fun i => ((i : Int), 0)) c2.1 r2.1 (fun t => ?_) (fun i hi => ⟨by unfold inB; simp only; omega, by show 0 * (i : Int) + b * 0 = 0; rw [Int.zero_mul, Int.mul_zero]; rfl⟩) (fun i j hij z => by have := congrArg Prod.fst z; simp only at this; omega)
        have := sizeT_le (a := 0) (b := b) (r := r) (c := c) (t := t) (f := fun p => p.1.toNat) (W := r.toNat) c2.1 (fun p hp => by unfold inB at hp; omega) (fun p q hp hq e1 e2 e3 => by
          unfold inB at hp hq
          refine Prod.ext (by omega) (Int.eq_of_mul_eq_mul_left b0 ?_)
          omega)
        omega
      simp -implicitDefEqProofs only [t_widest_wave, ↓XP, ↓x_ifs, ↓XU, XU, XQ, eq_self, List.reverse_cons, List.reverse_nil, Int.cast_ofNat_Int, List.length_cons, List.length_nil, List.nil_append, List.cons_append, ne_eq, Nat.reduceAdd, Nat.reduceLeDiff, Int.reduceEq, Int.reduceLT, Int.reduceLE, Int.reduceToNat, Int.reducePow, Int.reduceAdd, Int.reduceMul, Int.reduceSub, Int.reduceNeg, List.getElem?_cons_zero, List.getElem?_cons_succ, dd_is_integer, dd_need_number]
      refine ⟨hv, hr, hc, ?_⟩
      try (simp -implicitDefEqProofs only [t_widest_wave, ↓XP, ↓x_ifs, ↓XU, XU, XQ, eq_self, List.reverse_cons, List.reverse_nil, Int.cast_ofNat_Int, List.length_cons, List.length_nil, List.nil_append, List.cons_append, ne_eq, Nat.reduceAdd, Nat.reduceLeDiff, Int.reduceEq, Int.reduceLT, Int.reduceLE, Int.reduceToNat, Int.reducePow, Int.reduceAdd, Int.reduceMul, Int.reduceSub, Int.reduceNeg, List.getElem?_cons_zero, List.getElem?_cons_succ, dd_is_integer, dd_need_number])
      exact h r wd
    by_cases b0 : b = 0
    · subst b0
      have wd : WideP a 0 r c c := by
        refine wide_of (t := 0) (g := fun i => (0, (i : Int))) c2.1 c2.1 (fun t => ?_) (fun i hi => ⟨by unfold inB; simp only; omega, by show a * 0 + 0 * (i : Int) = 0; rw [Int.zero_mul, Int.mul_zero]; rfl⟩) (fun i j hij z => by have := congrArg Prod.snd z; simp only at this; omega)
        have := sizeT_le (a := a) (b := 0) (r := r) (c := c) (t := t) (f := fun p => p.2.toNat) (W := c.toNat) c2.1 (fun p hp => by unfold inB at hp; omega) (fun p q hp hq e1 e2 e3 => by
          unfold inB at hp hq
          refine Prod.ext (Int.eq_of_mul_eq_mul_left a0 ?_) (by omega)
          omega)
        omega
      simp -implicitDefEqProofs only [t_widest_wave, ↓XP, ↓x_ifs, ↓XU, XU, XQ, eq_self, List.reverse_cons, List.reverse_nil, Int.cast_ofNat_Int, List.length_cons, List.length_nil, List.nil_append, List.cons_append, ne_eq, Nat.reduceAdd, Nat.reduceLeDiff, Int.reduceEq, Int.reduceLT, Int.reduceLE, Int.reduceToNat, Int.reducePow, Int.reduceAdd, Int.reduceMul, Int.reduceSub, Int.reduceNeg, List.getElem?_cons_zero, List.getElem?_cons_succ, dd_is_integer, dd_need_number, a0]
      refine ⟨hr, hc, ?_⟩
      try (simp -implicitDefEqProofs only [t_widest_wave, ↓XP, ↓x_ifs, ↓XU, XU, XQ, eq_self, List.reverse_cons, List.reverse_nil, Int.cast_ofNat_Int, List.length_cons, List.length_nil, List.nil_append, List.cons_append, ne_eq, Nat.reduceAdd, Nat.reduceLeDiff, Int.reduceEq, Int.reduceLT, Int.reduceLE, Int.reduceToNat, Int.reducePow, Int.reduceAdd, Int.reduceMul, Int.reduceSub, Int.reduceNeg, List.getElem?_cons_zero, List.getElem?_cons_succ, dd_is_integer, dd_need_number, a0])
      exact h c wd
    have gp : 0 < (Int.gcd a b : Int) := by have := Int.gcd_pos_of_ne_zero_left b a0; omega
    obtain ⟨A, B, hA, hB, hg⟩ := gcd_parts (b := b) a0
    have eb : (absI b).fdiv (Int.gcd a b : Int) = absI B := by
      have : absI b = (Int.gcd a b : Int) * absI B := by
        rw [absI_eq, absI_eq]
        by_cases z : 0 ≤ B
        · have : 0 ≤ (Int.gcd a b : Int) * B := Int.mul_nonneg (by omega) z
          rw [show max B (-B) = B by omega]
          omega
        · have : 0 ≤ (Int.gcd a b : Int) * -B := Int.mul_nonneg (by omega) (by omega)
          rw [show max B (-B) = -B by omega]
          rw [Int.mul_neg] at this ⊢
          omega
      rw [this]; exact Int.mul_fdiv_cancel_left _ (by omega)
    have ea : (absI a).fdiv (Int.gcd a b : Int) = absI A := by
      have : absI a = (Int.gcd a b : Int) * absI A := by
        rw [absI_eq, absI_eq]
        by_cases z : 0 ≤ A
        · have : 0 ≤ (Int.gcd a b : Int) * A := Int.mul_nonneg (by omega) z
          rw [show max A (-A) = A by omega]
          omega
        · have : 0 ≤ (Int.gcd a b : Int) * -A := Int.mul_nonneg (by omega) (by omega)
          rw [show max A (-A) = -A by omega]
          rw [Int.mul_neg] at this ⊢
          omega
      rw [this]; exact Int.mul_fdiv_cancel_left _ (by omega)
    have nA : A ≠ 0 := fun z => a0 (by rw [hA, z, Int.mul_zero])
    have nB : B ≠ 0 := fun z => b0 (by rw [hB, z, Int.mul_zero])
    have g40 : (Int.gcd a b : Int).natAbs < 10 ^ 40 := by
      have : Int.gcd a b ≤ a.natAbs := Int.gcd_le_natAbs_left b a0
      omega
    simp -implicitDefEqProofs only [t_widest_wave, ↓XP, ↓x_ifs, ↓XU, XU, XQ, eq_self, List.reverse_cons, List.reverse_nil, Int.cast_ofNat_Int, List.length_cons, List.length_nil, List.nil_append, List.cons_append, ne_eq, Nat.reduceAdd, Nat.reduceLeDiff, Int.reduceEq, Int.reduceLT, Int.reduceLE, Int.reduceToNat, Int.reducePow, Int.reduceAdd, Int.reduceMul, Int.reduceSub, Int.reduceNeg, List.getElem?_cons_zero, List.getElem?_cons_succ, dd_is_integer, dd_need_number, a0, b0]
    rw [eb, ea]
    have A40 : A.natAbs < 10 ^ 40 := by
      have : 1 * A.natAbs ≤ (Int.gcd a b : Int).natAbs * A.natAbs := Nat.mul_le_mul_right _ (by omega)
      rw [← Int.natAbs_mul, ← hA] at this
      omega
    have B40 : B.natAbs < 10 ^ 40 := by
      have : 1 * B.natAbs ≤ (Int.gcd a b : Int).natAbs * B.natAbs := Nat.mul_le_mul_right _ (by omega)
      rw [← Int.natAbs_mul, ← hB] at this
      omega
    have c40 : (10 : Nat) ^ 40 < 10 ^ 300 := by decide +kernel
    have aB : absI B = (B.natAbs : Int) := by rw [absI_eq]; omega
    have aA : absI A = (A.natAbs : Int) := by rw [absI_eq]; omega
    have bz : absI B ≠ 0 := by omega
    have az : absI A ≠ 0 := by omega
    refine ⟨hr, hc, by omega, by omega, by omega, lg (Nat.lt_trans g40 c40), bz, lg (by omega), by omega, lg (Nat.lt_trans g40 c40), az, lg (by omega), h _ ?_⟩
    have kB := ceil_is (d := absI B) (r := r) (by omega)
    have kA := ceil_is (d := absI A) (r := c) (by omega)
    rw [minI_eq]
    generalize -((-r).fdiv (absI B)) = WB at kB ⊢
    generalize -((-c).fdiv (absI A)) = WA at kA ⊢
    have WB1 : 1 ≤ WB := by have := (kB 0).mpr (by omega); omega
    have WA1 : 1 ≤ WA := by have := (kA 0).mpr (by omega); omega
    have sum : ∀ p q : Int, a * p + b * q = (Int.gcd a b : Int) * (A * p + B * q) := fun p q => by
      have h1 : a * p = (Int.gcd a b : Int) * (A * p) := by rw [← Int.mul_assoc, ← hA]
      have h2 : b * q = (Int.gcd a b : Int) * (B * q) := by rw [← Int.mul_assoc, ← hB]
      rw [h1, h2, Int.mul_add]
    have same : ∀ p q : Int × Int, ∀ t, a * p.1 + b * p.2 = t → a * q.1 + b * q.2 = t → A * (p.1 - q.1) = B * (q.2 - p.2) := fun p q t e1 e2 => by
      rw [sum] at e1 e2
      have : A * p.1 + B * p.2 = A * q.1 + B * q.2 := Int.eq_of_mul_eq_mul_left (by omega) (e1.trans e2.symm)
      rw [Int.mul_sub, Int.mul_sub]
      omega
    have dB : ∀ p q : Int × Int, ∀ t, a * p.1 + b * p.2 = t → a * q.1 + b * q.2 = t → absI B ∣ p.1 - q.1 := fun p q t e1 e2 => by
      have hd : B ∣ p.1 - q.1 := cop_dvd hg ⟨q.2 - p.2, same p q t e1 e2⟩
      rw [aB]
      exact Int.natAbs_dvd.mpr hd
    have dA : ∀ p q : Int × Int, ∀ t, a * p.1 + b * p.2 = t → a * q.1 + b * q.2 = t → absI A ∣ p.2 - q.2 := fun p q t e1 e2 => by
      have hd : A ∣ p.2 - q.2 := cop_dvd (by rw [Int.gcd_comm]; exact hg) ⟨q.1 - p.1, by have := same p q t e1 e2; rw [Int.mul_sub] at this ⊢; rw [Int.mul_sub] at this ⊢; omega⟩
      rw [aA]
      exact Int.natAbs_dvd.mpr hd
    have le : ∀ t, sizeT a b r c t ≤ min WB WA := fun t => by
      have l1 := sizeT_le (a := a) (b := b) (r := r) (c := c) (t := t) (f := fun p => (p.1 / absI B).toNat) (W := WB.toNat) c2.1 (fun p hp => by
        unfold inB at hp
        exact ceil_lt (by omega) kB hp.1 hp.2.1) fun p q hp hq e1 e2 e3 => by
          unfold inB at hp hq
          have x := ceil_eq (by omega) hp.1 hq.1 (dB p q t e1 e2) e3
          refine Prod.ext x (Int.eq_of_mul_eq_mul_left b0 ?_)
          rw [x] at e1
          omega
      have l2 := sizeT_le (a := a) (b := b) (r := r) (c := c) (t := t) (f := fun p => (p.2 / absI A).toNat) (W := WA.toNat) c2.1 (fun p hp => by
        unfold inB at hp
        exact ceil_lt (by omega) kA hp.2.2.1 hp.2.2.2) fun p q hp hq e1 e2 e3 => by
          unfold inB at hp hq
          have x := ceil_eq (by omega) hp.2.2.1 hq.2.2.1 (dA p q t e1 e2) e3
          refine Prod.ext (Int.eq_of_mul_eq_mul_left a0 ?_) x
          rw [x] at e1
          omega
      omega
    have ib : ∀ i : Nat, i < (min WB WA).toNat → (0 ≤ (i : Int) * absI B ∧ (i : Int) * absI B < r) ∧ (0 ≤ (i : Int) * absI A ∧ (i : Int) * absI A < c) := fun i hi =>
      ⟨⟨Int.mul_nonneg (by omega) (by omega), (kB i).mp (by omega)⟩, ⟨Int.mul_nonneg (by omega) (by omega), (kA i).mp (by omega)⟩⟩
    have inj : ∀ i j : Nat, i < j → ¬ (i : Int) * absI B = (j : Int) * absI B := fun i j hij z => by
      have := Int.eq_of_mul_eq_mul_right bz z
      omega
    by_cases sg : absI A * B = -(A * absI B)
    · refine wide_of (t := 0) (g := fun i => ((i : Int) * absI B, (i : Int) * absI A)) c2.1 (by omega) le (fun i hi => ⟨by have := ib i hi; unfold inB; simp only; omega, ?_⟩) (fun i j hij z => inj i j hij (congrArg Prod.fst z))
      simp only
      rw [sum, show A * ((i : Int) * absI B) + B * ((i : Int) * absI A) = i * (A * absI B + absI A * B) by grind, sg]
      rw [show A * absI B + -(A * absI B) = 0 by omega, Int.mul_zero, Int.mul_zero]
    · have sg2 : absI A * B = A * absI B := by
        rw [absI_eq, absI_eq] at sg ⊢
        rcases Int.lt_or_le 0 A with z | z <;> rcases Int.lt_or_le 0 B with z' | z'
        · rw [show max A (-A) = A by omega, show max B (-B) = B by omega]
        · rw [show max A (-A) = A by omega, show max B (-B) = -B by omega] at sg
          exact absurd (by rw [Int.mul_neg, Int.neg_neg]) sg
        · rw [show max A (-A) = -A by omega, show max B (-B) = B by omega] at sg
          exact absurd (by rw [Int.neg_mul]) sg
        · rw [show max A (-A) = -A by omega, show max B (-B) = -B by omega, Int.neg_mul, Int.mul_neg]
      refine wide_of (t := b * (c - 1)) (g := fun i => ((i : Int) * absI B, c - 1 - (i : Int) * absI A)) c2.1 (by omega) le (fun i hi => ⟨by have := ib i hi; unfold inB; simp only; omega, ?_⟩) (fun i j hij z => inj i j hij (congrArg Prod.fst z))
      simp only
      rw [sum, show A * ((i : Int) * absI B) + B * (c - 1 - (i : Int) * absI A) = B * (c - 1) + i * (A * absI B - absI A * B) by grind, sg2, Int.sub_self, Int.mul_zero, Int.add_zero, ← Int.mul_assoc, ← hB]
  · exact h.elim
theorem gcd_two {a b : Int} (h : b ≠ 0) : ∃ A B : Int, a = Int.gcd a b * A ∧ b = Int.gcd a b * B ∧ Int.gcd A B = 1 := by
  obtain ⟨A, hA⟩ := Int.gcd_dvd_left a b
  obtain ⟨B, hB⟩ := Int.gcd_dvd_right a b
  refine ⟨A, B, hA, hB, ?_⟩
  have g := Int.gcd_mul_left (Int.gcd a b) A B
  rw [← hA, ← hB, Int.natAbs_natCast] at g
  have gp := Int.gcd_pos_of_ne_zero_right a h
  exact (Nat.eq_of_mul_eq_mul_left gp (by rw [Nat.mul_one]; exact g)).symm
theorem move_prim {g A B x y : Int} (hg : 0 < g) (hB : B ≠ 0) (hc : Int.gcd A B = 1) (h : g * A * x + g * B * y = 0) : ∃ k : Int, x = k * B ∧ y = -(k * A) := by
  have h1 : g * (A * x + B * y) = 0 := by rw [Int.mul_add, ← Int.mul_assoc, ← Int.mul_assoc]; exact h
  have h2 : A * x + B * y = 0 := (Int.mul_eq_zero.mp h1).resolve_left (by omega)
  obtain ⟨k, hk⟩ := cop_dvd (A := A) (B := B) (x := x) hc ⟨-y, by rw [Int.mul_neg]; omega⟩
  refine ⟨k, by rw [hk, Int.mul_comm], ?_⟩
  subst hk
  have h3 : B * (A * k + y) = 0 := by
    rw [Int.mul_add, ← h2, ← Int.mul_assoc, ← Int.mul_assoc, Int.mul_comm B A]
  have h4 := (Int.mul_eq_zero.mp h3).resolve_left hB
  rw [Int.mul_comm k A]
  omega
theorem le_fdiv {N d : Int} (hd : 0 < d) (hN : 0 ≤ N) : 0 ≤ N.fdiv d ∧ N.fdiv d ≤ N ∧ ∀ k : Int, k ≤ N.fdiv d ↔ k * d ≤ N := by
  rw [Int.fdiv_eq_ediv_of_nonneg _ (by omega)]
  exact ⟨Int.ediv_nonneg hN (by omega), Int.ediv_le_self _ hN, fun k => Int.le_ediv_iff_mul_le hd⟩
theorem L__law_turn : ∀ n ds Q, S__law_turn n ds Q → ds.length = ps__law_turn.length := by
  intro n ds Q h
  unfold S__law_turn at h
  split at h <;> first | exact h.elim | rfl
set_option maxHeartbeats 0 in
theorem l__law_turn : ∀ n ds Q, S__law_turn n ds Q → t__law_turn (defE Q) (startG n N__law_turn ds) := by
  intro n ds Q h
  unfold S__law_turn at h
  split at h
  · rename_i a b
    show t__law_turn (defE Q) ⟨[some (.dat (.tup [.int a, .int b])), none, none, none], n⟩
    obtain ⟨nz, hb, h⟩ := h
    simp -implicitDefEqProofs only [t__law_turn, ↓XP, ↓x_ifs, ↓XU, XU, XQ, eq_self, List.reverse_cons, List.reverse_nil, Int.cast_ofNat_Int, List.length_cons, List.length_nil, List.nil_append, List.cons_append, ne_eq, Nat.reduceAdd, Nat.reduceLeDiff, Int.reduceEq, Int.reduceLT, Int.reduceLE, Int.reduceToNat, Int.reducePow, Int.reduceAdd, Int.reduceMul, Int.reduceSub, Int.reduceNeg, List.getElem?_cons_zero, List.getElem?_cons_succ, dd_is_integer, dd_need_number]
    refine ⟨hb.1, hb.2, ?_⟩
    try (simp -implicitDefEqProofs only [t__law_turn, ↓XP, ↓x_ifs, ↓XU, XU, XQ, eq_self, List.reverse_cons, List.reverse_nil, Int.cast_ofNat_Int, List.length_cons, List.length_nil, List.nil_append, List.cons_append, ne_eq, Nat.reduceAdd, Nat.reduceLeDiff, Int.reduceEq, Int.reduceLT, Int.reduceLE, Int.reduceToNat, Int.reducePow, Int.reduceAdd, Int.reduceMul, Int.reduceSub, Int.reduceNeg, List.getElem?_cons_zero, List.getElem?_cons_succ, dd_is_integer, dd_need_number])
    by_cases b0 : b = 0
    · rw [decide_eq_true b0]
      simp -implicitDefEqProofs only [t__law_turn, ↓XP, ↓x_ifs, ↓XU, XU, XQ, eq_self, List.reverse_cons, List.reverse_nil, Int.cast_ofNat_Int, List.length_cons, List.length_nil, List.nil_append, List.cons_append, ne_eq, Nat.reduceAdd, Nat.reduceLeDiff, Int.reduceEq, Int.reduceLT, Int.reduceLE, Int.reduceToNat, Int.reducePow, Int.reduceAdd, Int.reduceMul, Int.reduceSub, Int.reduceNeg, List.getElem?_cons_zero, List.getElem?_cons_succ, dd_is_integer, dd_need_number]
      subst b0
      refine h 0 1 ⟨by omega, .inr ⟨rfl, rfl⟩, ⟨by omega, by omega⟩, fun x y e => ⟨y, ?_, by omega⟩⟩
      rw [Int.zero_mul, Int.add_zero] at e
      rw [Int.mul_zero]
      exact (Int.mul_eq_zero.mp e).resolve_left (by omega)
    · rw [decide_eq_false b0]
      have gp : 0 < (Int.gcd a b : Int) := by have := Int.gcd_pos_of_ne_zero_right a b0; omega
      obtain ⟨A, B, hA, hB, hg⟩ := gcd_two (a := a) b0
      have g1 : (Int.gcd a b : Int).natAbs < 10 ^ 100 := by
        have : Int.gcd a b ≤ b.natAbs := Int.gcd_le_natAbs_right a b0
        omega
      generalize (Int.gcd a b : Int) = g at gp hA hB g1 ⊢
      have A1 := abs_part hA gp
      have B1 := abs_part hB gp
      have nB : B ≠ 0 := fun z => b0 (by rw [hB, z, Int.mul_zero])
      have ea : a.fdiv g = A := by rw [hA]; exact Int.mul_fdiv_cancel_left A (by omega)
      have eb : b.fdiv g = B := by rw [hB]; exact Int.mul_fdiv_cancel_left B (by omega)
      have ab : a * B + b * -A = 0 := by rw [hA, hB]; grind
      by_cases bp : b > 0
      · have Bp : 0 < B := by
          by_cases z : 0 < B
          · exact z
          · have := Int.mul_nonpos_of_nonneg_of_nonpos (show 0 ≤ g by omega) (show B ≤ 0 by omega)
            omega
        simp -implicitDefEqProofs only [t__law_turn, ↓XP, ↓x_ifs, ↓XU, XU, XQ, eq_self, List.reverse_cons, List.reverse_nil, Int.cast_ofNat_Int, List.length_cons, List.length_nil, List.nil_append, List.cons_append, ne_eq, Nat.reduceAdd, Nat.reduceLeDiff, Int.reduceEq, Int.reduceLT, Int.reduceLE, Int.reduceToNat, Int.reducePow, Int.reduceAdd, Int.reduceMul, Int.reduceSub, Int.reduceNeg, List.getElem?_cons_zero, List.getElem?_cons_succ, dd_is_integer, dd_need_number]
        rw [decide_eq_true bp]
        simp -implicitDefEqProofs only [t__law_turn, ↓XP, ↓x_ifs, ↓XU, XU, XQ, eq_self, List.reverse_cons, List.reverse_nil, Int.cast_ofNat_Int, List.length_cons, List.length_nil, List.nil_append, List.cons_append, ne_eq, Nat.reduceAdd, Nat.reduceLeDiff, Int.reduceEq, Int.reduceLT, Int.reduceLE, Int.reduceToNat, Int.reducePow, Int.reduceAdd, Int.reduceMul, Int.reduceSub, Int.reduceNeg, List.getElem?_cons_zero, List.getElem?_cons_succ, dd_is_integer, dd_need_number]
        refine ⟨by omega, lg (big13 g1), by omega, lg (big13 g1), ?_⟩
        rw [ea, eb]
        refine h B (0 - A) ⟨by rw [Int.zero_sub]; exact ab, .inl Bp, ⟨by omega, by omega⟩, fun x y e => ?_⟩
        rw [hA, hB] at e
        obtain ⟨k, e1, e2⟩ := move_prim gp nB hg e
        exact ⟨k, e1, by rw [e2, Int.zero_sub, Int.mul_neg]⟩
      · have Bn : B < 0 := by
          by_cases z : B < 0
          · exact z
          · have := Int.mul_nonneg (show 0 ≤ g by omega) (show 0 ≤ B by omega)
            omega
        simp -implicitDefEqProofs only [t__law_turn, ↓XP, ↓x_ifs, ↓XU, XU, XQ, eq_self, List.reverse_cons, List.reverse_nil, Int.cast_ofNat_Int, List.length_cons, List.length_nil, List.nil_append, List.cons_append, ne_eq, Nat.reduceAdd, Nat.reduceLeDiff, Int.reduceEq, Int.reduceLT, Int.reduceLE, Int.reduceToNat, Int.reducePow, Int.reduceAdd, Int.reduceMul, Int.reduceSub, Int.reduceNeg, List.getElem?_cons_zero, List.getElem?_cons_succ, dd_is_integer, dd_need_number]
        rw [decide_eq_false bp]
        simp -implicitDefEqProofs only [t__law_turn, ↓XP, ↓x_ifs, ↓XU, XU, XQ, eq_self, List.reverse_cons, List.reverse_nil, Int.cast_ofNat_Int, List.length_cons, List.length_nil, List.nil_append, List.cons_append, ne_eq, Nat.reduceAdd, Nat.reduceLeDiff, Int.reduceEq, Int.reduceLT, Int.reduceLE, Int.reduceToNat, Int.reducePow, Int.reduceAdd, Int.reduceMul, Int.reduceSub, Int.reduceNeg, List.getElem?_cons_zero, List.getElem?_cons_succ, dd_is_integer, dd_need_number]
        refine ⟨by omega, lg (big13 g1), by omega, lg (big13 g1), ?_⟩
        rw [ea, eb]
        refine h (0 - B) A ⟨by rw [Int.zero_sub, Int.mul_neg]; rw [Int.mul_neg] at ab; omega, .inl (by omega), ⟨by omega, by omega⟩, fun x y e => ?_⟩
        rw [hA, hB] at e
        obtain ⟨k, e1, e2⟩ := move_prim gp nB hg e
        exact ⟨-k, by rw [e1, Int.zero_sub, Int.neg_mul_neg], by rw [e2, Int.neg_mul]⟩
  · exact h.elim
theorem L__law_times : ∀ n ds Q, S__law_times n ds Q → ds.length = ps__law_times.length := by
  intro n ds Q h
  unfold S__law_times at h
  split at h <;> first | exact h.elim | rfl
set_option maxHeartbeats 0 in
theorem l__law_times : ∀ n ds Q, S__law_times n ds Q → t__law_times (defE Q) (startG n N__law_times ds) := by
  intro n ds Q h
  unfold S__law_times at h
  split at h
  · rename_i x y u v r c
    show t__law_times (defE Q) ⟨[some (.dat (.tup [.int x, .int y])), some (.dat (.tup [.int u, .int v])), some (.dat (.int r)), some (.dat (.int c)), none, none, none, none], n⟩
    obtain ⟨hu, hB, hr, hc, rfl, hy, h⟩ := h
    unfold sizeW at hr hc
    by_cases u0 : u = 0
    · subst u0
      have v1 : v = 1 := by omega
      subst v1
      have y0 : y = 0 := by omega
      subst y0
      have e1 := le_fdiv (N := c - 1) (d := 1) (by decide) (by omega)
      simp -implicitDefEqProofs only [t__law_times, ↓XP, ↓x_ifs, ↓XU, XU, XQ, eq_self, List.reverse_cons, List.reverse_nil, Int.cast_ofNat_Int, List.length_cons, List.length_nil, List.nil_append, List.cons_append, ne_eq, Nat.reduceAdd, Nat.reduceLeDiff, Int.reduceEq, Int.reduceLT, Int.reduceLE, Int.reduceToNat, Int.reducePow, Int.reduceAdd, Int.reduceMul, Int.reduceSub, Int.reduceNeg, List.getElem?_cons_zero, List.getElem?_cons_succ, dd_is_integer, dd_need_number, x_foc]
      refine ⟨lg (by decide +kernel), by decide, mn1 ?_⟩
      rw [show c - 1 - 0 = c - 1 by omega]
      refine h _ ⟨e1.1, by omega, fun k k0 => ?_⟩
      rw [e1.2.2 k, Int.mul_zero, show absI 1 = 1 from rfl]
      omega
    · have up : 0 < u := by omega
      have eu := le_fdiv (N := r - 1) (d := u) up (by omega)
      rcases Int.lt_trichotomy v 0 with v0 | v0 | v0
      · have ey : y = c - 1 := by omega
        subst ey
        have ev := le_fdiv (N := c - 1) (d := absI v) (by rw [absI_eq]; omega) (by omega)
        simp -implicitDefEqProofs only [t__law_times, ↓XP, ↓x_ifs, ↓XU, XU, XQ, eq_self, List.reverse_cons, List.reverse_nil, Int.cast_ofNat_Int, List.length_cons, List.length_nil, List.nil_append, List.cons_append, ne_eq, Nat.reduceAdd, Nat.reduceLeDiff, Int.reduceEq, Int.reduceLT, Int.reduceLE, Int.reduceToNat, Int.reducePow, Int.reduceAdd, Int.reduceMul, Int.reduceSub, Int.reduceNeg, List.getElem?_cons_zero, List.getElem?_cons_succ, dd_is_integer, dd_need_number, x_foc]
        rw [decide_eq_false u0]
        simp -implicitDefEqProofs only [t__law_times, ↓XP, ↓x_ifs, ↓XU, XU, XQ, eq_self, List.reverse_cons, List.reverse_nil, Int.cast_ofNat_Int, List.length_cons, List.length_nil, List.nil_append, List.cons_append, ne_eq, Nat.reduceAdd, Nat.reduceLeDiff, Int.reduceEq, Int.reduceLT, Int.reduceLE, Int.reduceToNat, Int.reducePow, Int.reduceAdd, Int.reduceMul, Int.reduceSub, Int.reduceNeg, List.getElem?_cons_zero, List.getElem?_cons_succ, dd_is_integer, dd_need_number, x_foc]
        rw [decide_eq_true up]
        simp -implicitDefEqProofs only [t__law_times, ↓XP, ↓x_ifs, ↓XU, XU, XQ, eq_self, List.reverse_cons, List.reverse_nil, Int.cast_ofNat_Int, List.length_cons, List.length_nil, List.nil_append, List.cons_append, ne_eq, Nat.reduceAdd, Nat.reduceLeDiff, Int.reduceEq, Int.reduceLT, Int.reduceLE, Int.reduceToNat, Int.reducePow, Int.reduceAdd, Int.reduceMul, Int.reduceSub, Int.reduceNeg, List.getElem?_cons_zero, List.getElem?_cons_succ, dd_is_integer, dd_need_number, x_foc]
        refine ⟨u0, lg (big13 hB.1), by decide, ?_⟩
        rw [decide_eq_false (show ¬ v = 0 by omega)]
        simp -implicitDefEqProofs only [t__law_times, ↓XP, ↓x_ifs, ↓XU, XU, XQ, eq_self, List.reverse_cons, List.reverse_nil, Int.cast_ofNat_Int, List.length_cons, List.length_nil, List.nil_append, List.cons_append, ne_eq, Nat.reduceAdd, Nat.reduceLeDiff, Int.reduceEq, Int.reduceLT, Int.reduceLE, Int.reduceToNat, Int.reducePow, Int.reduceAdd, Int.reduceMul, Int.reduceSub, Int.reduceNeg, List.getElem?_cons_zero, List.getElem?_cons_succ, dd_is_integer, dd_need_number, x_foc]
        rw [decide_eq_false (show ¬ 0 < v by omega)]
        simp -implicitDefEqProofs only [t__law_times, ↓XP, ↓x_ifs, ↓XU, XU, XQ, eq_self, List.reverse_cons, List.reverse_nil, Int.cast_ofNat_Int, List.length_cons, List.length_nil, List.nil_append, List.cons_append, ne_eq, Nat.reduceAdd, Nat.reduceLeDiff, Int.reduceEq, Int.reduceLT, Int.reduceLE, Int.reduceToNat, Int.reducePow, Int.reduceAdd, Int.reduceMul, Int.reduceSub, Int.reduceNeg, List.getElem?_cons_zero, List.getElem?_cons_succ, dd_is_integer, dd_need_number, x_foc]
        refine ⟨by rw [absI_eq]; omega, lg (by rw [absI_eq]; exact big13 (by omega)), by decide +kernel, mn2 ?_⟩
        rw [show r - 1 - 0 = r - 1 by omega]
        refine h _ ?_
        split
        · exact ⟨by omega, by omega, fun k k0 => by rw [← eu.2.2 k, ← ev.2.2 k]; omega⟩
        · exact ⟨by omega, by omega, fun k k0 => by rw [← eu.2.2 k, ← ev.2.2 k]; omega⟩
      · subst v0
        simp -implicitDefEqProofs only [t__law_times, ↓XP, ↓x_ifs, ↓XU, XU, XQ, eq_self, List.reverse_cons, List.reverse_nil, Int.cast_ofNat_Int, List.length_cons, List.length_nil, List.nil_append, List.cons_append, ne_eq, Nat.reduceAdd, Nat.reduceLeDiff, Int.reduceEq, Int.reduceLT, Int.reduceLE, Int.reduceToNat, Int.reducePow, Int.reduceAdd, Int.reduceMul, Int.reduceSub, Int.reduceNeg, List.getElem?_cons_zero, List.getElem?_cons_succ, dd_is_integer, dd_need_number, x_foc]
        rw [decide_eq_false u0]
        simp -implicitDefEqProofs only [t__law_times, ↓XP, ↓x_ifs, ↓XU, XU, XQ, eq_self, List.reverse_cons, List.reverse_nil, Int.cast_ofNat_Int, List.length_cons, List.length_nil, List.nil_append, List.cons_append, ne_eq, Nat.reduceAdd, Nat.reduceLeDiff, Int.reduceEq, Int.reduceLT, Int.reduceLE, Int.reduceToNat, Int.reducePow, Int.reduceAdd, Int.reduceMul, Int.reduceSub, Int.reduceNeg, List.getElem?_cons_zero, List.getElem?_cons_succ, dd_is_integer, dd_need_number, x_foc]
        rw [decide_eq_true up]
        simp -implicitDefEqProofs only [t__law_times, ↓XP, ↓x_ifs, ↓XU, XU, XQ, eq_self, List.reverse_cons, List.reverse_nil, Int.cast_ofNat_Int, List.length_cons, List.length_nil, List.nil_append, List.cons_append, ne_eq, Nat.reduceAdd, Nat.reduceLeDiff, Int.reduceEq, Int.reduceLT, Int.reduceLE, Int.reduceToNat, Int.reducePow, Int.reduceAdd, Int.reduceMul, Int.reduceSub, Int.reduceNeg, List.getElem?_cons_zero, List.getElem?_cons_succ, dd_is_integer, dd_need_number, x_foc]
        refine ⟨u0, lg (big13 hB.1), by decide, mn1 ?_⟩
        rw [show r - 1 - 0 = r - 1 by omega]
        refine h _ ⟨eu.1, by omega, fun k k0 => ?_⟩
        rw [eu.2.2 k, show absI 0 = 0 from rfl, Int.mul_zero]
        omega
      · have ey : y = 0 := by omega
        subst ey
        have ev := le_fdiv (N := c - 1) (d := absI v) (by rw [absI_eq]; omega) (by omega)
        have av : absI v = v := by rw [absI_eq]; omega
        rw [av] at ev
        simp -implicitDefEqProofs only [t__law_times, ↓XP, ↓x_ifs, ↓XU, XU, XQ, eq_self, List.reverse_cons, List.reverse_nil, Int.cast_ofNat_Int, List.length_cons, List.length_nil, List.nil_append, List.cons_append, ne_eq, Nat.reduceAdd, Nat.reduceLeDiff, Int.reduceEq, Int.reduceLT, Int.reduceLE, Int.reduceToNat, Int.reducePow, Int.reduceAdd, Int.reduceMul, Int.reduceSub, Int.reduceNeg, List.getElem?_cons_zero, List.getElem?_cons_succ, dd_is_integer, dd_need_number, x_foc]
        rw [decide_eq_false u0]
        simp -implicitDefEqProofs only [t__law_times, ↓XP, ↓x_ifs, ↓XU, XU, XQ, eq_self, List.reverse_cons, List.reverse_nil, Int.cast_ofNat_Int, List.length_cons, List.length_nil, List.nil_append, List.cons_append, ne_eq, Nat.reduceAdd, Nat.reduceLeDiff, Int.reduceEq, Int.reduceLT, Int.reduceLE, Int.reduceToNat, Int.reducePow, Int.reduceAdd, Int.reduceMul, Int.reduceSub, Int.reduceNeg, List.getElem?_cons_zero, List.getElem?_cons_succ, dd_is_integer, dd_need_number, x_foc]
        rw [decide_eq_true up]
        simp -implicitDefEqProofs only [t__law_times, ↓XP, ↓x_ifs, ↓XU, XU, XQ, eq_self, List.reverse_cons, List.reverse_nil, Int.cast_ofNat_Int, List.length_cons, List.length_nil, List.nil_append, List.cons_append, ne_eq, Nat.reduceAdd, Nat.reduceLeDiff, Int.reduceEq, Int.reduceLT, Int.reduceLE, Int.reduceToNat, Int.reducePow, Int.reduceAdd, Int.reduceMul, Int.reduceSub, Int.reduceNeg, List.getElem?_cons_zero, List.getElem?_cons_succ, dd_is_integer, dd_need_number, x_foc]
        refine ⟨u0, lg (big13 hB.1), by decide, ?_⟩
        rw [decide_eq_false (show ¬ v = 0 by omega)]
        simp -implicitDefEqProofs only [t__law_times, ↓XP, ↓x_ifs, ↓XU, XU, XQ, eq_self, List.reverse_cons, List.reverse_nil, Int.cast_ofNat_Int, List.length_cons, List.length_nil, List.nil_append, List.cons_append, ne_eq, Nat.reduceAdd, Nat.reduceLeDiff, Int.reduceEq, Int.reduceLT, Int.reduceLE, Int.reduceToNat, Int.reducePow, Int.reduceAdd, Int.reduceMul, Int.reduceSub, Int.reduceNeg, List.getElem?_cons_zero, List.getElem?_cons_succ, dd_is_integer, dd_need_number, x_foc]
        rw [decide_eq_true (show 0 < v by omega)]
        simp -implicitDefEqProofs only [t__law_times, ↓XP, ↓x_ifs, ↓XU, XU, XQ, eq_self, List.reverse_cons, List.reverse_nil, Int.cast_ofNat_Int, List.length_cons, List.length_nil, List.nil_append, List.cons_append, ne_eq, Nat.reduceAdd, Nat.reduceLeDiff, Int.reduceEq, Int.reduceLT, Int.reduceLE, Int.reduceToNat, Int.reducePow, Int.reduceAdd, Int.reduceMul, Int.reduceSub, Int.reduceNeg, List.getElem?_cons_zero, List.getElem?_cons_succ, dd_is_integer, dd_need_number, x_foc]
        refine ⟨by omega, lg (big13 hB.2), by decide +kernel, mn2 ?_⟩
        rw [show r - 1 - 0 = r - 1 by omega, show c - 1 - 0 = c - 1 by omega]
        refine h _ ?_
        split
        · exact ⟨by omega, by omega, fun k k0 => by rw [← eu.2.2 k, av, ← ev.2.2 k]; omega⟩
        · exact ⟨by omega, by omega, fun k k0 => by rw [← eu.2.2 k, av, ← ev.2.2 k]; omega⟩
  · exact h.elim
theorem wide_le {a b r c u v m : Int} (hr : 1 ≤ r) (hc : 1 ≤ c) (mv : MoveP a b u v) (st : StepsW u v r c m) (t : Int) : sizeT a b r c t ≤ m + 1 := by
  obtain ⟨_, hu, _, prim⟩ := mv
  obtain ⟨m0, _, hk⟩ := st
  have n1 := hk (m + 1) (by omega)
  have diff : ∀ p q : Int × Int, a * p.1 + b * p.2 = t → a * q.1 + b * q.2 = t → ∃ k : Int, p.1 - q.1 = k * u ∧ p.2 - q.2 = k * v := fun p q e1 e2 => prim _ _ (by rw [Int.mul_sub, Int.mul_sub]; omega)
  by_cases z : r ≤ (m + 1) * u
  · have up : 0 < u := by
      by_cases z2 : u = 0
      · rw [z2, Int.mul_zero] at z; omega
      · omega
    have := sizeT_le (a := a) (b := b) (r := r) (c := c) (t := t) (f := fun p => (p.1 / u).toNat) (W := (m + 1).toNat) hc (fun p hp => by
      unfold inB at hp
      have h1 : p.1 / u < m + 1 := Int.ediv_lt_of_lt_mul up (by omega)
      have h2 : 0 ≤ p.1 / u := Int.ediv_nonneg hp.1 (by omega)
      omega) (fun p q hp hq e1 e2 e3 => by
      unfold inB at hp hq
      obtain ⟨k, k1, k2⟩ := diff p q e1 e2
      have e4 := ceil_eq (d := u) (by omega) hp.1 hq.1 ⟨k, by rw [Int.mul_comm]; exact k1⟩ e3
      have k0 : k = 0 := (Int.mul_eq_zero.mp (show k * u = 0 by omega)).resolve_right (by omega)
      rw [k0, Int.zero_mul] at k2
      exact Prod.ext e4 (by omega))
    omega
  · have z2 : c ≤ (m + 1) * absI v := by
      by_cases z3 : (m + 1) * absI v ≤ c - 1
      · have := n1.mpr ⟨by omega, z3⟩
        omega
      · omega
    have vp : 0 < absI v := by
      by_cases z3 : v = 0
      · rw [z3, show absI 0 = 0 from rfl, Int.mul_zero] at z2; omega
      · rw [absI_eq]; omega
    have := sizeT_le (a := a) (b := b) (r := r) (c := c) (t := t) (f := fun p => (p.2 / absI v).toNat) (W := (m + 1).toNat) hc (fun p hp => by
      unfold inB at hp
      have h1 : p.2 / absI v < m + 1 := Int.ediv_lt_of_lt_mul vp (by omega)
      have h2 : 0 ≤ p.2 / absI v := Int.ediv_nonneg hp.2.2.1 (by omega)
      omega) (fun p q hp hq e1 e2 e3 => by
      unfold inB at hp hq
      obtain ⟨k, k1, k2⟩ := diff p q e1 e2
      have dv : absI v ∣ p.2 - q.2 := by
        rw [k2, absI_eq]
        by_cases z4 : 0 ≤ v
        · rw [show max v (-v) = v by omega]; exact ⟨k, Int.mul_comm _ _⟩
        · rw [show max v (-v) = -v by omega]; exact ⟨-k, by rw [Int.neg_mul_neg, Int.mul_comm]⟩
      have e4 := ceil_eq (d := absI v) (by omega) hp.2.2.1 hq.2.2.1 dv e3
      have vn : v ≠ 0 := fun z => by rw [z] at vp; exact absurd vp (by decide)
      have k0 : k = 0 := (Int.mul_eq_zero.mp (show k * v = 0 by omega)).resolve_right vn
      rw [k0, Int.zero_mul] at k1
      exact Prod.ext (by omega) e4)
    omega
theorem wide_ge {a b r c u v m y : Int} (hr : 1 ≤ r) (hc : 1 ≤ c) (mv : MoveP a b u v) (st : StepsW u v r c m) (hy : (y = 0 ∧ 0 ≤ v) ∨ (y = c - 1 ∧ v < 0)) : m + 1 ≤ sizeT a b r c (a * 0 + b * y) := by
  obtain ⟨zero, hu, _, _⟩ := mv
  obtain ⟨m0, _, hk⟩ := st
  have := sizeT_ge (a := a) (b := b) (r := r) (c := c) (t := a * 0 + b * y) (g := fun i : Nat => ((i : Int) * u, y + (i : Int) * v)) (W := (m + 1).toNat) hc (fun i hi => by
    obtain ⟨h1, h2⟩ := (hk (i : Int) (by omega)).mp (by omega)
    have h3 : 0 ≤ (i : Int) * u := Int.mul_nonneg (by omega) (by omega)
    refine ⟨?_, ?_⟩
    · unfold inB
      simp only
      rcases hy with ⟨rfl, v0⟩ | ⟨rfl, v0⟩
      · rw [absI_eq, show max v (-v) = v by omega] at h2
        have h4 : 0 ≤ (i : Int) * v := Int.mul_nonneg (by omega) v0
        omega
      · rw [absI_eq, show max v (-v) = -v by omega, Int.mul_neg] at h2
        have h4 : (i : Int) * v ≤ 0 := Int.mul_nonpos_of_nonneg_of_nonpos (by omega) (by omega)
        omega
    · simp only
      have : (i : Int) * (a * u + b * v) = 0 := by rw [zero, Int.mul_zero]
      grind) (fun i j hij z => by
    obtain ⟨z1, z2⟩ := Prod.mk.inj z
    rcases hu with hu | ⟨rfl, rfl⟩
    · have := Int.eq_of_mul_eq_mul_right (by omega) z1
      omega
    · omega)
  omega
theorem wide_begin {a b r c u v m y : Int} (hr : 1 ≤ r) (hc : 1 ≤ c) (mv : MoveP a b u v) (st : StepsW u v r c m) (hy : (y = 0 ∧ 0 ≤ v) ∨ (y = c - 1 ∧ v < 0)) : sizeT a b r c (a * 0 + b * y) = m + 1 ∧ WideP a b r c (m + 1) := by
  have h1 := wide_ge hr hc mv st hy
  have h2 := wide_le hr hc mv st
  have h3 := h2 (a * 0 + b * y)
  have ti := time_in (a := a) (b := b) (r := r) (c := c) (p := (0, y)) (by unfold inB; simp only; omega)
  have := st.1
  exact ⟨by omega, by omega, h2, a * 0 + b * y, ti, by omega⟩
theorem time52 {a b x y : Int} (ha : a.natAbs ≤ 10 ^ 29) (hb : b.natAbs ≤ 10 ^ 29) (hx : x.natAbs ≤ 10 ^ 30) (hy : y.natAbs ≤ 10 ^ 30) : (a * x).natAbs ≤ 10 ^ 59 ∧ (b * y).natAbs ≤ 10 ^ 59 ∧ (a * x + b * y).natAbs < 10 ^ 60 := by
  have h1 : (a * x).natAbs ≤ 10 ^ 59 := by rw [Int.natAbs_mul]; exact Nat.le_trans (Nat.mul_le_mul ha hx) (by decide +kernel)
  have h2 : (b * y).natAbs ≤ 10 ^ 59 := by rw [Int.natAbs_mul]; exact Nat.le_trans (Nat.mul_le_mul hb hy) (by decide +kernel)
  exact ⟨h1, h2, by omega⟩
theorem WideP.uniq {a b r c W W' : Int} (h : WideP a b r c W) (h' : WideP a b r c W') : W = W' := by
  obtain ⟨_, h1, t, _, h2⟩ := h
  obtain ⟨_, h3, t', _, h4⟩ := h'
  have := h1 t'
  have := h3 t
  omega
theorem WideP.le {a b r c W : Int} (hr : 0 ≤ r) (hc : 1 ≤ c) (h : WideP a b r c W) : 1 ≤ W ∧ W ≤ r * c := by
  obtain ⟨h0, _, t, _, h2⟩ := h
  refine ⟨h0, ?_⟩
  rw [← h2, ← cntB_all (r := r) (c := c) (P := fun _ => true) hr (by omega) fun _ _ => rfl]
  exact cntB_le hc fun _ _ _ => rfl
theorem sizeT_neg {a b r c t : Int} : sizeT (0 - a) (0 - b) r c (-t) = sizeT a b r c t := by
  unfold sizeT
  refine cntB_congr fun p _ => ?_
  rw [Bool.eq_iff_iff, decide_eq_true_iff, decide_eq_true_iff]
  simp only [Int.zero_sub, Int.neg_mul]
  omega
theorem WideP.neg {a b r c W : Int} (hc : 1 ≤ c) (h : WideP a b r c W) : WideP (0 - a) (0 - b) r c W := by
  obtain ⟨h0, h1, t, _, h2⟩ := h
  refine ⟨h0, fun s => by have := sizeT_neg (a := a) (b := b) (r := r) (c := c) (t := -s); rw [Int.neg_neg] at this; rw [this]; exact h1 _, -t, ?_, by rw [sizeT_neg]; exact h2⟩
  have e : sizeT (0 - a) (0 - b) r c (-t) = W := by rw [sizeT_neg]; exact h2
  unfold sizeT cntB at e
  obtain ⟨p, hp⟩ := List.exists_mem_of_ne_nil _ (show (spotsL r c).filter (fun p => decide ((0 - a) * p.1 + (0 - b) * p.2 = -t)) ≠ [] from fun z => by rw [z] at e; simp at e; omega)
  obtain ⟨g1, g2⟩ := List.mem_filter.mp hp
  have ti := time_in (a := 0 - a) (b := 0 - b) ((spots_in hc).mp g1)
  rw [of_decide_eq_true g2] at ti
  exact ti
theorem EvP.put {a b : Int} {F : List (Int × Int)} {es : List (Key × D)} {p : Int × Int} (h : EvP a b F es) : EvP a b (F ++ [p]) (putD es (.inl (a * p.1 + b * p.2)) (.lst ((F.filter (timB a b (a * p.1 + b * p.2))).map prD ++ [prD p]))) := by
  have t : timB a b (a * p.1 + b * p.2) p = true := decide_eq_true rfl
  have e0 : (F.filter (timB a b (a * p.1 + b * p.2))).map prD ++ [prD p] = ((F ++ [p]).filter (timB a b (a * p.1 + b * p.2))).map prD := by
    rw [List.filter_append, List.filter_cons, if_pos t, List.filter_nil, List.map_append]; rfl
  rw [e0]
  intro e he
  unfold putD at he
  split at he
  · obtain ⟨kv, h1, rfl⟩ := List.mem_map.mp he
    obtain ⟨m, h2, h3⟩ := h kv h1
    by_cases z : kv.1 = .inl (a * p.1 + b * p.2)
    · rw [if_pos z]
      exact ⟨_, z, rfl⟩
    · rw [if_neg z]
      refine ⟨m, h2, ?_⟩
      have t2 : ¬ timB a b m p = true := by
        unfold timB
        rw [decide_eq_true_iff]
        intro y
        rw [h2, y] at z
        exact z rfl
      rw [h3, List.filter_append, List.filter_cons, if_neg t2, List.filter_nil, List.append_nil]
  · rename_i z
    rcases List.mem_append.mp he with he | he
    · obtain ⟨m, h2, h3⟩ := h e he
      refine ⟨m, h2, ?_⟩
      have t2 : ¬ timB a b m p = true := by
        unfold timB
        rw [decide_eq_true_iff]
        intro y
        refine z (List.any_eq_true.mpr ⟨e, he, decide_eq_true ?_⟩)
        rw [h2, y]
      rw [h3, List.filter_append, List.filter_cons, if_neg t2, List.filter_nil, List.append_nil]
    · rw [List.mem_singleton.mp he]
      exact ⟨_, rfl, rfl⟩
theorem valD_mem {κ : Type} [DecidableEq κ] {k : κ} {d : D} : ∀ {es : List (κ × D)}, valD es k = some d → ∃ e ∈ es, e.2 = d
  | [], h => by cases h
  | e :: es, h => by
    have h : (if e.1 = k then some e.2 else valD es k) = some d := h
    split at h
    · exact ⟨e, List.mem_cons_self, Option.some.inj h⟩
    · obtain ⟨e', h1, h2⟩ := valD_mem h
      exact ⟨e', List.mem_cons_of_mem _ h1, h2⟩
def lenD : D → Int
  | .lst l => l.length
  | _ => 0
/-- the greatest length of the rows is the widest wave -/
theorem rows_wide {a b r c W m : Int} {es : List (Key × D)} (wv : WvP a b (spotsL r c) es) (ev : EvP a b (spotsL r c) es) (wd : WideP a b r c W) (h1 : m ∈ es.map fun e => lenD e.2) (h2 : ∀ y ∈ es.map fun e => lenD e.2, y ≤ m) : m = W := by
  obtain ⟨w0, w1, t, _, w2⟩ := wd
  have sz : ∀ t : Int, sizeT a b r c t = (((spotsL r c).filter (timB a b t)).length : Int) := fun t => rfl
  obtain ⟨e, he, rfl⟩ := List.mem_map.mp h1
  obtain ⟨m', _, e2⟩ := ev e he
  have l1 : lenD e.2 ≤ W := by
    rw [e2]
    show ((((spotsL r c).filter (timB a b m')).map prD).length : Int) ≤ W
    rw [List.length_map, ← sz]
    exact w1 m'
  have ne : (spotsL r c).filter (timB a b t) ≠ [] := fun z => by rw [sz, z] at w2; simp at w2; omega
  have v := wv.2 t
  rw [if_neg ne] at v
  obtain ⟨e', he', e3⟩ := valD_mem v
  have l2 := h2 _ (List.mem_map.mpr ⟨e', he', rfl⟩)
  rw [e3] at l2
  have l3 : lenD (.lst (((spotsL r c).filter (timB a b t)).map prD)) = W := by
    show ((((spotsL r c).filter (timB a b t)).map prD).length : Int) = W
    rw [List.length_map, ← sz, w2]
  omega
def lenI : D → D
  | .lst l => .int l.length
  | d => d
theorem rows_ints {a b : Int} {F : List (Int × Int)} {es : List (Key × D)} (ev : EvP a b F es) : (valsK es).map lenI = (es.map fun e => lenD e.2).map D.int := by
  unfold valsK
  rw [List.map_map, List.map_map]
  refine List.map_congr_left fun e he => ?_
  obtain ⟨m, _, e2⟩ := ev e he
  show lenI e.2 = D.int (lenD e.2)
  rw [e2]
  rfl
theorem ints52 : ∀ {ns : List Int}, intsOf (ns.map D.int) = some ns
  | [] => rfl
  | n :: ns => by
    show (match intsOf (ns.map D.int) with | some ns => some (n :: ns) | none => none) = _
    rw [ints52]
theorem max_lst52 {ns : List Int} {q : SV → Prop} (h0 : ns ≠ []) (h : ∀ m, m ∈ ns → (∀ y, y ∈ ns → y ≤ m) → q (.dat (.int m))) : dMaxL (.lst (ns.map D.int)) q := by
  show (match intsOf (ns.map D.int) with | some ns => 0 < ns.length ∧ ∀ m, m ∈ ns → (∀ y, y ∈ ns → y ≤ m) → q (.dat (.int m)) | none => False)
  rw [ints52]
  exact ⟨List.length_pos_iff.mpr h0, h⟩
theorem L__law_waves : ∀ n ds Q, S__law_waves n ds Q → ds.length = ps__law_waves.length := by
  intro n ds Q h
  unfold S__law_waves at h
  split at h <;> first | exact h.elim | rfl
set_option maxHeartbeats 0 in
theorem l__law_waves : ∀ n ds Q, S__law_waves n ds Q → t__law_waves (defE Q) (startG n N__law_waves ds) := by
  intro n ds Q h
  unfold S__law_waves at h
  split at h
  · rename_i a b x w
    show t__law_waves (defE Q) ⟨[some (.dat (.tup [.int a, .int b])), some (.dat (.int x)), some (.dat (.int w)), none, none, none, none], n⟩
    obtain ⟨⟨x1, x2⟩, ⟨w1, w2⟩, ⟨a1, b1⟩, h⟩ := h
    have aw : x * w ≤ 100 := Int.le_trans (Int.mul_le_mul_of_nonneg_right x2 (by omega)) (by omega)
    have bx : ∀ p ∈ spotsL x w, inB x w p.1 p.2 := fun p hp => (spots_in w1).mp hp
    have sl : (spotsL x w).length = (x * w).toNat := by unfold spotsL; rw [List.length_map, List.length_range]
    simp -implicitDefEqProofs only [t__law_waves, ↓XP, ↓x_ifs, ↓XU, XU, XQ, eq_self, List.reverse_cons, List.reverse_nil, Int.cast_ofNat_Int, List.length_cons, List.length_nil, List.nil_append, List.cons_append, ne_eq, Nat.reduceAdd, Nat.reduceLeDiff, Int.reduceEq, Int.reduceLT, Int.reduceLE, Int.reduceToNat, Int.reducePow, Int.reduceAdd, Int.reduceMul, Int.reduceSub, Int.reduceNeg, List.getElem?_cons_zero, List.getElem?_cons_succ, dd_is_integer, dd_need_number]
    refine ⟨by omega, by omega, by omega, by omega, by omega, ?_⟩
    rw [spots_eq]
    generalize spotsL x w = S at bx sl h ⊢
    refine for_inv (fun rr G => ∃ (F re : List (Int × Int)) (es : List (Key × D)) (o4 o5 o6 : Option SC), rr = re.map prD ∧ S = F ++ re ∧ (WvP a b F es ∧ EvP a b F es) ∧ es.length ≤ F.length ∧ G = ⟨[some (.dat (.tup [.int a, .int b])), some (.dat (.int x)), some (.dat (.int w)), some (.own (.dK es)), o4, o5, o6], n⟩) ?_ _ ?_ _ ⟨[], S, [], _, _, _, rfl, rfl, ⟨⟨⟨[], rfl, by simp⟩, fun m => rfl⟩, fun e he => (by cases he)⟩, Nat.le_refl _, rfl⟩
    · rintro G ⟨F, re, es, o4, o5, o6, e1, e2, wv, le0, rfl⟩
      cases re with
      | cons p re => cases e1
      | nil =>
        rw [List.append_nil] at e2
        subst e2
        simp -implicitDefEqProofs only [t__law_waves, ↓XP, ↓x_ifs, ↓XU, XU, XQ, eq_self, List.reverse_cons, List.reverse_nil, Int.cast_ofNat_Int, List.length_cons, List.length_nil, List.nil_append, List.cons_append, ne_eq, Nat.reduceAdd, Nat.reduceLeDiff, Int.reduceEq, Int.reduceLT, Int.reduceLE, Int.reduceToNat, Int.reducePow, Int.reduceAdd, Int.reduceMul, Int.reduceSub, Int.reduceNeg, List.getElem?_cons_zero, List.getElem?_cons_succ, dd_is_integer, dd_need_number]
        exact h es wv.1 wv.2 (by omega)
    · rintro d rr G N hsub ⟨F, re, es, o4, o5, o6, e1, e2, wv, le, rfl⟩ hN
      cases re with
      | nil => cases e1
      | cons p re =>
        obtain ⟨rfl, e5⟩ := List.cons.inj (show d :: rr = .tup [.int p.1, .int p.2] :: re.map prD from e1)
        have pb := bx p (by rw [e2]; simp)
        unfold inB at pb
        have gd : (valD es (.inl (a * p.1 + b * p.2))).getD (.lst []) = .lst ((F.filter (timB a b (a * p.1 + b * p.2))).map prD) := by
          rw [wv.1.2]
          by_cases z : F.filter (timB a b (a * p.1 + b * p.2)) = []
          · rw [if_pos z, z]; rfl
          · rw [if_neg z]; rfl
        have lF : F.length ≤ 100 := by have := congrArg List.length e2; rw [List.length_append, List.length_cons] at this; omega
        have fl := List.length_filter_le (timB a b (a * p.1 + b * p.2)) F
        simp -implicitDefEqProofs only [t__law_waves, ↓XP, ↓x_ifs, ↓XU, XU, XQ, eq_self, List.reverse_cons, List.reverse_nil, Int.cast_ofNat_Int, List.length_cons, List.length_nil, List.nil_append, List.cons_append, ne_eq, Nat.reduceAdd, Nat.reduceLeDiff, Int.reduceEq, Int.reduceLT, Int.reduceLE, Int.reduceToNat, Int.reducePow, Int.reduceAdd, Int.reduceMul, Int.reduceSub, Int.reduceNeg, List.getElem?_cons_zero, List.getElem?_cons_succ, dd_is_integer, dd_need_number]
        refine ⟨cm (by omega) (by omega), cm (by omega) (by omega), ?_⟩
        rw [gd]
        simp -implicitDefEqProofs only [t__law_waves, ↓XP, ↓x_ifs, ↓XU, XU, XQ, eq_self, List.reverse_cons, List.reverse_nil, Int.cast_ofNat_Int, List.length_cons, List.length_nil, List.nil_append, List.cons_append, ne_eq, Nat.reduceAdd, Nat.reduceLeDiff, Int.reduceEq, Int.reduceLT, Int.reduceLE, Int.reduceToNat, Int.reducePow, Int.reduceAdd, Int.reduceMul, Int.reduceSub, Int.reduceNeg, List.getElem?_cons_zero, List.getElem?_cons_succ, dd_is_integer, dd_need_number]
        refine ⟨by rw [List.length_map]; exact Nat.le_trans (m := 200) (by omega) (by decide), Nat.lt_of_le_of_lt (m := 200) (by omega) (by decide), ?_⟩
        exact hN _ ⟨F ++ [p], re, _, _, _, _, e5, by rw [e2, List.append_assoc]; rfl, ⟨wv.1.put, wv.2.put⟩, by rw [List.length_append, List.length_singleton]; exact Nat.le_trans put_len (by omega), rfl⟩
  · exact h.elim
theorem L__law_right : ∀ n ds Q, S__law_right n ds Q → ds.length = ps__law_right.length := by
  intro n ds Q h
  unfold S__law_right at h
  split at h <;> first | exact h.elim | rfl
set_option maxHeartbeats 0 in
theorem l__law_right : ∀ n ds Q, S__law_right n ds Q → t__law_right (defE Q) (startG n N__law_right ds) := by
  intro n ds Q h
  unfold S__law_right at h
  split at h
  · skip
    show t__law_right (defE Q) ⟨[some (.dat (.src)), none, none, none, none, none, none, none], n⟩
    obtain ⟨hn, h⟩ := h
    simp -implicitDefEqProofs only [t__law_right, ↓XP, ↓x_ifs, ↓XU, XU, XQ, eq_self, List.reverse_cons, List.reverse_nil, Int.cast_ofNat_Int, List.length_cons, List.length_nil, List.nil_append, List.cons_append, ne_eq, Nat.reduceAdd, Nat.reduceLeDiff, Int.reduceEq, Int.reduceLT, Int.reduceLE, Int.reduceToNat, Int.reducePow, Int.reduceAdd, Int.reduceMul, Int.reduceSub, Int.reduceNeg, List.getElem?_cons_zero, List.getElem?_cons_succ, dd_is_integer, dd_need_number]
    (repeat (refine ⟨by (first | omega | exact cm (by omega) (by omega) | exact lg (by omega) | exact pw10 (by decide) | decide +kernel), ?_⟩))
    intro x0 x0_j x0_a x0_b x0_c x0_d
    refine at_ints [3,9] (3) (9) x0_a x0_b fun f1 f1_a f1_b => ?_
    try (simp -implicitDefEqProofs only [t__law_right, ↓XP, ↓x_ifs, ↓XU, XU, XQ, eq_self, List.reverse_cons, List.reverse_nil, Int.cast_ofNat_Int, List.length_cons, List.length_nil, List.nil_append, List.cons_append, ne_eq, Nat.reduceAdd, Nat.reduceLeDiff, Int.reduceEq, Int.reduceLT, Int.reduceLE, Int.reduceToNat, Int.reducePow, Int.reduceAdd, Int.reduceMul, Int.reduceSub, Int.reduceNeg, List.getElem?_cons_zero, List.getElem?_cons_succ, dd_is_integer, dd_need_number])
    (repeat (refine ⟨by (first | omega | exact cm (by omega) (by omega) | exact lg (by omega) | exact pw10 (by decide) | decide +kernel), ?_⟩))
    intro x x_j x_a x_b x_c x_d
    try (simp -implicitDefEqProofs only [t__law_right, ↓XP, ↓x_ifs, ↓XU, XU, XQ, eq_self, List.reverse_cons, List.reverse_nil, Int.cast_ofNat_Int, List.length_cons, List.length_nil, List.nil_append, List.cons_append, ne_eq, Nat.reduceAdd, Nat.reduceLeDiff, Int.reduceEq, Int.reduceLT, Int.reduceLE, Int.reduceToNat, Int.reducePow, Int.reduceAdd, Int.reduceMul, Int.reduceSub, Int.reduceNeg, List.getElem?_cons_zero, List.getElem?_cons_succ, dd_is_integer, dd_need_number])
    (repeat (refine ⟨by (first | omega | exact cm (by omega) (by omega) | exact lg (by omega) | exact pw10 (by decide) | decide +kernel), ?_⟩))
    intro y0 y0_j y0_a y0_b y0_c y0_d
    refine at_ints [3,9] (3) (9) y0_a y0_b fun f2 f2_a f2_b => ?_
    try (simp -implicitDefEqProofs only [t__law_right, ↓XP, ↓x_ifs, ↓XU, XU, XQ, eq_self, List.reverse_cons, List.reverse_nil, Int.cast_ofNat_Int, List.length_cons, List.length_nil, List.nil_append, List.cons_append, ne_eq, Nat.reduceAdd, Nat.reduceLeDiff, Int.reduceEq, Int.reduceLT, Int.reduceLE, Int.reduceToNat, Int.reducePow, Int.reduceAdd, Int.reduceMul, Int.reduceSub, Int.reduceNeg, List.getElem?_cons_zero, List.getElem?_cons_succ, dd_is_integer, dd_need_number])
    (repeat (refine ⟨by (first | omega | exact cm (by omega) (by omega) | exact lg (by omega) | exact pw10 (by decide) | decide +kernel), ?_⟩))
    intro y y_j y_a y_b y_c y_d
    try (simp -implicitDefEqProofs only [t__law_right, ↓XP, ↓x_ifs, ↓XU, XU, XQ, eq_self, List.reverse_cons, List.reverse_nil, Int.cast_ofNat_Int, List.length_cons, List.length_nil, List.nil_append, List.cons_append, ne_eq, Nat.reduceAdd, Nat.reduceLeDiff, Int.reduceEq, Int.reduceLT, Int.reduceLE, Int.reduceToNat, Int.reducePow, Int.reduceAdd, Int.reduceMul, Int.reduceSub, Int.reduceNeg, List.getElem?_cons_zero, List.getElem?_cons_succ, dd_is_integer, dd_need_number])
    (repeat (refine ⟨by (first | omega | exact cm (by omega) (by omega) | exact lg (by omega) | exact pw10 (by decide) | decide +kernel), ?_⟩))
    intro w w_j w_a w_b w_c w_d
    refine at_ints [2,7] (2) (7) w_a w_b fun f f_a f_b => ?_
    try (simp -implicitDefEqProofs only [t__law_right, ↓XP, ↓x_ifs, ↓XU, XU, XQ, eq_self, List.reverse_cons, List.reverse_nil, Int.cast_ofNat_Int, List.length_cons, List.length_nil, List.nil_append, List.cons_append, ne_eq, Nat.reduceAdd, Nat.reduceLeDiff, Int.reduceEq, Int.reduceLT, Int.reduceLE, Int.reduceToNat, Int.reducePow, Int.reduceAdd, Int.reduceMul, Int.reduceSub, Int.reduceNeg, List.getElem?_cons_zero, List.getElem?_cons_succ, dd_is_integer, dd_need_number])
    refine ⟨⟨by omega, by omega⟩, by omega, fun a0 b0 j nz0 ha0 hb0 j1 j2 => ⟨by decide +kernel, by omega, fun i j3 i0 i1 j4 j5 => ?_⟩⟩
    refine at_ints [1, 1, 4] 1 4 i0 i1 fun g g1 g2 => ?_
    simp -implicitDefEqProofs only [t__law_right, ↓XP, ↓x_ifs, ↓XU, XU, XQ, eq_self, List.reverse_cons, List.reverse_nil, Int.cast_ofNat_Int, List.length_cons, List.length_nil, List.nil_append, List.cons_append, ne_eq, Nat.reduceAdd, Nat.reduceLeDiff, Int.reduceEq, Int.reduceLT, Int.reduceLE, Int.reduceToNat, Int.reducePow, Int.reduceAdd, Int.reduceMul, Int.reduceSub, Int.reduceNeg, List.getElem?_cons_zero, List.getElem?_cons_succ, dd_is_integer, dd_need_number]
    have hr : sizeW (1 + x) := by unfold sizeW; omega
    have hc : sizeW (1 + y) := by unfold sizeW; omega
    have m1 := Int.natAbs_mul a0 g
    have m2 := Int.natAbs_mul b0 g
    have m3 : a0.natAbs * g.natAbs ≤ 7 * 4 := Nat.mul_le_mul (by omega) (by omega)
    have m4 : b0.natAbs * g.natAbs ≤ 7 * 4 := Nat.mul_le_mul (by omega) (by omega)
    refine ⟨cm (by omega) (by omega), cm (by omega) (by omega), by omega, by omega, by omega, fun es wv ev el => ?_⟩
    refine ⟨by unfold valsK; rw [List.length_map]; exact Nat.le_trans el (by decide), ?_⟩
    refine lc_all (f := lenI) ?_ ?_
    · intro d hd k' k'' hk
      obtain ⟨e, he, rfl⟩ := List.mem_map.mp hd
      obtain ⟨m, _, e2⟩ := ev e he
      rw [e2] at hk ⊢
      simp -implicitDefEqProofs only [t__law_right, ↓XP, ↓x_ifs, ↓XU, XU, XQ, eq_self, List.reverse_cons, List.reverse_nil, Int.cast_ofNat_Int, List.length_cons, List.length_nil, List.nil_append, List.cons_append, ne_eq, Nat.reduceAdd, Nat.reduceLeDiff, Int.reduceEq, Int.reduceLT, Int.reduceLE, Int.reduceToNat, Int.reducePow, Int.reduceAdd, Int.reduceMul, Int.reduceSub, Int.reduceNeg, List.getElem?_cons_zero, List.getElem?_cons_succ, dd_is_integer, dd_need_number]
      exact hk
    rw [rows_ints ev]
    have ne : (es.map fun e => lenD e.2) ≠ [] := fun z => by
      have z2 : es = [] := List.map_eq_nil_iff.mp z
      have v := wv.2 0
      have hin : ((0 : Int), (0 : Int)) ∈ (spotsL (1 + x) (1 + y)).filter (timB (a0 * g) (b0 * g) 0) := List.mem_filter.mpr ⟨(spots_in (by omega)).mpr (by unfold inB; simp only; omega), decide_eq_true (by simp only [Int.mul_zero, Int.add_zero])⟩
      rw [z2, if_neg fun z3 => by rw [z3] at hin; cases hin] at v
      cases v
    have nz : ¬ (a0 * g = 0 ∧ b0 * g = 0) := fun z => nz0 ⟨(Int.mul_eq_zero.mp z.1).resolve_right (by omega), (Int.mul_eq_zero.mp z.2).resolve_right (by omega)⟩
    refine max_lst52 ne fun m hm1 hm2 => ?_
    simp -implicitDefEqProofs only [t__law_right, ↓XP, ↓x_ifs, ↓XU, XU, XQ, eq_self, List.reverse_cons, List.reverse_nil, Int.cast_ofNat_Int, List.length_cons, List.length_nil, List.nil_append, List.cons_append, ne_eq, Nat.reduceAdd, Nat.reduceLeDiff, Int.reduceEq, Int.reduceLT, Int.reduceLE, Int.reduceToNat, Int.reducePow, Int.reduceAdd, Int.reduceMul, Int.reduceSub, Int.reduceNeg, List.getElem?_cons_zero, List.getElem?_cons_succ, dd_is_integer, dd_need_number]
    refine ⟨nz, ⟨by omega, by omega⟩, hr, hc, fun W wd => ?_⟩
    obtain rfl := rows_wide wv ev wd hm1 hm2
    have wl := wd.le (by omega) (by omega)
    have w100 : (1 + x) * (1 + y) ≤ 10 * 10 := Int.mul_le_mul (by omega) (by omega) (by omega) (by decide)
    have m300 : m.natAbs < 10 ^ 300 := Nat.lt_of_le_of_lt (m := 100) (by omega) (by decide +kernel)
    refine rp_int m300 ?_
    refine rp_int m300 ?_
    simp -implicitDefEqProofs only [t__law_right, ↓XP, ↓x_ifs, ↓XU, XU, XQ, eq_self, List.reverse_cons, List.reverse_nil, Int.cast_ofNat_Int, List.length_cons, List.length_nil, List.nil_append, List.cons_append, ne_eq, Nat.reduceAdd, Nat.reduceLeDiff, Int.reduceEq, Int.reduceLT, Int.reduceLE, Int.reduceToNat, Int.reducePow, Int.reduceAdd, Int.reduceMul, Int.reduceSub, Int.reduceNeg, List.getElem?_cons_zero, List.getElem?_cons_succ, dd_is_integer, dd_need_number]
    refine ⟨by omega, ⟨by omega, by omega⟩, hr, hc, fun W2 wd2 => ?_⟩
    obtain rfl := wd2.uniq (wd.neg (by omega))
    simp -implicitDefEqProofs only [t__law_right, ↓XP, ↓x_ifs, ↓XU, XU, XQ, eq_self, List.reverse_cons, List.reverse_nil, Int.cast_ofNat_Int, List.length_cons, List.length_nil, List.nil_append, List.cons_append, ne_eq, Nat.reduceAdd, Nat.reduceLeDiff, Int.reduceEq, Int.reduceLT, Int.reduceLE, Int.reduceToNat, Int.reducePow, Int.reduceAdd, Int.reduceMul, Int.reduceSub, Int.reduceNeg, List.getElem?_cons_zero, List.getElem?_cons_succ, dd_is_integer, dd_need_number]
    exact h _ (by omega) (by omega)
  · exact h.elim
theorem L__law_far_right : ∀ n ds Q, S__law_far_right n ds Q → ds.length = ps__law_far_right.length := by
  intro n ds Q h
  unfold S__law_far_right at h
  split at h <;> first | exact h.elim | rfl
set_option maxHeartbeats 0 in
theorem l__law_far_right : ∀ n ds Q, S__law_far_right n ds Q → t__law_far_right (defE Q) (startG n N__law_far_right ds) := by
  intro n ds Q h
  unfold S__law_far_right at h
  split at h
  · skip
    show t__law_far_right (defE Q) ⟨[some (.dat (.src)), none, none, none, none, none, none, none, none, none, none], n⟩
    obtain ⟨hn, h⟩ := h
    simp -implicitDefEqProofs only [t__law_far_right, ↓XP, ↓x_ifs, ↓XU, XU, XQ, eq_self, List.reverse_cons, List.reverse_nil, Int.cast_ofNat_Int, List.length_cons, List.length_nil, List.nil_append, List.cons_append, ne_eq, Nat.reduceAdd, Nat.reduceLeDiff, Int.reduceEq, Int.reduceLT, Int.reduceLE, Int.reduceToNat, Int.reducePow, Int.reduceAdd, Int.reduceMul, Int.reduceSub, Int.reduceNeg, List.getElem?_cons_zero, List.getElem?_cons_succ, dd_is_integer, dd_need_number]
    (repeat (refine ⟨by (first | omega | exact cm (by omega) (by omega) | exact lg (by omega) | exact pw10 (by decide) | decide +kernel), ?_⟩))
    intro x0 x0_j x0_a x0_b x0_c x0_d
    refine at_ints [30,10^30-1] (30) (10^30-1) x0_a x0_b fun f1 f1_a f1_b => ?_
    try (simp -implicitDefEqProofs only [t__law_far_right, ↓XP, ↓x_ifs, ↓XU, XU, XQ, eq_self, List.reverse_cons, List.reverse_nil, Int.cast_ofNat_Int, List.length_cons, List.length_nil, List.nil_append, List.cons_append, ne_eq, Nat.reduceAdd, Nat.reduceLeDiff, Int.reduceEq, Int.reduceLT, Int.reduceLE, Int.reduceToNat, Int.reducePow, Int.reduceAdd, Int.reduceMul, Int.reduceSub, Int.reduceNeg, List.getElem?_cons_zero, List.getElem?_cons_succ, dd_is_integer, dd_need_number])
    (repeat (refine ⟨by (first | omega | exact cm (by omega) (by omega) | exact lg (by omega) | exact pw10 (by decide) | decide +kernel), ?_⟩))
    intro x x_j x_a x_b x_c x_d
    try (simp -implicitDefEqProofs only [t__law_far_right, ↓XP, ↓x_ifs, ↓XU, XU, XQ, eq_self, List.reverse_cons, List.reverse_nil, Int.cast_ofNat_Int, List.length_cons, List.length_nil, List.nil_append, List.cons_append, ne_eq, Nat.reduceAdd, Nat.reduceLeDiff, Int.reduceEq, Int.reduceLT, Int.reduceLE, Int.reduceToNat, Int.reducePow, Int.reduceAdd, Int.reduceMul, Int.reduceSub, Int.reduceNeg, List.getElem?_cons_zero, List.getElem?_cons_succ, dd_is_integer, dd_need_number])
    (repeat (refine ⟨by (first | omega | exact cm (by omega) (by omega) | exact lg (by omega) | exact pw10 (by decide) | decide +kernel), ?_⟩))
    intro y0 y0_j y0_a y0_b y0_c y0_d
    refine at_ints [30,10^30-1] (30) (10^30-1) y0_a y0_b fun f2 f2_a f2_b => ?_
    try (simp -implicitDefEqProofs only [t__law_far_right, ↓XP, ↓x_ifs, ↓XU, XU, XQ, eq_self, List.reverse_cons, List.reverse_nil, Int.cast_ofNat_Int, List.length_cons, List.length_nil, List.nil_append, List.cons_append, ne_eq, Nat.reduceAdd, Nat.reduceLeDiff, Int.reduceEq, Int.reduceLT, Int.reduceLE, Int.reduceToNat, Int.reducePow, Int.reduceAdd, Int.reduceMul, Int.reduceSub, Int.reduceNeg, List.getElem?_cons_zero, List.getElem?_cons_succ, dd_is_integer, dd_need_number])
    (repeat (refine ⟨by (first | omega | exact cm (by omega) (by omega) | exact lg (by omega) | exact pw10 (by decide) | decide +kernel), ?_⟩))
    intro y y_j y_a y_b y_c y_d
    try (simp -implicitDefEqProofs only [t__law_far_right, ↓XP, ↓x_ifs, ↓XU, XU, XQ, eq_self, List.reverse_cons, List.reverse_nil, Int.cast_ofNat_Int, List.length_cons, List.length_nil, List.nil_append, List.cons_append, ne_eq, Nat.reduceAdd, Nat.reduceLeDiff, Int.reduceEq, Int.reduceLT, Int.reduceLE, Int.reduceToNat, Int.reducePow, Int.reduceAdd, Int.reduceMul, Int.reduceSub, Int.reduceNeg, List.getElem?_cons_zero, List.getElem?_cons_succ, dd_is_integer, dd_need_number])
    (repeat (refine ⟨by (first | omega | exact cm (by omega) (by omega) | exact lg (by omega) | exact pw10 (by decide) | decide +kernel), ?_⟩))
    intro w w_j w_a w_b w_c w_d
    refine at_ints [3,50,10^15,10^29] (3) (10^29) w_a w_b fun f f_a f_b => ?_
    try (simp -implicitDefEqProofs only [t__law_far_right, ↓XP, ↓x_ifs, ↓XU, XU, XQ, eq_self, List.reverse_cons, List.reverse_nil, Int.cast_ofNat_Int, List.length_cons, List.length_nil, List.nil_append, List.cons_append, ne_eq, Nat.reduceAdd, Nat.reduceLeDiff, Int.reduceEq, Int.reduceLT, Int.reduceLE, Int.reduceToNat, Int.reducePow, Int.reduceAdd, Int.reduceMul, Int.reduceSub, Int.reduceNeg, List.getElem?_cons_zero, List.getElem?_cons_succ, dd_is_integer, dd_need_number])
    refine ⟨⟨by omega, by omega⟩, by omega, fun a0 b0 j nz0 ha0 hb0 j1 j2 => ⟨by decide +kernel, by omega, fun i j3 i0 i1 j4 j5 => ?_⟩⟩
    have c29 : (10 : Nat) ^ 29 * 2 < 10 ^ 40 := by decide +kernel
    refine br_key (fun G => ∃ (a b : Int) (g : Nat) (o8 : Option SC), ¬ (a = 0 ∧ b = 0) ∧ (a.natAbs ≤ 10 ^ 29 ∧ b.natAbs ≤ 10 ^ 29) ∧ (n ≤ g ∧ g ≤ n + 14) ∧ G = ⟨[some (.dat .src), some (.dat (.tup [.int a, .int b])), none, none, none, none, some (.dat (.int (1 + x))), some (.dat (.int (1 + y))), o8, none, none], g⟩) (fun E hE => ?_) ?_
    · by_cases z : i = 0
      · rw [decide_eq_true z]
        simp -implicitDefEqProofs only [t__law_far_right, ↓XP, ↓x_ifs, ↓XU, XU, XQ, eq_self, List.reverse_cons, List.reverse_nil, Int.cast_ofNat_Int, List.length_cons, List.length_nil, List.nil_append, List.cons_append, ne_eq, Nat.reduceAdd, Nat.reduceLeDiff, Int.reduceEq, Int.reduceLT, Int.reduceLE, Int.reduceToNat, Int.reducePow, Int.reduceAdd, Int.reduceMul, Int.reduceSub, Int.reduceNeg, List.getElem?_cons_zero, List.getElem?_cons_succ, dd_is_integer, dd_need_number]
        refine ⟨by decide +kernel, by decide +kernel, by omega, fun u j6 u0 u1 j7 j8 => ?_⟩
        refine ⟨cm (by omega) (by omega), cm (by omega) (by omega), by decide +kernel, by omega, fun t j12 t0 t1 j13 j14 => ?_⟩
        rcases (show t = 0 ∨ t = 1 ∨ t = 2 ∨ t = 3 by omega) with rfl | rfl | rfl | rfl
        all_goals
          simp -implicitDefEqProofs only [t__law_far_right, ↓XP, ↓x_ifs, ↓XU, XU, XQ, eq_self, List.reverse_cons, List.reverse_nil, Int.cast_ofNat_Int, List.length_cons, List.length_nil, List.nil_append, List.cons_append, ne_eq, Nat.reduceAdd, Nat.reduceLeDiff, Int.reduceEq, Int.reduceLT, Int.reduceLE, Int.reduceToNat, Int.reducePow, Int.reduceAdd, Int.reduceMul, Int.reduceSub, Int.reduceNeg, List.getElem?_cons_zero, List.getElem?_cons_succ, dd_is_integer, dd_need_number]
          exact hE _ ⟨_, _, j12, _, by omega, by omega, by omega, rfl⟩
      · rw [decide_eq_false z]
        simp -implicitDefEqProofs only [t__law_far_right, ↓XP, ↓x_ifs, ↓XU, XU, XQ, eq_self, List.reverse_cons, List.reverse_nil, Int.cast_ofNat_Int, List.length_cons, List.length_nil, List.nil_append, List.cons_append, ne_eq, Nat.reduceAdd, Nat.reduceLeDiff, Int.reduceEq, Int.reduceLT, Int.reduceLE, Int.reduceToNat, Int.reducePow, Int.reduceAdd, Int.reduceMul, Int.reduceSub, Int.reduceNeg, List.getElem?_cons_zero, List.getElem?_cons_succ, dd_is_integer, dd_need_number]
        exact hE _ ⟨a0, b0, j3, none, nz0, by omega, by omega, rfl⟩
    rintro G ⟨a, b, g, o8, nz, hab, ⟨g1, g2⟩, rfl⟩
    dsimp only
    have hr : 1 ≤ 1 + x ∧ 1 + x ≤ 999999999999999999999999999999 := by omega
    have hc : 1 ≤ 1 + y ∧ 1 + y ≤ 999999999999999999999999999999 := by omega
    generalize 1 + x = r at hr ⊢
    generalize 1 + y = c at hc ⊢
    have hr2 : sizeW r := hr
    have hc2 : sizeW c := hc
    clear j5 j4 i1 i0 j2 j1 hb0 ha0
    have a100 : a.natAbs < 10 ^ 100 ∧ b.natAbs < 10 ^ 100 := by omega
    simp -implicitDefEqProofs only [t__law_far_right, ↓XP, ↓x_ifs, ↓XU, XU, XQ, eq_self, List.reverse_cons, List.reverse_nil, Int.cast_ofNat_Int, List.length_cons, List.length_nil, List.nil_append, List.cons_append, ne_eq, Nat.reduceAdd, Nat.reduceLeDiff, Int.reduceEq, Int.reduceLT, Int.reduceLE, Int.reduceToNat, Int.reducePow, Int.reduceAdd, Int.reduceMul, Int.reduceSub, Int.reduceNeg, List.getElem?_cons_zero, List.getElem?_cons_succ, dd_is_integer, dd_need_number]
    refine ⟨nz, a100, fun u v mv => ?_⟩
    refine ev_key (T := brE 0 (decide (0 ≤ v)) _ _) (fun sv G => ∃ y : Int, ((y = 0 ∧ 0 ≤ v) ∨ (y = c - 1 ∧ v < 0)) ∧ sv = .dat (.tup [.int 0, .int y]) ∧ G = ⟨[some (.dat .src), some (.dat (.tup [.int a, .int b])), some (.dat (.tup [.int u, .int v])), none, none, none, some (.dat (.int r)), some (.dat (.int c)), o8, none, none], g⟩) (fun Q' hQ => ?_) ?_
    · by_cases v0 : 0 ≤ v
      · rw [decide_eq_true v0]
        simp -implicitDefEqProofs only [t__law_far_right, ↓XP, ↓x_ifs, ↓XU, XU, XQ, eq_self, List.reverse_cons, List.reverse_nil, Int.cast_ofNat_Int, List.length_cons, List.length_nil, List.nil_append, List.cons_append, ne_eq, Nat.reduceAdd, Nat.reduceLeDiff, Int.reduceEq, Int.reduceLT, Int.reduceLE, Int.reduceToNat, Int.reducePow, Int.reduceAdd, Int.reduceMul, Int.reduceSub, Int.reduceNeg, List.getElem?_cons_zero, List.getElem?_cons_succ, dd_is_integer, dd_need_number]
        exact hQ _ _ ⟨0, .inl ⟨rfl, v0⟩, rfl, rfl⟩
      · rw [decide_eq_false v0]
        simp -implicitDefEqProofs only [t__law_far_right, ↓XP, ↓x_ifs, ↓XU, XU, XQ, eq_self, List.reverse_cons, List.reverse_nil, Int.cast_ofNat_Int, List.length_cons, List.length_nil, List.nil_append, List.cons_append, ne_eq, Nat.reduceAdd, Nat.reduceLeDiff, Int.reduceEq, Int.reduceLT, Int.reduceLE, Int.reduceToNat, Int.reducePow, Int.reduceAdd, Int.reduceMul, Int.reduceSub, Int.reduceNeg, List.getElem?_cons_zero, List.getElem?_cons_succ, dd_is_integer, dd_need_number]
        exact hQ _ _ ⟨c - 1, .inr ⟨rfl, by omega⟩, rfl, rfl⟩
    rintro sv G ⟨y, hy, rfl, rfl⟩
    have mb := mv.2.2.1
    simp -implicitDefEqProofs only [t__law_far_right, ↓XP, ↓x_ifs, ↓XU, XU, XQ, eq_self, List.reverse_cons, List.reverse_nil, Int.cast_ofNat_Int, List.length_cons, List.length_nil, List.nil_append, List.cons_append, ne_eq, Nat.reduceAdd, Nat.reduceLeDiff, Int.reduceEq, Int.reduceLT, Int.reduceLE, Int.reduceToNat, Int.reducePow, Int.reduceAdd, Int.reduceMul, Int.reduceSub, Int.reduceNeg, List.getElem?_cons_zero, List.getElem?_cons_succ, dd_is_integer, dd_need_number]
    refine ⟨mv.2.1, ⟨by omega, by omega⟩, hr2, hc2, hy, fun m st => ?_⟩
    obtain ⟨wb, wd⟩ := wide_begin hr.1 hc.1 mv st hy
    have tb := fun (z w : Int) (hz : inB r c z w) => time52 (a := a) (b := b) (x := z) (y := w) hab.1 hab.2 (by unfold inB at hz; omega) (by unfold inB at hz; omega)
    have cb := fun (z w : Int) (hz : inB r c z w) => And.intro (cm (x := a) (y := z) (Nat.lt_of_le_of_lt hab.1 (by decide +kernel)) (Nat.lt_of_le_of_lt (m := 10 ^ 30) (by unfold inB at hz; omega) (by decide +kernel))) (cm (x := b) (y := w) (Nat.lt_of_le_of_lt hab.2 (by decide +kernel)) (Nat.lt_of_le_of_lt (m := 10 ^ 30) (by unfold inB at hz; omega) (by decide +kernel)))
    have yb : inB r c 0 y := by unfold inB; omega
    refine ⟨nz, ⟨by omega, by omega⟩, hr2, hc2, fun W wd2 => ?_⟩
    obtain rfl := wd2.uniq wd
    have st1 := st.1
    have st2 := st.2.1
    have m300 : (m + 1).natAbs < 10 ^ 300 := Nat.lt_of_le_of_lt (m := 10 ^ 31) (by omega) (by decide +kernel)
    refine rp_int m300 ?_
    try (simp -implicitDefEqProofs only [t__law_far_right, ↓XP, ↓x_ifs, ↓XU, XU, XQ, eq_self, List.reverse_cons, List.reverse_nil, Int.cast_ofNat_Int, List.length_cons, List.length_nil, List.nil_append, List.cons_append, ne_eq, Nat.reduceAdd, Nat.reduceLeDiff, Int.reduceEq, Int.reduceLT, Int.reduceLE, Int.reduceToNat, Int.reducePow, Int.reduceAdd, Int.reduceMul, Int.reduceSub, Int.reduceNeg, List.getElem?_cons_zero, List.getElem?_cons_succ, dd_is_integer, dd_need_number])
    refine rp_int m300 ?_
    simp -implicitDefEqProofs only [t__law_far_right, ↓XP, ↓x_ifs, ↓XU, XU, XQ, eq_self, List.reverse_cons, List.reverse_nil, Int.cast_ofNat_Int, List.length_cons, List.length_nil, List.nil_append, List.cons_append, ne_eq, Nat.reduceAdd, Nat.reduceLeDiff, Int.reduceEq, Int.reduceLT, Int.reduceLE, Int.reduceToNat, Int.reducePow, Int.reduceAdd, Int.reduceMul, Int.reduceSub, Int.reduceNeg, List.getElem?_cons_zero, List.getElem?_cons_succ, dd_is_integer, dd_need_number]
    refine ⟨(cb 0 y yb).1, (cb 0 y yb).2, nz, ⟨by omega, by omega, (tb 0 y yb).2.2⟩, hr2, hc2, fun x1 y1 u1 v1 k1 hl1 => ?_⟩
    rw [← linT_size hc.1 hl1, wb, decide_eq_true rfl]
    simp -implicitDefEqProofs only [t__law_far_right, ↓XP, ↓x_ifs, ↓XU, XU, XQ, eq_self, List.reverse_cons, List.reverse_nil, Int.cast_ofNat_Int, List.length_cons, List.length_nil, List.nil_append, List.cons_append, ne_eq, Nat.reduceAdd, Nat.reduceLeDiff, Int.reduceEq, Int.reduceLT, Int.reduceLE, Int.reduceToNat, Int.reducePow, Int.reduceAdd, Int.reduceMul, Int.reduceSub, Int.reduceNeg, List.getElem?_cons_zero, List.getElem?_cons_succ, dd_is_integer, dd_need_number]
    refine for_inv (fun rr G => ∃ o5 o9 c', c' + 2 * rr.length ≤ g + 8 ∧ g ≤ c' ∧ G = ⟨[some (.dat .src), some (.dat (.tup [.int a, .int b])), some (.dat (.tup [.int u, .int v])), some (.dat (.tup [.int 0, .int y])), some (.dat (.int (m + 1))), o5, some (.dat (.int r)), some (.dat (.int c)), o8, o9, none], c'⟩) ?_ _ ?_ _ ⟨_, _, g, Nat.le_refl _, Nat.le_refl _, rfl⟩
    · rintro G ⟨o5, o9, c', h1, h2, rfl⟩
      rw [List.length_nil] at h1
      simp -implicitDefEqProofs only [t__law_far_right, ↓XP, ↓x_ifs, ↓XU, XU, XQ, eq_self, List.reverse_cons, List.reverse_nil, Int.cast_ofNat_Int, List.length_cons, List.length_nil, List.nil_append, List.cons_append, ne_eq, Nat.reduceAdd, Nat.reduceLeDiff, Int.reduceEq, Int.reduceLT, Int.reduceLE, Int.reduceToNat, Int.reducePow, Int.reduceAdd, Int.reduceMul, Int.reduceSub, Int.reduceNeg, List.getElem?_cons_zero, List.getElem?_cons_succ, dd_is_integer, dd_need_number]
      exact h _ (by omega) (by omega)
    · rintro d rr G M hsf ⟨o5, o9, c', h1, h2, rfl⟩ hM
      rw [List.length_cons] at h1
      simp -implicitDefEqProofs only [t__law_far_right, ↓XP, ↓x_ifs, ↓XU, XU, XQ, eq_self, List.reverse_cons, List.reverse_nil, Int.cast_ofNat_Int, List.length_cons, List.length_nil, List.nil_append, List.cons_append, ne_eq, Nat.reduceAdd, Nat.reduceLeDiff, Int.reduceEq, Int.reduceLT, Int.reduceLE, Int.reduceToNat, Int.reducePow, Int.reduceAdd, Int.reduceMul, Int.reduceSub, Int.reduceNeg, List.getElem?_cons_zero, List.getElem?_cons_succ, dd_is_integer, dd_need_number]
      refine ⟨by omega, Nat.lt_of_le_of_lt (m := 10 ^ 30) (by omega) (by decide +kernel), by omega, fun z j6 z0 z1 j7 j8 => ?_⟩
      refine ⟨by omega, Nat.lt_of_le_of_lt (m := 10 ^ 30) (by omega) (by decide +kernel), by omega, fun w j9 w0 w1 j10 j11 => ?_⟩
      have zb : inB r c z w := ⟨z0, z1, w0, w1⟩
      try (simp -implicitDefEqProofs only [t__law_far_right, ↓XP, ↓x_ifs, ↓XU, XU, XQ, eq_self, List.reverse_cons, List.reverse_nil, Int.cast_ofNat_Int, List.length_cons, List.length_nil, List.nil_append, List.cons_append, ne_eq, Nat.reduceAdd, Nat.reduceLeDiff, Int.reduceEq, Int.reduceLT, Int.reduceLE, Int.reduceToNat, Int.reducePow, Int.reduceAdd, Int.reduceMul, Int.reduceSub, Int.reduceNeg, List.getElem?_cons_zero, List.getElem?_cons_succ, dd_is_integer, dd_need_number])
      refine ⟨(cb z w zb).1, (cb z w zb).2, nz, ⟨by omega, by omega, (tb z w zb).2.2⟩, hr2, hc2, fun x2 y2 u2 v2 k2 hl2 => ?_⟩
      have k3 := wd.2.1 (a * z + b * w)
      rw [linT_size hc.1 hl2] at k3
      rw [decide_eq_false (show ¬ k2 > m + 1 by omega)]
      simp -implicitDefEqProofs only [t__law_far_right, ↓XP, ↓x_ifs, ↓XU, XU, XQ, eq_self, List.reverse_cons, List.reverse_nil, Int.cast_ofNat_Int, List.length_cons, List.length_nil, List.nil_append, List.cons_append, ne_eq, Nat.reduceAdd, Nat.reduceLeDiff, Int.reduceEq, Int.reduceLT, Int.reduceLE, Int.reduceToNat, Int.reducePow, Int.reduceAdd, Int.reduceMul, Int.reduceSub, Int.reduceNeg, List.getElem?_cons_zero, List.getElem?_cons_succ, dd_is_integer, dd_need_number]
      exact hM _ ⟨_, _, j9, by omega, by omega, rfl⟩
  · exact h.elim
theorem told1 {W : Int} (h : WideP 2 (-1) 3 4 W) : W = 2 := h.uniq (wide_begin (u := 1) (v := 2) (m := 1) (y := 0) (by decide) (by decide) ⟨by decide, .inl (by decide), ⟨by decide, by decide⟩, fun x y e => ⟨x, by omega, by omega⟩⟩ ⟨by decide, by decide, fun k k0 => by rw [show absI 2 = 2 from rfl]; omega⟩ (.inl ⟨rfl, by decide⟩)).2
theorem told2 {W : Int} (h : WideP 4 6 10 10 W) : W = 4 := h.uniq (wide_begin (u := 3) (v := -2) (m := 3) (y := 9) (by decide) (by decide) ⟨by decide, .inl (by decide), ⟨by decide, by decide⟩, fun x y e => ⟨x / 3, by omega, by omega⟩⟩ ⟨by decide, by decide, fun k k0 => by rw [show absI (-2) = 2 from rfl]; omega⟩ (.inr ⟨rfl, by decide⟩)).2
theorem told3 {W : Int} (h : WideP 0 5 7 9 W) : W = 7 := h.uniq (wide_begin (u := 1) (v := 0) (m := 6) (y := 0) (by decide) (by decide) ⟨by decide, .inl (by decide), ⟨by decide, by decide⟩, fun x y e => ⟨x, by omega, by omega⟩⟩ ⟨by decide, by decide, fun k k0 => by rw [show absI 0 = 0 from rfl]; omega⟩ (.inl ⟨rfl, by decide⟩)).2
theorem told4 {W : Int} (h : WideP (-5) 0 7 9 W) : W = 9 := h.uniq (wide_begin (u := 0) (v := 1) (m := 8) (y := 0) (by decide) (by decide) ⟨by decide, .inr ⟨rfl, rfl⟩, ⟨by decide, by decide⟩, fun x y e => ⟨y, by omega, by omega⟩⟩ ⟨by decide, by decide, fun k k0 => by rw [show absI 1 = 1 from rfl]; omega⟩ (.inl ⟨rfl, by decide⟩)).2
theorem L_law : ∀ n ds Q, S_law n ds Q → ds.length = ps_law.length := by
  rintro n ds Q ⟨_, ns, rfl, _⟩
  rfl
theorem l_law : ∀ n ds Q, S_law n ds Q → t_law (defE Q) (startG n N_law ds) := by
  rintro n ds Q ⟨rfl, ns, rfl, hn, h⟩
  show t_law (defE Q) ⟨[some (.dat (.scr ns)), none, none, none, none, none], 0⟩
  have hn : ns.length ≤ 63 := hn
  obtain ⟨z1, B, eB, lB, hB⟩ := cells_of 10 11 7 (ns := ns) rfl
  rw [show ((10 : Nat) : Int) = 10 from rfl] at z1 eB
  simp -implicitDefEqProofs only [t_law, ↓XP, ↓x_ifs, ↓XU, XU, XQ, eq_self, List.reverse_cons, List.reverse_nil, Int.cast_ofNat_Int, List.length_cons, List.length_nil, List.nil_append, List.cons_append, ne_eq, Nat.reduceAdd, Nat.reduceLeDiff, Int.reduceEq, Int.reduceLT, Int.reduceLE, Int.reduceToNat, Int.reducePow, Int.reduceAdd, Int.reduceMul, Int.reduceSub, Int.reduceNeg, List.getElem?_cons_zero, List.getElem?_cons_succ, dd_is_integer, dd_need_number]
  refine ⟨z1, ?_⟩
  rw [eB]
  refine for_inv (fun r G => ∃ o2 o3 o4 o5 c, c + 200 * r.length ≤ 2200 ∧ G = ⟨[some (.dat (.scr ns)), none, o2, o3, o4, o5], c⟩) ?_ _ ?_ _ ⟨_, _, _, _, 0, by rw [enumD_len]; omega, rfl⟩
  · rintro G ⟨o2, o3, o4, o5, c, _, rfl⟩
    simp -implicitDefEqProofs only [t_law, ↓XP, ↓x_ifs, ↓XU, XU, XQ, eq_self, List.reverse_cons, List.reverse_nil, Int.cast_ofNat_Int, List.length_cons, List.length_nil, List.nil_append, List.cons_append, ne_eq, Nat.reduceAdd, Nat.reduceLeDiff, Int.reduceEq, Int.reduceLT, Int.reduceLE, Int.reduceToNat, Int.reducePow, Int.reduceAdd, Int.reduceMul, Int.reduceSub, Int.reduceNeg, List.getElem?_cons_zero, List.getElem?_cons_succ, dd_is_integer, dd_need_number]
    have sw : ∀ k : Int, 1 ≤ k → k ≤ 10 → sizeW k := fun k k1 k2 => by unfold sizeW; omega
    refine ⟨(by simp), by decide +kernel, sw _ (by decide) (by decide), sw _ (by decide) (by decide), fun W1 w1 => ⟨(by simp), by decide +kernel, sw _ (by decide) (by decide), sw _ (by decide) (by decide), fun W2 w2 => ⟨by decide +kernel, sw _ (by decide) (by decide), sw _ (by decide) (by decide), fun W3 w3 => ⟨by decide +kernel, sw _ (by decide) (by decide), sw _ (by decide) (by decide), fun W4 w4 => ?_⟩⟩⟩⟩
    rw [told1 w1, told2 w2, told3 w3, told4 w4]
    refine q_ints (ns := [2, 4, 7, 9]) rfl rfl ?_
    exact h c
  · rintro d r G N hs ⟨o2, o3, o4, o5, c, hc, rfl⟩ hN
    obtain ⟨j, d', rfl, hd⟩ := enum_at (hs.subset List.mem_cons_self)
    have hj : j < B.length := (List.getElem?_eq_some_iff.mp hd).1
    obtain ⟨v, rfl⟩ := hB d' (List.mem_of_getElem? hd)
    rw [List.length_cons] at hc
    simp -implicitDefEqProofs only [t_law, ↓XP, ↓x_ifs, ↓XU, XU, XQ, eq_self, List.reverse_cons, List.reverse_nil, Int.cast_ofNat_Int, List.length_cons, List.length_nil, List.nil_append, List.cons_append, ne_eq, Nat.reduceAdd, Nat.reduceLeDiff, Int.reduceEq, Int.reduceLT, Int.reduceLE, Int.reduceToNat, Int.reducePow, Int.reduceAdd, Int.reduceMul, Int.reduceSub, Int.reduceNeg, List.getElem?_cons_zero, List.getElem?_cons_succ, dd_is_integer, dd_need_number]
    refine ⟨by omega, by omega, ?_⟩
    refine for_inv (fun q G => ∃ o5 c', c' + 50 * q.length ≤ c + 200 ∧ G = ⟨[some (.dat (.scr ns)), none, some (.dat (.int (0 + j))), some (.dat (.int v)), some (.dat .src), o5], c'⟩) ?_ _ ?_ _ ⟨_, c, (by show c + 50 * 4 ≤ _; omega), rfl⟩
    · rintro G ⟨o5, c', h', rfl⟩
      exact hN _ ⟨_, _, _, _, c', by rw [List.length_nil] at h'; omega, rfl⟩
    · rintro d q G M hsf ⟨o5, c', h', rfl⟩ hM
      rw [List.length_cons] at h'
      simp -implicitDefEqProofs only [t_law, ↓XP, ↓x_ifs, ↓XU, XU, XQ, eq_self, List.reverse_cons, List.reverse_nil, Int.cast_ofNat_Int, List.length_cons, List.length_nil, List.nil_append, List.cons_append, ne_eq, Nat.reduceAdd, Nat.reduceLeDiff, Int.reduceEq, Int.reduceLT, Int.reduceLE, Int.reduceToNat, Int.reducePow, Int.reduceAdd, Int.reduceMul, Int.reduceSub, Int.reduceNeg, List.getElem?_cons_zero, List.getElem?_cons_succ, dd_is_integer, dd_need_number]
      refine ⟨by omega, fun e e1 e2 => ?_⟩
      try (simp -implicitDefEqProofs only [t_law, ↓XP, ↓x_ifs, ↓XU, XU, XQ, eq_self, List.reverse_cons, List.reverse_nil, Int.cast_ofNat_Int, List.length_cons, List.length_nil, List.nil_append, List.cons_append, ne_eq, Nat.reduceAdd, Nat.reduceLeDiff, Int.reduceEq, Int.reduceLT, Int.reduceLE, Int.reduceToNat, Int.reducePow, Int.reduceAdd, Int.reduceMul, Int.reduceSub, Int.reduceNeg, List.getElem?_cons_zero, List.getElem?_cons_succ, dd_is_integer, dd_need_number])
      refine ⟨by omega, fun e' e3 e4 => ?_⟩
      try (simp -implicitDefEqProofs only [t_law, ↓XP, ↓x_ifs, ↓XU, XU, XQ, eq_self, List.reverse_cons, List.reverse_nil, Int.cast_ofNat_Int, List.length_cons, List.length_nil, List.nil_append, List.cons_append, ne_eq, Nat.reduceAdd, Nat.reduceLeDiff, Int.reduceEq, Int.reduceLT, Int.reduceLE, Int.reduceToNat, Int.reducePow, Int.reduceAdd, Int.reduceMul, Int.reduceSub, Int.reduceNeg, List.getElem?_cons_zero, List.getElem?_cons_succ, dd_is_integer, dd_need_number])
      exact hM _ ⟨_, e', by omega, rfl⟩

def topS (i : Nat) : Stmt := PySem.Challenge.pw_storerounds_k52_widest_waves.main.body.getD i (.Pass ⟨0, 0, 0, 0⟩)
abbrev s__law_source : Stmt := topS 26
abbrev s__law_draw : Stmt := topS 27
abbrev s__law_pair : Stmt := topS 30
abbrev s__law_spots : Stmt := topS 28
abbrev s__law_waves : Stmt := topS 31
abbrev s_is_integer : Stmt := topS 7
abbrev s_is_pair : Stmt := topS 8
abbrev s_is_line : Stmt := topS 15
abbrev s_need_line : Stmt := topS 16
abbrev s_need_size : Stmt := topS 9
abbrev s_need_box : Stmt := topS 10
abbrev s_need_waves : Stmt := topS 22
abbrev s_divisor : Stmt := topS 13
abbrev s_widest_wave : Stmt := topS 24
abbrev s__law_right : Stmt := topS 35
abbrev s__law_divisor : Stmt := topS 29
abbrev s__law_turn : Stmt := topS 32
abbrev s__law_times : Stmt := topS 33
abbrev s_need_number : Stmt := topS 11
abbrev s_inverse_of : Stmt := topS 20
abbrev s_turns_within : Stmt := topS 18
abbrev s_wave_line : Stmt := topS 21
abbrev s_wave_size : Stmt := topS 23
abbrev s__law_far_right : Stmt := topS 34
abbrev s_law : Stmt := topS 36
theorem sc__law_source : FnScope N__law_source ps__law_source (defScope s__law_source) := ⟨rfl, rfl, rfl, by decide +kernel, rfl, by decide +kernel, by decide +kernel⟩
theorem sc__law_draw : FnScope N__law_draw ps__law_draw (defScope s__law_draw) := ⟨rfl, rfl, rfl, by decide +kernel, rfl, by decide +kernel, by decide +kernel⟩
theorem sc__law_pair : FnScope N__law_pair ps__law_pair (defScope s__law_pair) := ⟨rfl, rfl, rfl, by decide +kernel, rfl, by decide +kernel, by decide +kernel⟩
theorem sc__law_spots : FnScope N__law_spots ps__law_spots (defScope s__law_spots) := ⟨rfl, rfl, rfl, by decide +kernel, rfl, by decide +kernel, by decide +kernel⟩
theorem sc__law_waves : FnScope N__law_waves ps__law_waves (defScope s__law_waves) := ⟨rfl, rfl, rfl, by decide +kernel, rfl, by decide +kernel, by decide +kernel⟩
theorem sc_is_integer : FnScope N_is_integer ps_is_integer (defScope s_is_integer) := ⟨rfl, rfl, rfl, by decide +kernel, rfl, by decide +kernel, by decide +kernel⟩
theorem sc_is_pair : FnScope N_is_pair ps_is_pair (defScope s_is_pair) := ⟨rfl, rfl, rfl, by decide +kernel, rfl, by decide +kernel, by decide +kernel⟩
theorem sc_is_line : FnScope N_is_line ps_is_line (defScope s_is_line) := ⟨rfl, rfl, rfl, by decide +kernel, rfl, by decide +kernel, by decide +kernel⟩
theorem sc_need_line : FnScope N_need_line ps_need_line (defScope s_need_line) := ⟨rfl, rfl, rfl, by decide +kernel, rfl, by decide +kernel, by decide +kernel⟩
theorem sc_need_size : FnScope N_need_size ps_need_size (defScope s_need_size) := ⟨rfl, rfl, rfl, by decide +kernel, rfl, by decide +kernel, by decide +kernel⟩
theorem sc_need_box : FnScope N_need_box ps_need_box (defScope s_need_box) := ⟨rfl, rfl, rfl, by decide +kernel, rfl, by decide +kernel, by decide +kernel⟩
theorem sc_need_waves : FnScope N_need_waves ps_need_waves (defScope s_need_waves) := ⟨rfl, rfl, rfl, by decide +kernel, rfl, by decide +kernel, by decide +kernel⟩
theorem sc_divisor : FnScope N_divisor ps_divisor (defScope s_divisor) := ⟨rfl, rfl, rfl, by decide +kernel, rfl, by decide +kernel, by decide +kernel⟩
theorem sc_widest_wave : FnScope N_widest_wave ps_widest_wave (defScope s_widest_wave) := ⟨rfl, rfl, rfl, by decide +kernel, rfl, by decide +kernel, by decide +kernel⟩
theorem sc__law_right : FnScope N__law_right ps__law_right (defScope s__law_right) := ⟨rfl, rfl, rfl, by decide +kernel, rfl, by decide +kernel, by decide +kernel⟩
theorem sc__law_divisor : FnScope N__law_divisor ps__law_divisor (defScope s__law_divisor) := ⟨rfl, rfl, rfl, by decide +kernel, rfl, by decide +kernel, by decide +kernel⟩
theorem sc__law_turn : FnScope N__law_turn ps__law_turn (defScope s__law_turn) := ⟨rfl, rfl, rfl, by decide +kernel, rfl, by decide +kernel, by decide +kernel⟩
theorem sc__law_times : FnScope N__law_times ps__law_times (defScope s__law_times) := ⟨rfl, rfl, rfl, by decide +kernel, rfl, by decide +kernel, by decide +kernel⟩
theorem sc_need_number : FnScope N_need_number ps_need_number (defScope s_need_number) := ⟨rfl, rfl, rfl, by decide +kernel, rfl, by decide +kernel, by decide +kernel⟩
theorem sc_inverse_of : FnScope N_inverse_of ps_inverse_of (defScope s_inverse_of) := ⟨rfl, rfl, rfl, by decide +kernel, rfl, by decide +kernel, by decide +kernel⟩
theorem sc_turns_within : FnScope N_turns_within ps_turns_within (defScope s_turns_within) := ⟨rfl, rfl, rfl, by decide +kernel, rfl, by decide +kernel, by decide +kernel⟩
theorem sc_wave_line : FnScope N_wave_line ps_wave_line (defScope s_wave_line) := ⟨rfl, rfl, rfl, by decide +kernel, rfl, by decide +kernel, by decide +kernel⟩
theorem sc_wave_size : FnScope N_wave_size ps_wave_size (defScope s_wave_size) := ⟨rfl, rfl, rfl, by decide +kernel, rfl, by decide +kernel, by decide +kernel⟩
theorem sc__law_far_right : FnScope N__law_far_right ps__law_far_right (defScope s__law_far_right) := ⟨rfl, rfl, rfl, by decide +kernel, rfl, by decide +kernel, by decide +kernel⟩
theorem sc_law : FnScope N_law ps_law (defScope s_law) := ⟨rfl, rfl, rfl, by decide +kernel, rfl, by decide +kernel, by decide +kernel⟩
theorem bb_abs : bootBuiltins "abs" = some (.builtin "abs") := by first | decide +kernel | rfl
theorem bb_int : bootBuiltins "int" = some (.type "int") := by first | decide +kernel | rfl
theorem bb_max : bootBuiltins "max" = some (.builtin "max") := by first | decide +kernel | rfl
theorem bb_isinstance : bootBuiltins "isinstance" = some (.builtin "isinstance") := by first | decide +kernel | rfl
theorem bb_bool : bootBuiltins "bool" = some (.type "bool") := by first | decide +kernel | rfl
theorem bb_tuple : bootBuiltins "tuple" = some (.type "tuple") := by first | decide +kernel | rfl
theorem bb_len : bootBuiltins "len" = some (.builtin "len") := by first | decide +kernel | rfl
theorem bb_all : bootBuiltins "all" = some (.builtin "all") := by first | decide +kernel | rfl
theorem bb_min : bootBuiltins "min" = some (.builtin "min") := by first | decide +kernel | rfl
theorem bb_repr : bootBuiltins "repr" = some (.builtin "repr") := by first | decide +kernel | rfl
theorem bb_divmod : bootBuiltins "divmod" = some (.builtin "divmod") := by first | decide +kernel | rfl
theorem bd__law_source_2 {K : PySem.W.Frag} {f : Addr} {fd : FuncData} (F : FunT K "_law_source" "_law_source" s__law_source [] f fd) : Bnd K fd ps__law_source 2 [] fun ds _ => ds := bnd_pos F 2 rfl fun _ _ _ _ _ _ us h1 => match us, h1 with | [_, _], _ => rfl
theorem bd__law_right_1 {K : PySem.W.Frag} {f : Addr} {fd : FuncData} (F : FunT K "_law_right" "_law_right" s__law_right [] f fd) : Bnd K fd ps__law_right 1 [] fun ds _ => ds := bnd_pos F 1 rfl fun _ _ _ _ _ _ us h1 => match us, h1 with | [_], _ => rfl
theorem bd__law_far_right_1 {K : PySem.W.Frag} {f : Addr} {fd : FuncData} (F : FunT K "_law_far_right" "_law_far_right" s__law_far_right [] f fd) : Bnd K fd ps__law_far_right 1 [] fun ds _ => ds := bnd_pos F 1 rfl fun _ _ _ _ _ _ us h1 => match us, h1 with | [_], _ => rfl
theorem bd_widest_wave_3 {K : PySem.W.Frag} {f : Addr} {fd : FuncData} (F : FunT K "widest_wave" "widest_wave" s_widest_wave [] f fd) : Bnd K fd ps_widest_wave 3 [] fun ds _ => ds := bnd_pos F 3 rfl fun _ _ _ _ _ _ us h1 => match us, h1 with | [_, _, _], _ => rfl
theorem bd__law_draw_2 {K : PySem.W.Frag} {f : Addr} {fd : FuncData} (F : FunT K "_law_draw" "_law_draw" s__law_draw [] f fd) : Bnd K fd ps__law_draw 2 [] fun ds _ => ds := bnd_pos F 2 rfl fun _ _ _ _ _ _ us h1 => match us, h1 with | [_, _], _ => rfl
theorem bd__law_pair_2 {K : PySem.W.Frag} {f : Addr} {fd : FuncData} (F : FunT K "_law_pair" "_law_pair" s__law_pair [] f fd) : Bnd K fd ps__law_pair 2 [] fun ds _ => ds := bnd_pos F 2 rfl fun _ _ _ _ _ _ us h1 => match us, h1 with | [_, _], _ => rfl
theorem bd__law_waves_3 {K : PySem.W.Frag} {f : Addr} {fd : FuncData} (F : FunT K "_law_waves" "_law_waves" s__law_waves [] f fd) : Bnd K fd ps__law_waves 3 [] fun ds _ => ds := bnd_pos F 3 rfl fun _ _ _ _ _ _ us h1 => match us, h1 with | [_, _, _], _ => rfl
theorem bd_widest_wave_0_order_rows_columns {K : PySem.W.Frag} {f : Addr} {fd : FuncData} (F : FunT K "widest_wave" "widest_wave" s_widest_wave [] f fd) : Bnd K fd ps_widest_wave 0 ["order", "rows", "columns"] fun ds es => sel [0, 1, 2] (ds ++ es) := bnd_key F 0 ["order", "rows", "columns"] [0, 1, 2] fun _ _ _ _ _ _ us ws h1 h2 => match us, ws, h1, h2 with | [], [_, _, _], _, _ => rfl
theorem bd__law_spots_2 {K : PySem.W.Frag} {f : Addr} {fd : FuncData} (F : FunT K "_law_spots" "_law_spots" s__law_spots [] f fd) : Bnd K fd ps__law_spots 2 [] fun ds _ => ds := bnd_pos F 2 rfl fun _ _ _ _ _ _ us h1 => match us, h1 with | [_, _], _ => rfl
theorem bd_need_waves_3 {K : PySem.W.Frag} {f : Addr} {fd : FuncData} (F : FunT K "need_waves" "need_waves" s_need_waves [] f fd) : Bnd K fd ps_need_waves 3 [] fun ds _ => ds := bnd_pos F 3 rfl fun _ _ _ _ _ _ us h1 => match us, h1 with | [_, _, _], _ => rfl
theorem bd_divisor_2 {K : PySem.W.Frag} {f : Addr} {fd : FuncData} (F : FunT K "divisor" "divisor" s_divisor [] f fd) : Bnd K fd ps_divisor 2 [] fun ds _ => ds := bnd_pos F 2 rfl fun _ _ _ _ _ _ us h1 => match us, h1 with | [_, _], _ => rfl
theorem bd_need_line_1 {K : PySem.W.Frag} {f : Addr} {fd : FuncData} (F : FunT K "need_line" "need_line" s_need_line [] f fd) : Bnd K fd ps_need_line 1 [] fun ds _ => ds := bnd_pos F 1 rfl fun _ _ _ _ _ _ us h1 => match us, h1 with | [_], _ => rfl
theorem bd_need_box_2 {K : PySem.W.Frag} {f : Addr} {fd : FuncData} (F : FunT K "need_box" "need_box" s_need_box [] f fd) : Bnd K fd ps_need_box 2 [] fun ds _ => ds := bnd_pos F 2 rfl fun _ _ _ _ _ _ us h1 => match us, h1 with | [_, _], _ => rfl
theorem bd_is_line_1 {K : PySem.W.Frag} {f : Addr} {fd : FuncData} (F : FunT K "is_line" "is_line" s_is_line [] f fd) : Bnd K fd ps_is_line 1 [] fun ds _ => ds := bnd_pos F 1 rfl fun _ _ _ _ _ _ us h1 => match us, h1 with | [_], _ => rfl
theorem bd_is_pair_1 {K : PySem.W.Frag} {f : Addr} {fd : FuncData} (F : FunT K "is_pair" "is_pair" s_is_pair [] f fd) : Bnd K fd ps_is_pair 1 [] fun ds _ => ds := bnd_pos F 1 rfl fun _ _ _ _ _ _ us h1 => match us, h1 with | [_], _ => rfl
theorem bd_is_integer_1_ {K : PySem.W.Frag} {f : Addr} {fd : FuncData} (F : FunT K "is_integer" "is_integer" s_is_integer dd_is_integer f fd) : Bnd K fd ps_is_integer 1 [] fun ds es => sel [0, 1, 2] (ds ++ es ++ dd_is_integer) := bnd_def F (by decide) (by decide) 1 [] [0, 1, 2] fun _ _ _ _ _ _ _ us ws its h1 h2 h3 => match us, ws, its, h1, h2, h3 with | [_], [], [_, _], _, _, _ => ⟨_, rfl, rfl⟩
theorem bd_need_size_1 {K : PySem.W.Frag} {f : Addr} {fd : FuncData} (F : FunT K "need_size" "need_size" s_need_size [] f fd) : Bnd K fd ps_need_size 1 [] fun ds _ => ds := bnd_pos F 1 rfl fun _ _ _ _ _ _ us h1 => match us, h1 with | [_], _ => rfl
theorem bd_is_integer_3_ {K : PySem.W.Frag} {f : Addr} {fd : FuncData} (F : FunT K "is_integer" "is_integer" s_is_integer dd_is_integer f fd) : Bnd K fd ps_is_integer 3 [] fun ds es => sel [0, 1, 2] (ds ++ es ++ dd_is_integer) := bnd_def F (by decide) (by decide) 3 [] [0, 1, 2] fun _ _ _ _ _ _ _ us ws its h1 h2 h3 => match us, ws, its, h1, h2, h3 with | [_, _, _], [], [_, _], _, _, _ => ⟨_, rfl, rfl⟩
theorem bd__law_turn_1 {K : PySem.W.Frag} {f : Addr} {fd : FuncData} (F : FunT K "_law_turn" "_law_turn" s__law_turn [] f fd) : Bnd K fd ps__law_turn 1 [] fun ds _ => ds := bnd_pos F 1 rfl fun _ _ _ _ _ _ us h1 => match us, h1 with | [_], _ => rfl
theorem bd__law_times_4 {K : PySem.W.Frag} {f : Addr} {fd : FuncData} (F : FunT K "_law_times" "_law_times" s__law_times [] f fd) : Bnd K fd ps__law_times 4 [] fun ds _ => ds := bnd_pos F 4 rfl fun _ _ _ _ _ _ us h1 => match us, h1 with | [_, _, _, _], _ => rfl
theorem bd_wave_size_4 {K : PySem.W.Frag} {f : Addr} {fd : FuncData} (F : FunT K "wave_size" "wave_size" s_wave_size [] f fd) : Bnd K fd ps_wave_size 4 [] fun ds _ => ds := bnd_pos F 4 rfl fun _ _ _ _ _ _ us h1 => match us, h1 with | [_, _, _, _], _ => rfl
theorem bd__law_divisor_2 {K : PySem.W.Frag} {f : Addr} {fd : FuncData} (F : FunT K "_law_divisor" "_law_divisor" s__law_divisor [] f fd) : Bnd K fd ps__law_divisor 2 [] fun ds _ => ds := bnd_pos F 2 rfl fun _ _ _ _ _ _ us h1 => match us, h1 with | [_, _], _ => rfl
theorem bd_need_number_2_ {K : PySem.W.Frag} {f : Addr} {fd : FuncData} (F : FunT K "need_number" "need_number" s_need_number dd_need_number f fd) : Bnd K fd ps_need_number 2 [] fun ds es => sel [0, 1, 3] (ds ++ es ++ dd_need_number) := bnd_def F (by decide) (by decide) 2 [] [0, 1, 3] fun _ _ _ _ _ _ _ us ws its h1 h2 h3 => match us, ws, its, h1, h2, h3 with | [_, _], [], [_, _], _, _, _ => ⟨_, rfl, rfl⟩
theorem bd_wave_line_4 {K : PySem.W.Frag} {f : Addr} {fd : FuncData} (F : FunT K "wave_line" "wave_line" s_wave_line [] f fd) : Bnd K fd ps_wave_line 4 [] fun ds _ => ds := bnd_pos F 4 rfl fun _ _ _ _ _ _ us h1 => match us, h1 with | [_, _, _, _], _ => rfl
theorem bd_inverse_of_2 {K : PySem.W.Frag} {f : Addr} {fd : FuncData} (F : FunT K "inverse_of" "inverse_of" s_inverse_of [] f fd) : Bnd K fd ps_inverse_of 2 [] fun ds _ => ds := bnd_pos F 2 rfl fun _ _ _ _ _ _ us h1 => match us, h1 with | [_, _], _ => rfl
theorem bd_turns_within_3 {K : PySem.W.Frag} {f : Addr} {fd : FuncData} (F : FunT K "turns_within" "turns_within" s_turns_within [] f fd) : Bnd K fd ps_turns_within 3 [] fun ds _ => ds := bnd_pos F 3 rfl fun _ _ _ _ _ _ us h1 => match us, h1 with | [_, _, _], _ => rfl
section
variable {P : Program} {w : World} {K : PySem.W.Frag} {mg : Str → Option Value} {base : Heap}
set_option maxHeartbeats 0 in
theorem ok__law_source (F : FunH K mg "_law_source" s__law_source []) (b_abs : mg "abs" = none) (b_int : mg "int" = none) (b_max : mg "max" = none) : Has P w K mg base 1 "_law_source" s__law_source [] ps__law_source S__law_source :=
  has_of (t := t__law_source) F sc__law_source (fun f cdv A outer s H gd hr => ds_cons (ds_set 2 sc__law_source.nd (de_b1 cd_abs b_abs bb_abs (de_var 0)))
    (ds_one (ds_ret (de_src (de_lst (da_cons (de_bn (cd_max2 rfl) b_max bb_max (da_cons (de_int) (da_cons (de_bin od_sub (de_var 2) (de_bin od_pow (de_int) (de_int))) (da_nil)))) (da_cons (de_bin od_add (de_bin od_add (de_bin od_mul (de_bin od_mod (de_t1 cd_int b_int bb_int (de_var 2)) (de_bin od_add (de_bin od_pow (de_int) (de_int)) (de_int))) (de_int)) (de_bin od_mul (de_int) (de_var 1))) (de_t1 cd_int b_int bb_int (de_cmp od_lt (de_var 0) (de_int)))) (da_cons (de_int) (da_nil))))))))) L__law_source l__law_source
set_option maxHeartbeats 0 in
theorem ok__law_draw (F : FunH K mg "_law_draw" s__law_draw []) (b_int : mg "int" = none) : Has P w K mg base 1 "_law_draw" s__law_draw [] ps__law_draw S__law_draw :=
  has_of (t := t__law_draw) F sc__law_draw (fun f cdv A outer s H gd hr => ds_cons (ds_if (dt_cmp od_gt (de_ixSrc 0 0) (de_int)) (ds_cons (ds_set 3 sc__law_draw.nd (de_bin od_mod (de_t1 cd_int b_int bb_int (de_ixSrc 0 0)) (de_var 1)))
    (ds_cons (ds_setSrc 0 0 (de_bin od_fdv (de_ixSrc 0 0) (de_var 1)))
    (ds_one (ds_ret (de_var 3))))) (ds_nil))
    (ds_cons (ds_setSrc 0 2 (de_bin od_add (de_ixSrc 0 2) (de_int)))
    (ds_cons (ds_set 2 sc__law_draw.nd (de_bin od_mod (de_t1 cd_int b_int bb_int (de_bin od_pow (de_bin od_add (de_ixSrc 0 1) (de_bin od_mul (de_int) (de_ixSrc 0 2))) (de_int))) (de_bin od_add (de_bin od_pow (de_int) (de_int)) (de_int))))
    (ds_cons (ds_set 2 sc__law_draw.nd (de_bin od_mod (de_t1 cd_int b_int bb_int (de_bin od_pow (de_bin od_add (de_bin od_mul (de_var 2) (de_ixSrc 0 2)) (de_int)) (de_int))) (de_bin od_add (de_bin od_pow (de_int) (de_int)) (de_int))))
    (ds_one (ds_ret (de_bin od_mod (de_t1 cd_int b_int bb_int (de_bin od_fdv (de_var 2) (de_int))) (de_var 1)))))))) L__law_draw l__law_draw
set_option maxHeartbeats 0 in
theorem ok__law_pair (F : FunH K mg "_law_pair" s__law_pair []) (h__law_draw : Has P w K mg base 1 "_law_draw" s__law_draw [] ps__law_draw S__law_draw) : Has P w K mg base 2 "_law_pair" s__law_pair [] ps__law_pair S__law_pair :=
  has_of (t := t__law_pair) F sc__law_pair (fun f cdv A outer s H gd hr => ds_cons (ds_set 2 sc__law_pair.nd (de_tup (da_cons (de_bin od_sub (dh_call h__law_draw gd hr (fun _ _ F => bd__law_draw_2 F) (da_cons (de_var 0) (da_cons (de_bin od_add (de_bin od_mul (de_int) (de_var 1)) (de_int)) (da_nil)))) (de_var 1)) (da_cons (de_bin od_sub (dh_call h__law_draw gd hr (fun _ _ F => bd__law_draw_2 F) (da_cons (de_var 0) (da_cons (de_bin od_add (de_bin od_mul (de_int) (de_var 1)) (de_int)) (da_nil)))) (de_var 1)) (da_nil)))))
    (ds_one (ds_ret (de_if (dt_cmp (od_ne hr.units) (de_var 2) (de_tup (da_cons (de_int) (da_cons (de_int) (da_nil))))) (de_var 2) (de_ix hr.units (de_lst (da_cons (de_tup (da_cons (de_int) (da_cons (de_int) (da_nil)))) (da_cons (de_tup (da_cons (de_int) (da_cons (de_int) (da_nil)))) (da_cons (de_tup (da_cons (de_un ud_neg (de_int)) (da_cons (de_int) (da_nil)))) (da_cons (de_tup (da_cons (de_int) (da_cons (de_un ud_neg (de_int)) (da_nil)))) (da_nil)))))) (dh_call h__law_draw gd hr (fun _ _ F => bd__law_draw_2 F) (da_cons (de_var 0) (da_cons (de_int) (da_nil))))))))) L__law_pair l__law_pair
set_option maxHeartbeats 0 in
theorem ok__law_spots (F : FunH K mg "_law_spots" s__law_spots []) (b_range : mg "range" = none) (b_int : mg "int" = none) : Has P w K mg base 1 "_law_spots" s__law_spots [] ps__law_spots S__law_spots :=
  has_of (t := t__law_spots) F sc__law_spots (fun f cdv A outer s H gd hr => ds_one (ds_ret (de_lc (own := [("_law_spot", 2)]) sc__law_spots.nd (di_range1 b_range (da_cons (de_bin od_mul (de_var 0) (de_var 1)) (da_nil))) (by exact blkOk_by (N := N__law_spots) (sc := defScope s__law_spots) (by decide +kernel)) (fun _ _ _ _ _ => dg_name 2 sc__law_spots.nd) (fun _ _ _ _ _ => dts_nil) (fun _ _ _ _ _ => de_tup (da_cons (de_bin od_fdv (de_var 2) (de_var 1)) (da_cons (de_bin od_mod (de_t1 cd_int b_int bb_int (de_var 2)) (de_var 1)) (da_nil))))))) L__law_spots l__law_spots
set_option maxHeartbeats 0 in
theorem ok__law_waves (F : FunH K mg "_law_waves" s__law_waves []) (h__law_spots : Has P w K mg base 1 "_law_spots" s__law_spots [] ps__law_spots S__law_spots) : Has P w K mg base 2 "_law_waves" s__law_waves [] ps__law_waves S__law_waves :=
  has_of (t := t__law_waves) F sc__law_waves (fun f cdv A outer s H gd hr => ds_cons (ds_set 3 sc__law_waves.nd (de_dnK))
    (ds_cons (ds_for (ws := [4]) PassesOwn.never (di_walk (dh_call h__law_spots gd hr (fun _ _ F => bd__law_spots_2 F) (da_cons (de_var 1) (da_cons (de_var 2) (da_nil))))) (dg_name 4 sc__law_waves.nd) (ds_cons (ds_set 5 sc__law_waves.nd (de_bin od_add (de_bin od_mul (de_ix hr.units (de_var 0) (de_int)) (de_ix hr.units (de_var 4) (de_int))) (de_bin od_mul (de_ix hr.units (de_var 0) (de_int)) (de_ix hr.units (de_var 4) (de_int)))))
    (ds_cons (ds_set 6 sc__law_waves.nd (de_getN 3 (u65 hr) (de_var 5) (de_lst (da_nil))))
    (ds_one (ds_put 3 (de_bin od_add (de_var 6) (de_lst (da_cons (de_var 4) (da_nil)))) (de_var 5) (u65 hr))))))
    (ds_one (ds_ret (de_var 3))))) L__law_waves l__law_waves
set_option maxHeartbeats 0 in
theorem ok_is_integer (F : FunH K mg "is_integer" s_is_integer dd_is_integer) (b_int : mg "int" = none) (b_isinstance : mg "isinstance" = none) (b_bool : mg "bool" = none) : Has P w K mg base 1 "is_integer" s_is_integer dd_is_integer ps_is_integer S_is_integer :=
  has_of (t := t_is_integer) F sc_is_integer (fun f cdv A outer s H gd hr => ds_cons (ds_if ((dw_or (dt_not (dt_val (de_bn cd_isi b_isinstance bb_isinstance (da_cons (de_var 0) (da_cons (de_ty b_int bb_int) (da_nil)))))) (dw_or1 (dt_val (de_bn cd_isi b_isinstance bb_isinstance (da_cons (de_var 0) (da_cons (de_ty b_bool bb_bool) (da_nil))))))).pt) (ds_one (ds_ret (de_bl))) (ds_nil))
    (ds_one (ds_ret (de_and (de_or (de_cmp od_is (de_var 1) (de_non)) (de_one (de_cmp od_ge (de_var 0) (de_var 1)))) (de_one (de_or (de_cmp od_is (de_var 2) (de_non)) (de_one (de_cmp od_le (de_var 0) (de_var 2))))))))) L_is_integer l_is_integer
set_option maxHeartbeats 0 in
theorem ok_is_pair (F : FunH K mg "is_pair" s_is_pair []) (h_is_integer : Has P w K mg base 1 "is_integer" s_is_integer dd_is_integer ps_is_integer S_is_integer) (b_tuple : mg "tuple" = none) (b_isinstance : mg "isinstance" = none) (b_len : mg "len" = none) (b_all : mg "all" = none) : Has P w K mg base 2 "is_pair" s_is_pair [] ps_is_pair S_is_pair :=
  has_of (t := t_is_pair) F sc_is_pair (fun f cdv A outer s H gd hr => ds_one (ds_ret (de_and (de_bn cd_isi b_isinstance bb_isinstance (da_cons (de_var 0) (da_cons (de_ty b_tuple bb_tuple) (da_nil)))) (de_and (de_cmp (od_eq hr.units) (de_b1 cd_len b_len bb_len (de_var 0)) (de_int)) (de_one (de_b1 (cd_all rfl) b_all bb_all (de_lc (own := [("item", 1)]) sc_is_pair.nd (di_walk (de_var 0)) (by exact blkOk_by (N := N_is_pair) (sc := defScope s_is_pair) (by decide +kernel)) (fun _ _ _ _ _ => dg_name 1 sc_is_pair.nd) (fun _ _ _ _ _ => dts_nil) (fun _ _ _ _ _ => dh_call h_is_integer gd hr (fun _ _ F => bd_is_integer_1_ F) (da_cons (de_var 1) (da_nil)))))))))) L_is_pair l_is_pair
set_option maxHeartbeats 0 in
theorem ok_is_line (F : FunH K mg "is_line" s_is_line []) (h_is_pair : Has P w K mg base 2 "is_pair" s_is_pair [] ps_is_pair S_is_pair) : Has P w K mg base 3 "is_line" s_is_line [] ps_is_line S_is_line :=
  has_of (t := t_is_line) F sc_is_line (fun f cdv A outer s H gd hr => ds_one (ds_ret (de_and (dh_call h_is_pair gd hr (fun _ _ F => bd_is_pair_1 F) (da_cons (de_var 0) (da_nil))) (de_one (de_cmp (od_ne hr.units) (de_var 0) (de_tup (da_cons (de_int) (da_cons (de_int) (da_nil))))))))) L_is_line l_is_line
set_option maxHeartbeats 0 in
theorem ok_need_line (F : FunH K mg "need_line" s_need_line []) (h_is_line : Has P w K mg base 3 "is_line" s_is_line [] ps_is_line S_is_line) : Has P w K mg base 4 "need_line" s_need_line [] ps_need_line S_need_line :=
  has_of (t := t_need_line) F sc_need_line (fun f cdv A outer s H gd hr => ds_one (ds_if (dt_not (dt_val (dh_call h_is_line gd hr (fun _ _ F => bd_is_line_1 F) (da_cons (de_var 0) (da_nil))))) (dss_never) (ds_nil))) L_need_line l_need_line
set_option maxHeartbeats 0 in
theorem ok_need_size (F : FunH K mg "need_size" s_need_size []) (h_is_integer : Has P w K mg base 1 "is_integer" s_is_integer dd_is_integer ps_is_integer S_is_integer) (g_MOST_SIZE : GlbI mg "MOST_SIZE" 999999999999999999999999999999) : Has P w K mg base 2 "need_size" s_need_size [] ps_need_size S_need_size :=
  has_of (t := t_need_size) F sc_need_size (fun f cdv A outer s H gd hr => ds_one (ds_if (dt_not (dt_val (dh_call h_is_integer gd hr (fun _ _ F => bd_is_integer_3_ F) (da_cons (de_var 0) (da_cons (de_int) (da_cons (de_glI g_MOST_SIZE) (da_nil))))))) (dss_never) (ds_nil))) L_need_size l_need_size
set_option maxHeartbeats 0 in
theorem ok_need_box (F : FunH K mg "need_box" s_need_box []) (h_need_size : Has P w K mg base 2 "need_size" s_need_size [] ps_need_size S_need_size) : Has P w K mg base 3 "need_box" s_need_box [] ps_need_box S_need_box :=
  has_of (t := t_need_box) F sc_need_box (fun f cdv A outer s H gd hr => ds_cons (ds_expr (dh_call h_need_size gd hr (fun _ _ F => bd_need_size_1 F) (da_cons (de_var 0) (da_nil))))
    (ds_one (ds_expr (dh_call h_need_size gd hr (fun _ _ F => bd_need_size_1 F) (da_cons (de_var 1) (da_nil)))))) L_need_box l_need_box
set_option maxHeartbeats 0 in
theorem ok_need_waves (F : FunH K mg "need_waves" s_need_waves []) (h_need_line : Has P w K mg base 4 "need_line" s_need_line [] ps_need_line S_need_line) (h_need_box : Has P w K mg base 3 "need_box" s_need_box [] ps_need_box S_need_box) : Has P w K mg base 5 "need_waves" s_need_waves [] ps_need_waves S_need_waves :=
  has_of (t := t_need_waves) F sc_need_waves (fun f cdv A outer s H gd hr => ds_cons (ds_expr (dh_call h_need_line gd hr (fun _ _ F => bd_need_line_1 F) (da_cons (de_var 0) (da_nil))))
    (ds_one (ds_expr (dh_call h_need_box gd hr (fun _ _ F => bd_need_box_2 F) (da_cons (de_var 1) (da_cons (de_var 2) (da_nil))))))) L_need_waves l_need_waves
set_option maxHeartbeats 0 in
theorem ok_divisor (F : FunH K mg "divisor" s_divisor []) (b_abs : mg "abs" = none) : Has P w K mg base 1 "divisor" s_divisor [] ps_divisor S_divisor :=
  has_of (t := t_divisor) F sc_divisor (fun f cdv A outer s H gd hr => ds_cons (ds_while PassesOwn.never (dt_cmp (od_ne hr.units) (de_var 1) (de_int)) (ds_one (ds_par2 0 1 sc_divisor.nd (de_var 1) (de_bin od_mod (de_var 0) (de_var 1)))))
    (ds_one (ds_ret (de_b1 cd_abs b_abs bb_abs (de_var 0))))) L_divisor l_divisor
set_option maxHeartbeats 0 in
theorem ok_widest_wave (F : FunH K mg "widest_wave" s_widest_wave []) (h_need_waves : Has P w K mg base 5 "need_waves" s_need_waves [] ps_need_waves S_need_waves) (h_divisor : Has P w K mg base 1 "divisor" s_divisor [] ps_divisor S_divisor) (b_abs : mg "abs" = none) (b_min : mg "min" = none) : Has P w K mg base 6 "widest_wave" s_widest_wave [] ps_widest_wave S_widest_wave :=
  has_of (t := t_widest_wave) F sc_widest_wave (fun f cdv A outer s H gd hr => ds_cons (ds_expr (dh_call h_need_waves gd hr (fun _ _ F => bd_need_waves_3 F) (da_cons (de_var 0) (da_cons (de_var 1) (da_cons (de_var 2) (da_nil))))))
    (ds_cons (ds_asg (ws := [4, 5]) (de_var 0) (dg_tup (dgs_cons (dg_name 4 sc_widest_wave.nd) (dgs_cons (dg_name 5 sc_widest_wave.nd) (dgs_nil)))))
    (ds_cons (ds_if ((dw_or (dt_cmp (od_eq hr.units) (de_var 4) (de_int)) (dw_or1 (dt_cmp (od_eq hr.units) (de_var 5) (de_int)))).pt) (ds_one (ds_ret (de_if (dt_cmp (od_eq hr.units) (de_var 4) (de_int)) (de_var 1) (de_var 2)))) (ds_nil))
    (ds_cons (ds_set 3 sc_widest_wave.nd (dh_call h_divisor gd hr (fun _ _ F => bd_divisor_2 F) (da_cons (de_var 4) (da_cons (de_var 5) (da_nil)))))
    (ds_one (ds_ret (de_bn (cd_min2 rfl) b_min bb_min (da_cons (de_un ud_neg (de_bin od_fdv (de_un ud_neg (de_var 1)) (de_bin od_fdv (de_b1 cd_abs b_abs bb_abs (de_var 5)) (de_var 3)))) (da_cons (de_un ud_neg (de_bin od_fdv (de_un ud_neg (de_var 2)) (de_bin od_fdv (de_b1 cd_abs b_abs bb_abs (de_var 4)) (de_var 3)))) (da_nil)))))))))) L_widest_wave l_widest_wave
set_option maxHeartbeats 0 in
theorem ok__law_right (F : FunH K mg "_law_right" s__law_right []) (h__law_draw : Has P w K mg base 1 "_law_draw" s__law_draw [] ps__law_draw S__law_draw) (h__law_pair : Has P w K mg base 2 "_law_pair" s__law_pair [] ps__law_pair S__law_pair) (h__law_waves : Has P w K mg base 2 "_law_waves" s__law_waves [] ps__law_waves S__law_waves) (h_widest_wave : Has P w K mg base 6 "widest_wave" s_widest_wave [] ps_widest_wave S_widest_wave) (b_range : mg "range" = none) (b_len : mg "len" = none) (b_max : mg "max" = none) (b_repr : mg "repr" = none) : Has P w K mg base 7 "_law_right" s__law_right [] ps__law_right S__law_right :=
  has_of (t := t__law_right) F sc__law_right (fun f cdv A outer s H gd hr => ds_cons (ds_asg (ws := [3, 4]) (de_lc (own := [("_law_side", 6)]) sc__law_right.nd (di_range1 b_range (da_cons (de_int) (da_nil))) (by exact blkOk_by (N := N__law_right) (sc := defScope s__law_right) (by decide +kernel)) (fun _ _ _ _ _ => dg_name 6 sc__law_right.nd) (fun _ _ _ _ _ => dts_nil) (fun _ _ _ _ _ => de_bin od_add (de_int) (dh_call h__law_draw gd hr (fun _ _ F => bd__law_draw_2 F) (da_cons (de_var 0) (da_cons (de_ix hr.units (de_lst (da_cons (de_int) (da_cons (de_int) (da_nil)))) (dh_call h__law_draw gd hr (fun _ _ F => bd__law_draw_2 F) (da_cons (de_var 0) (da_cons (de_int) (da_nil))))) (da_nil)))))) (dg_unl (dgs_cons (dg_name 3 sc__law_right.nd) (dgs_cons (dg_name 4 sc__law_right.nd) (dgs_nil)))))
    (ds_cons (ds_par2 1 5 sc__law_right.nd (dh_call h__law_pair gd hr (fun _ _ F => bd__law_pair_2 F) (da_cons (de_var 0) (da_cons (de_ix hr.units (de_lst (da_cons (de_int) (da_cons (de_int) (da_nil)))) (dh_call h__law_draw gd hr (fun _ _ F => bd__law_draw_2 F) (da_cons (de_var 0) (da_cons (de_int) (da_nil))))) (da_nil)))) (de_ix hr.units (de_lst (da_cons (de_int) (da_cons (de_int) (da_cons (de_int) (da_nil))))) (dh_call h__law_draw gd hr (fun _ _ F => bd__law_draw_2 F) (da_cons (de_var 0) (da_cons (de_int) (da_nil))))))
    (ds_cons (ds_set 1 sc__law_right.nd (de_tup (da_cons (de_bin od_mul (de_ix hr.units (de_var 1) (de_int)) (de_var 5)) (da_cons (de_bin od_mul (de_ix hr.units (de_var 1) (de_int)) (de_var 5)) (da_nil)))))
    (ds_cons (ds_set 2 sc__law_right.nd (de_b1 (cd_maxL rfl) b_max bb_max (de_lc (own := [("_law_row", 7)]) sc__law_right.nd (di_valsN (dh_call h__law_waves gd hr (fun _ _ F => bd__law_waves_3 F) (da_cons (de_var 1) (da_cons (de_var 3) (da_cons (de_var 4) (da_nil)))))) (by exact blkOk_by (N := N__law_right) (sc := defScope s__law_right) (by decide +kernel)) (fun _ _ _ _ _ => dg_name 7 sc__law_right.nd) (fun _ _ _ _ _ => dts_nil) (fun _ _ _ _ _ => de_b1 cd_len b_len bb_len (de_var 7)))))
    (ds_cons (ds_if (dt_cmp (od_ne hr.units) (de_b1 (cd_repr gd hr.units) b_repr bb_repr (dh_call h_widest_wave gd hr (fun _ _ F => bd_widest_wave_3 F) (da_cons (de_var 1) (da_cons (de_var 3) (da_cons (de_var 4) (da_nil)))))) (de_b1 (cd_repr gd hr.units) b_repr bb_repr (de_var 2))) (ds_one (ds_ret (de_bl))) (ds_nil))
    (ds_one (ds_ret (de_cmp (od_eq hr.units) (dh_callK0 h_widest_wave gd hr ["order", "rows", "columns"] (fun _ _ F => bd_widest_wave_0_order_rows_columns F) (dk_cons (de_tup (da_cons (de_bin od_sub (de_int) (de_ix hr.units (de_var 1) (de_int))) (da_cons (de_bin od_sub (de_int) (de_ix hr.units (de_var 1) (de_int))) (da_nil)))) (dk_cons (de_var 3) (dk_cons (de_var 4) (dk_nil))))) (de_var 2))))))))) L__law_right l__law_right
set_option maxHeartbeats 0 in
theorem ok__law_divisor (F : FunH K mg "_law_divisor" s__law_divisor []) (b_int : mg "int" = none) (b_abs : mg "abs" = none) : Has P w K mg base 1 "_law_divisor" s__law_divisor [] ps__law_divisor S__law_divisor :=
  has_of (t := t__law_divisor) F sc__law_divisor (fun f cdv A outer s H gd hr => ds_cons (ds_while PassesOwn.never (dt_cmp (od_ne hr.units) (de_var 1) (de_int)) (ds_one (ds_par2 0 1 sc__law_divisor.nd (de_var 1) (de_bin od_mod (de_t1 cd_int b_int bb_int (de_var 0)) (de_var 1)))))
    (ds_one (ds_ret (de_b1 cd_abs b_abs bb_abs (de_var 0))))) L__law_divisor l__law_divisor
set_option maxHeartbeats 0 in
theorem ok__law_turn (F : FunH K mg "_law_turn" s__law_turn []) (h__law_divisor : Has P w K mg base 1 "_law_divisor" s__law_divisor [] ps__law_divisor S__law_divisor) : Has P w K mg base 2 "_law_turn" s__law_turn [] ps__law_turn S__law_turn :=
  has_of (t := t__law_turn) F sc__law_turn (fun f cdv A outer s H gd hr => ds_cons (ds_asg (ws := [2, 3]) (de_var 0) (dg_tup (dgs_cons (dg_name 2 sc__law_turn.nd) (dgs_cons (dg_name 3 sc__law_turn.nd) (dgs_nil)))))
    (ds_cons (ds_set 1 sc__law_turn.nd (dh_call h__law_divisor gd hr (fun _ _ F => bd__law_divisor_2 F) (da_cons (de_var 2) (da_cons (de_var 3) (da_nil)))))
    (ds_cons (ds_if (dt_cmp (od_eq hr.units) (de_var 3) (de_int)) (ds_one (ds_ret (de_tup (da_cons (de_int) (da_cons (de_int) (da_nil)))))) (ds_nil))
    (ds_one (ds_ret (de_if (dt_cmp od_gt (de_var 3) (de_int)) (de_tup (da_cons (de_bin od_fdv (de_var 3) (de_var 1)) (da_cons (de_bin od_sub (de_int) (de_bin od_fdv (de_var 2) (de_var 1))) (da_nil)))) (de_tup (da_cons (de_bin od_sub (de_int) (de_bin od_fdv (de_var 3) (de_var 1))) (da_cons (de_bin od_fdv (de_var 2) (de_var 1)) (da_nil)))))))))) L__law_turn l__law_turn
set_option maxHeartbeats 0 in
theorem ok__law_times (F : FunH K mg "_law_times" s__law_times []) (b_abs : mg "abs" = none) (b_min : mg "min" = none) : Has P w K mg base 1 "_law_times" s__law_times [] ps__law_times S__law_times :=
  has_of (t := t__law_times) F sc__law_times (fun f cdv A outer s H gd hr => ds_cons (ds_set 4 sc__law_times.nd (de_lst (da_nil)))
    (ds_cons (ds_for (ws := [5, 6, 7]) PassesOwn.never (di_walk (de_tup (da_cons (de_tup (da_cons (de_ix hr.units (de_var 0) (de_int)) (da_cons (de_ix hr.units (de_var 1) (de_int)) (da_cons (de_var 2) (da_nil))))) (da_cons (de_tup (da_cons (de_ix hr.units (de_var 0) (de_int)) (da_cons (de_ix hr.units (de_var 1) (de_int)) (da_cons (de_var 3) (da_nil))))) (da_nil))))) (dg_tup (dgs_cons (dg_name 5 sc__law_times.nd) (dgs_cons (dg_name 6 sc__law_times.nd) (dgs_cons (dg_name 7 sc__law_times.nd) (dgs_nil))))) (ds_one (ds_if (dt_cmp (od_ne hr.units) (de_var 6) (de_int)) (ds_one (ds_expr (de_ml (i := 4) PySem.F.slot_list_append PySem.F.type_list_append mt_append ml_append (da_cons (de_if (dt_cmp od_gt (de_var 6) (de_int)) (de_bin od_fdv (de_bin od_sub (de_bin od_sub (de_var 7) (de_int)) (de_var 5)) (de_var 6)) (de_bin od_fdv (de_var 5) (de_b1 cd_abs b_abs bb_abs (de_var 6)))) (da_nil))))) (ds_nil))))
    (ds_one (ds_ret (de_b1 (cd_minL rfl) b_min bb_min (de_var 4)))))) L__law_times l__law_times
set_option maxHeartbeats 0 in
theorem ok_need_number (F : FunH K mg "need_number" s_need_number dd_need_number) (h_is_integer : Has P w K mg base 1 "is_integer" s_is_integer dd_is_integer ps_is_integer S_is_integer) : Has P w K mg base 2 "need_number" s_need_number dd_need_number ps_need_number S_need_number :=
  has_of (t := t_need_number) F sc_need_number (fun f cdv A outer s H gd hr => ds_one (ds_if (dt_not (dt_val (dh_call h_is_integer gd hr (fun _ _ F => bd_is_integer_3_ F) (da_cons (de_var 0) (da_cons (de_var 1) (da_cons (de_var 2) (da_nil))))))) (dss_never) (ds_nil))) L_need_number l_need_number
set_option maxHeartbeats 0 in
theorem ok_inverse_of (F : FunH K mg "inverse_of" s_inverse_of []) : Has P w K mg base 1 "inverse_of" s_inverse_of [] ps_inverse_of S_inverse_of :=
  has_of (t := t_inverse_of) F sc_inverse_of (fun f cdv A outer s H gd hr => ds_cons (ds_asg (ws := [2, 3, 4, 5]) (de_tup (da_cons (de_var 1) (da_cons (de_bin od_mod (de_var 0) (de_var 1)) (da_cons (de_int) (da_cons (de_int) (da_nil)))))) (dg_tup (dgs_cons (dg_name 2 sc_inverse_of.nd) (dgs_cons (dg_name 3 sc_inverse_of.nd) (dgs_cons (dg_name 4 sc_inverse_of.nd) (dgs_cons (dg_name 5 sc_inverse_of.nd) (dgs_nil)))))))
    (ds_cons (ds_while PassesOwn.never (dt_cmp od_gt (de_var 3) (de_int)) (ds_cons (ds_set 6 sc_inverse_of.nd (de_bin od_fdv (de_var 2) (de_var 3)))
    (ds_one (ds_asg (ws := [2, 3, 4, 5]) (de_tup (da_cons (de_var 3) (da_cons (de_bin od_sub (de_var 2) (de_bin od_mul (de_var 6) (de_var 3))) (da_cons (de_var 5) (da_cons (de_bin od_sub (de_var 4) (de_bin od_mul (de_var 6) (de_var 5))) (da_nil)))))) (dg_tup (dgs_cons (dg_name 2 sc_inverse_of.nd) (dgs_cons (dg_name 3 sc_inverse_of.nd) (dgs_cons (dg_name 4 sc_inverse_of.nd) (dgs_cons (dg_name 5 sc_inverse_of.nd) (dgs_nil))))))))))
    (ds_one (ds_ret (de_bin od_mod (de_var 4) (de_var 1)))))) L_inverse_of l_inverse_of
set_option maxHeartbeats 0 in
theorem ok_turns_within (F : FunH K mg "turns_within" s_turns_within []) : Has P w K mg base 1 "turns_within" s_turns_within [] ps_turns_within S_turns_within :=
  has_of (t := t_turns_within) F sc_turns_within (fun f cdv A outer s H gd hr => ds_cons (ds_if (dt_cmp (od_eq hr.units) (de_var 1) (de_int)) (ds_one (ds_ret (de_if (dt_chn od_le od_lt (de_int) (de_var 0) (de_var 2)) (de_non) (de_tup (da_cons (de_int) (da_cons (de_un ud_neg (de_int)) (da_nil))))))) (ds_nil))
    (ds_cons (ds_if (dt_cmp od_lt (de_var 1) (de_int)) (ds_one (ds_par2 0 1 sc_turns_within.nd (de_bin od_sub (de_bin od_sub (de_var 2) (de_int)) (de_var 0)) (de_un ud_neg (de_var 1)))) (ds_nil))
    (ds_one (ds_ret (de_tup (da_cons (de_un ud_neg (de_bin od_fdv (de_var 0) (de_var 1))) (da_cons (de_bin od_fdv (de_bin od_sub (de_bin od_sub (de_var 2) (de_int)) (de_var 0)) (de_var 1)) (da_nil)))))))) L_turns_within l_turns_within
set_option maxHeartbeats 0 in
theorem ok_wave_line (F : FunH K mg "wave_line" s_wave_line []) (h_divisor : Has P w K mg base 1 "divisor" s_divisor [] ps_divisor S_divisor) (h_inverse_of : Has P w K mg base 1 "inverse_of" s_inverse_of [] ps_inverse_of S_inverse_of) (h_turns_within : Has P w K mg base 1 "turns_within" s_turns_within [] ps_turns_within S_turns_within) (b_divmod : mg "divmod" = none) (b_abs : mg "abs" = none) (b_max : mg "max" = none) (b_min : mg "min" = none) : Has P w K mg base 2 "wave_line" s_wave_line [] ps_wave_line S_wave_line :=
  has_of (t := t_wave_line) F sc_wave_line (fun f cdv A outer s H gd hr => ds_cons (ds_asg (ws := [9, 10]) (de_var 0) (dg_tup (dgs_cons (dg_name 9 sc_wave_line.nd) (dgs_cons (dg_name 10 sc_wave_line.nd) (dgs_nil)))))
    (ds_cons (ds_if (dt_cmp (od_eq hr.units) (de_var 10) (de_int)) (ds_cons (ds_asg (ws := [6, 13]) (de_bn cd_divmodF b_divmod bb_divmod (da_cons (de_var 3) (da_cons (de_var 9) (da_nil)))) (dg_tup (dgs_cons (dg_name 6 sc_wave_line.nd) (dgs_cons (dg_name 13 sc_wave_line.nd) (dgs_nil)))))
    (ds_one (ds_ret (de_tup (da_cons (de_tup (da_cons (de_var 6) (da_cons (de_int) (da_nil)))) (da_cons (de_tup (da_cons (de_int) (da_cons (de_int) (da_nil)))) (da_cons (de_if ((dw_and (dt_cmp (od_eq hr.units) (de_var 13) (de_int)) (dw_and1 (dt_chn od_le od_lt (de_int) (de_var 6) (de_var 1)))).pt) (de_var 2) (de_int)) (da_nil)))))))) (ds_nil))
    (ds_cons (ds_if (dt_cmp (od_eq hr.units) (de_var 9) (de_int)) (ds_cons (ds_asg (ws := [7, 13]) (de_bn cd_divmodF b_divmod bb_divmod (da_cons (de_var 3) (da_cons (de_var 10) (da_nil)))) (dg_tup (dgs_cons (dg_name 7 sc_wave_line.nd) (dgs_cons (dg_name 13 sc_wave_line.nd) (dgs_nil)))))
    (ds_one (ds_ret (de_tup (da_cons (de_tup (da_cons (de_int) (da_cons (de_var 7) (da_nil)))) (da_cons (de_tup (da_cons (de_int) (da_cons (de_int) (da_nil)))) (da_cons (de_if ((dw_and (dt_cmp (od_eq hr.units) (de_var 13) (de_int)) (dw_and1 (dt_chn od_le od_lt (de_int) (de_var 7) (de_var 2)))).pt) (de_var 1) (de_int)) (da_nil)))))))) (ds_nil))
    (ds_cons (ds_set 4 sc_wave_line.nd (dh_call h_divisor gd hr (fun _ _ F => bd_divisor_2 F) (da_cons (de_var 9) (da_cons (de_var 10) (da_nil)))))
    (ds_cons (ds_if (dt_cmp (od_ne hr.units) (de_bin od_mod (de_var 3) (de_var 4)) (de_int)) (ds_one (ds_ret (de_tup (da_cons (de_tup (da_cons (de_int) (da_cons (de_int) (da_nil)))) (da_cons (de_tup (da_cons (de_int) (da_cons (de_int) (da_nil)))) (da_cons (de_int) (da_nil))))))) (ds_nil))
    (ds_cons (ds_par3 9 10 3 sc_wave_line.nd (de_bin od_fdv (de_var 9) (de_var 4)) (de_bin od_fdv (de_var 10) (de_var 4)) (de_bin od_fdv (de_var 3) (de_var 4)))
    (ds_cons (ds_set 5 sc_wave_line.nd (de_tup (da_cons (de_b1 cd_abs b_abs bb_abs (de_var 10)) (da_cons (de_if (dt_cmp od_gt (de_var 10) (de_int)) (de_un ud_neg (de_var 9)) (de_var 9)) (da_nil)))))
    (ds_cons (ds_set 6 sc_wave_line.nd (de_bin od_mod (de_bin od_mul (de_var 3) (dh_call h_inverse_of gd hr (fun _ _ F => bd_inverse_of_2 F) (da_cons (de_var 9) (da_cons (de_b1 cd_abs b_abs bb_abs (de_var 10)) (da_nil))))) (de_b1 cd_abs b_abs bb_abs (de_var 10))))
    (ds_cons (ds_set 7 sc_wave_line.nd (de_bin od_fdv (de_bin od_sub (de_var 3) (de_bin od_mul (de_var 9) (de_var 6))) (de_var 10)))
    (ds_cons (ds_set 8 sc_wave_line.nd (de_lst (da_cons (dh_call h_turns_within gd hr (fun _ _ F => bd_turns_within_3 F) (da_cons (de_var 6) (da_cons (de_ix hr.units (de_var 5) (de_int)) (da_cons (de_var 1) (da_nil))))) (da_cons (dh_call h_turns_within gd hr (fun _ _ F => bd_turns_within_3 F) (da_cons (de_var 7) (da_cons (de_ix hr.units (de_var 5) (de_int)) (da_cons (de_var 2) (da_nil))))) (da_nil)))))
    (ds_cons (ds_par2 11 12 sc_wave_line.nd (de_b1 (cd_maxL rfl) b_max bb_max (de_lc (own := [("span", 14)]) sc_wave_line.nd (di_walk (de_var 8)) (by exact blkOk_by (N := N_wave_line) (sc := defScope s_wave_line) (by decide +kernel)) (fun _ _ _ _ _ => dg_name 14 sc_wave_line.nd) (fun _ _ _ _ _ => dts_nil) (fun _ _ _ _ _ => de_ix hr.units (de_var 14) (de_int)))) (de_b1 (cd_minL rfl) b_min bb_min (de_lc (own := [("span", 14)]) sc_wave_line.nd (di_walk (de_var 8)) (by exact blkOk_by (N := N_wave_line) (sc := defScope s_wave_line) (by decide +kernel)) (fun _ _ _ _ _ => dg_name 14 sc_wave_line.nd) (fun _ _ _ _ _ => dts_nil) (fun _ _ _ _ _ => de_ix hr.units (de_var 14) (de_int)))))
    (ds_one (ds_ret (de_tup (da_cons (de_tup (da_cons (de_bin od_add (de_var 6) (de_bin od_mul (de_var 11) (de_ix hr.units (de_var 5) (de_int)))) (da_cons (de_bin od_add (de_var 7) (de_bin od_mul (de_var 11) (de_ix hr.units (de_var 5) (de_int)))) (da_nil)))) (da_cons (de_var 5) (da_cons (de_bn (cd_max2 rfl) b_max bb_max (da_cons (de_int) (da_cons (de_bin od_add (de_bin od_sub (de_var 12) (de_var 11)) (de_int)) (da_nil)))) (da_nil)))))))))))))))))) L_wave_line l_wave_line
set_option maxHeartbeats 0 in
theorem ok_wave_size (F : FunH K mg "wave_size" s_wave_size []) (h_need_waves : Has P w K mg base 5 "need_waves" s_need_waves [] ps_need_waves S_need_waves) (h_need_number : Has P w K mg base 2 "need_number" s_need_number dd_need_number ps_need_number S_need_number) (h_wave_line : Has P w K mg base 2 "wave_line" s_wave_line [] ps_wave_line S_wave_line) : Has P w K mg base 6 "wave_size" s_wave_size [] ps_wave_size S_wave_size :=
  has_of (t := t_wave_size) F sc_wave_size (fun f cdv A outer s H gd hr => ds_cons (ds_expr (dh_call h_need_waves gd hr (fun _ _ F => bd_need_waves_3 F) (da_cons (de_var 0) (da_cons (de_var 1) (da_cons (de_var 2) (da_nil))))))
    (ds_cons (ds_expr (dh_call h_need_number gd hr (fun _ _ F => bd_need_number_2_ F) (da_cons (de_var 3) (da_cons (de_non) (da_nil)))))
    (ds_one (ds_ret (de_ix hr.units (dh_call h_wave_line gd hr (fun _ _ F => bd_wave_line_4 F) (da_cons (de_var 0) (da_cons (de_var 1) (da_cons (de_var 2) (da_cons (de_var 3) (da_nil)))))) (de_int)))))) L_wave_size l_wave_size
set_option maxHeartbeats 0 in
theorem ok__law_far_right (F : FunH K mg "_law_far_right" s__law_far_right []) (h__law_draw : Has P w K mg base 1 "_law_draw" s__law_draw [] ps__law_draw S__law_draw) (h__law_pair : Has P w K mg base 2 "_law_pair" s__law_pair [] ps__law_pair S__law_pair) (h__law_turn : Has P w K mg base 2 "_law_turn" s__law_turn [] ps__law_turn S__law_turn) (h__law_times : Has P w K mg base 1 "_law_times" s__law_times [] ps__law_times S__law_times) (h_widest_wave : Has P w K mg base 6 "widest_wave" s_widest_wave [] ps_widest_wave S_widest_wave) (h_wave_size : Has P w K mg base 6 "wave_size" s_wave_size [] ps_wave_size S_wave_size) (b_range : mg "range" = none) (b_repr : mg "repr" = none) : Has P w K mg base 7 "_law_far_right" s__law_far_right [] ps__law_far_right S__law_far_right :=
  has_of (t := t__law_far_right) F sc__law_far_right (fun f cdv A outer s H gd hr => ds_cons (ds_asg (ws := [6, 7]) (de_lc (own := [("_law_side", 10)]) sc__law_far_right.nd (di_range1 b_range (da_cons (de_int) (da_nil))) (by exact blkOk_by (N := N__law_far_right) (sc := defScope s__law_far_right) (by decide +kernel)) (fun _ _ _ _ _ => dg_name 10 sc__law_far_right.nd) (fun _ _ _ _ _ => dts_nil) (fun _ _ _ _ _ => de_bin od_add (de_int) (dh_call h__law_draw gd hr (fun _ _ F => bd__law_draw_2 F) (da_cons (de_var 0) (da_cons (de_ix hr.units (de_lst (da_cons (de_int) (da_cons (de_bin od_sub (de_bin od_pow (de_int) (de_int)) (de_int)) (da_nil)))) (dh_call h__law_draw gd hr (fun _ _ F => bd__law_draw_2 F) (da_cons (de_var 0) (da_cons (de_int) (da_nil))))) (da_nil)))))) (dg_unl (dgs_cons (dg_name 6 sc__law_far_right.nd) (dgs_cons (dg_name 7 sc__law_far_right.nd) (dgs_nil)))))
    (ds_cons (ds_set 1 sc__law_far_right.nd (dh_call h__law_pair gd hr (fun _ _ F => bd__law_pair_2 F) (da_cons (de_var 0) (da_cons (de_ix hr.units (de_lst (da_cons (de_int) (da_cons (de_int) (da_cons (de_bin od_pow (de_int) (de_int)) (da_cons (de_bin od_pow (de_int) (de_int)) (da_nil)))))) (dh_call h__law_draw gd hr (fun _ _ F => bd__law_draw_2 F) (da_cons (de_var 0) (da_cons (de_int) (da_nil))))) (da_nil)))))
    (ds_cons (ds_if (dt_cmp (od_eq hr.units) (dh_call h__law_draw gd hr (fun _ _ F => bd__law_draw_2 F) (da_cons (de_var 0) (da_cons (de_int) (da_nil)))) (de_int)) (ds_cons (ds_set 8 sc__law_far_right.nd (de_bin od_add (de_int) (dh_call h__law_draw gd hr (fun _ _ F => bd__law_draw_2 F) (da_cons (de_var 0) (da_cons (de_bin od_pow (de_int) (de_int)) (da_nil))))))
    (ds_one (ds_set 1 sc__law_far_right.nd (de_ix hr.units (de_lst (da_cons (de_tup (da_cons (de_int) (da_cons (de_bin od_sub (de_int) (de_var 8)) (da_nil)))) (da_cons (de_tup (da_cons (de_var 8) (da_cons (de_int) (da_nil)))) (da_cons (de_tup (da_cons (de_bin od_mul (de_int) (de_var 8)) (da_cons (de_bin od_mul (de_int) (de_var 8)) (da_nil)))) (da_cons (de_tup (da_cons (de_var 8) (da_cons (de_var 8) (da_nil)))) (da_nil)))))) (dh_call h__law_draw gd hr (fun _ _ F => bd__law_draw_2 F) (da_cons (de_var 0) (da_cons (de_int) (da_nil)))))))) (ds_nil))
    (ds_cons (ds_set 2 sc__law_far_right.nd (dh_call h__law_turn gd hr (fun _ _ F => bd__law_turn_1 F) (da_cons (de_var 1) (da_nil))))
    (ds_cons (ds_set 3 sc__law_far_right.nd (de_if (dt_cmp od_ge (de_ix hr.units (de_var 2) (de_int)) (de_int)) (de_tup (da_cons (de_int) (da_cons (de_int) (da_nil)))) (de_tup (da_cons (de_int) (da_cons (de_bin od_sub (de_var 7) (de_int)) (da_nil))))))
    (ds_cons (ds_set 4 sc__law_far_right.nd (de_bin od_add (dh_call h__law_times gd hr (fun _ _ F => bd__law_times_4 F) (da_cons (de_var 3) (da_cons (de_var 2) (da_cons (de_var 6) (da_cons (de_var 7) (da_nil)))))) (de_int)))
    (ds_cons (ds_if (dt_cmp (od_ne hr.units) (de_b1 (cd_repr gd hr.units) b_repr bb_repr (dh_call h_widest_wave gd hr (fun _ _ F => bd_widest_wave_3 F) (da_cons (de_var 1) (da_cons (de_var 6) (da_cons (de_var 7) (da_nil)))))) (de_b1 (cd_repr gd hr.units) b_repr bb_repr (de_var 4))) (ds_one (ds_ret (de_bl))) (ds_nil))
    (ds_cons (ds_if (dt_cmp (od_ne hr.units) (dh_call h_wave_size gd hr (fun _ _ F => bd_wave_size_4 F) (da_cons (de_var 1) (da_cons (de_var 6) (da_cons (de_var 7) (da_cons (de_bin od_add (de_bin od_mul (de_ix hr.units (de_var 1) (de_int)) (de_ix hr.units (de_var 3) (de_int))) (de_bin od_mul (de_ix hr.units (de_var 1) (de_int)) (de_ix hr.units (de_var 3) (de_int)))) (da_nil)))))) (de_var 4)) (ds_one (ds_ret (de_bl))) (ds_nil))
    (ds_cons (ds_for (ws := [5]) PassesOwn.never (di_range1 b_range (da_cons (de_int) (da_nil))) (dg_name 5 sc__law_far_right.nd) (ds_cons (ds_set 9 sc__law_far_right.nd (de_tup (da_cons (dh_call h__law_draw gd hr (fun _ _ F => bd__law_draw_2 F) (da_cons (de_var 0) (da_cons (de_var 6) (da_nil)))) (da_cons (dh_call h__law_draw gd hr (fun _ _ F => bd__law_draw_2 F) (da_cons (de_var 0) (da_cons (de_var 7) (da_nil)))) (da_nil)))))
    (ds_one (ds_if (dt_cmp od_gt (dh_call h_wave_size gd hr (fun _ _ F => bd_wave_size_4 F) (da_cons (de_var 1) (da_cons (de_var 6) (da_cons (de_var 7) (da_cons (de_bin od_add (de_bin od_mul (de_ix hr.units (de_var 1) (de_int)) (de_ix hr.units (de_var 9) (de_int))) (de_bin od_mul (de_ix hr.units (de_var 1) (de_int)) (de_ix hr.units (de_var 9) (de_int)))) (da_nil)))))) (de_var 4)) (ds_one (ds_ret (de_bl))) (ds_nil)))))
    (ds_one (ds_ret (de_bl)))))))))))) L__law_far_right l__law_far_right
set_option maxHeartbeats 0 in
theorem ok_law (F : FunH K mg "law" s_law []) (h__law_source : Has P w K mg base 1 "_law_source" s__law_source [] ps__law_source S__law_source) (h__law_right : Has P w K mg base 7 "_law_right" s__law_right [] ps__law_right S__law_right) (h__law_far_right : Has P w K mg base 7 "_law_far_right" s__law_far_right [] ps__law_far_right S__law_far_right) (h_widest_wave : Has P w K mg base 6 "widest_wave" s_widest_wave [] ps_widest_wave S_widest_wave) (b_enumerate : mg "enumerate" = none) (b_range : mg "range" = none) : Has P w K mg base 8 "law" s_law [] ps_law S_law :=
  has_of (t := t_law) F sc_law (fun f cdv A outer s H gd hr => ds_cons (ds_for (ws := [2, 3]) PassesOwn.never (di_enum b_enumerate (da_cons (de_bin od_add (de_sl (de_var 0) (dp_none) (dp_some (de_int))) (de_lst (da_cons (de_int) (da_nil)))) (da_nil))) (dg_tup (dgs_cons (dg_name 2 sc_law.nd) (dgs_cons (dg_name 3 sc_law.nd) (dgs_nil)))) (ds_cons (ds_set 4 sc_law.nd (dh_call h__law_source gd hr (fun _ _ F => bd__law_source_2 F) (da_cons (de_var 3) (da_cons (de_var 2) (da_nil)))))
    (ds_one (ds_for (ws := [5]) PassesOwn.never (di_range1 b_range (da_cons (de_int) (da_nil))) (dg_name 5 sc_law.nd) (ds_one (ds_if ((dw_or (dt_not (dt_val (dh_call h__law_right gd hr (fun _ _ F => bd__law_right_1 F) (da_cons (de_var 4) (da_nil))))) (dw_or1 (dt_not (dt_val (dh_call h__law_far_right gd hr (fun _ _ F => bd__law_far_right_1 F) (da_cons (de_var 4) (da_nil))))))).pt) (ds_one (ds_ret (de_bl))) (ds_nil)))))))
    (ds_cons (ds_set 1 sc_law.nd (de_lst (da_cons (dh_call h_widest_wave gd hr (fun _ _ F => bd_widest_wave_3 F) (da_cons (de_tup (da_cons (de_int) (da_cons (de_un ud_neg (de_int)) (da_nil)))) (da_cons (de_int) (da_cons (de_int) (da_nil))))) (da_cons (dh_call h_widest_wave gd hr (fun _ _ F => bd_widest_wave_3 F) (da_cons (de_tup (da_cons (de_int) (da_cons (de_int) (da_nil)))) (da_cons (de_int) (da_cons (de_int) (da_nil))))) (da_cons (dh_call h_widest_wave gd hr (fun _ _ F => bd_widest_wave_3 F) (da_cons (de_tup (da_cons (de_int) (da_cons (de_int) (da_nil)))) (da_cons (de_int) (da_cons (de_int) (da_nil))))) (da_nil))))))
    (ds_one (ds_ret (de_cmp (od_eq hr.units) (de_bin od_add (de_var 1) (de_lst (da_cons (dh_call h_widest_wave gd hr (fun _ _ F => bd_widest_wave_3 F) (da_cons (de_tup (da_cons (de_un ud_neg (de_int)) (da_cons (de_int) (da_nil)))) (da_cons (de_int) (da_cons (de_int) (da_nil))))) (da_nil)))) (de_lst (da_cons (de_int) (da_cons (de_int) (da_cons (de_int) (da_cons (de_int) (da_nil))))))))))) L_law l_law
end
theorem all_ok {P : Program} {w : World} {K : PySem.W.Frag} {mg : Str → Option Value} {base : Heap} (F__law_source : FunH K mg "_law_source" s__law_source []) (F__law_draw : FunH K mg "_law_draw" s__law_draw []) (F__law_pair : FunH K mg "_law_pair" s__law_pair []) (F__law_spots : FunH K mg "_law_spots" s__law_spots []) (F__law_waves : FunH K mg "_law_waves" s__law_waves []) (F_is_integer : FunH K mg "is_integer" s_is_integer dd_is_integer) (F_is_pair : FunH K mg "is_pair" s_is_pair []) (F_is_line : FunH K mg "is_line" s_is_line []) (F_need_line : FunH K mg "need_line" s_need_line []) (F_need_size : FunH K mg "need_size" s_need_size []) (F_need_box : FunH K mg "need_box" s_need_box []) (F_need_waves : FunH K mg "need_waves" s_need_waves []) (F_divisor : FunH K mg "divisor" s_divisor []) (F_widest_wave : FunH K mg "widest_wave" s_widest_wave []) (F__law_right : FunH K mg "_law_right" s__law_right []) (F__law_divisor : FunH K mg "_law_divisor" s__law_divisor []) (F__law_turn : FunH K mg "_law_turn" s__law_turn []) (F__law_times : FunH K mg "_law_times" s__law_times []) (F_need_number : FunH K mg "need_number" s_need_number dd_need_number) (F_inverse_of : FunH K mg "inverse_of" s_inverse_of []) (F_turns_within : FunH K mg "turns_within" s_turns_within []) (F_wave_line : FunH K mg "wave_line" s_wave_line []) (F_wave_size : FunH K mg "wave_size" s_wave_size []) (F__law_far_right : FunH K mg "_law_far_right" s__law_far_right []) (F_law : FunH K mg "law" s_law []) (b_abs : mg "abs" = none) (b_int : mg "int" = none) (b_max : mg "max" = none) (b_range : mg "range" = none) (b_isinstance : mg "isinstance" = none) (b_bool : mg "bool" = none) (b_tuple : mg "tuple" = none) (b_len : mg "len" = none) (b_all : mg "all" = none) (b_min : mg "min" = none) (b_repr : mg "repr" = none) (b_divmod : mg "divmod" = none) (b_enumerate : mg "enumerate" = none) (g_MOST_SIZE : GlbI mg "MOST_SIZE" 999999999999999999999999999999) : Has P w K mg base 8 "law" s_law [] ps_law S_law := by
  have h__law_source := ok__law_source (P := P) (w := w) (base := base) F__law_source b_abs b_int b_max
  have h__law_draw := ok__law_draw (P := P) (w := w) (base := base) F__law_draw b_int
  have h__law_pair := ok__law_pair (P := P) (w := w) (base := base) F__law_pair h__law_draw
  have h__law_spots := ok__law_spots (P := P) (w := w) (base := base) F__law_spots b_range b_int
  have h__law_waves := ok__law_waves (P := P) (w := w) (base := base) F__law_waves h__law_spots
  have h_is_integer := ok_is_integer (P := P) (w := w) (base := base) F_is_integer b_int b_isinstance b_bool
  have h_is_pair := ok_is_pair (P := P) (w := w) (base := base) F_is_pair h_is_integer b_tuple b_isinstance b_len b_all
  have h_is_line := ok_is_line (P := P) (w := w) (base := base) F_is_line h_is_pair
  have h_need_line := ok_need_line (P := P) (w := w) (base := base) F_need_line h_is_line
  have h_need_size := ok_need_size (P := P) (w := w) (base := base) F_need_size h_is_integer g_MOST_SIZE
  have h_need_box := ok_need_box (P := P) (w := w) (base := base) F_need_box h_need_size
  have h_need_waves := ok_need_waves (P := P) (w := w) (base := base) F_need_waves h_need_line h_need_box
  have h_divisor := ok_divisor (P := P) (w := w) (base := base) F_divisor b_abs
  have h_widest_wave := ok_widest_wave (P := P) (w := w) (base := base) F_widest_wave h_need_waves h_divisor b_abs b_min
  have h__law_right := ok__law_right (P := P) (w := w) (base := base) F__law_right h__law_draw h__law_pair h__law_waves h_widest_wave b_range b_len b_max b_repr
  have h__law_divisor := ok__law_divisor (P := P) (w := w) (base := base) F__law_divisor b_int b_abs
  have h__law_turn := ok__law_turn (P := P) (w := w) (base := base) F__law_turn h__law_divisor
  have h__law_times := ok__law_times (P := P) (w := w) (base := base) F__law_times b_abs b_min
  have h_need_number := ok_need_number (P := P) (w := w) (base := base) F_need_number h_is_integer
  have h_inverse_of := ok_inverse_of (P := P) (w := w) (base := base) F_inverse_of 
  have h_turns_within := ok_turns_within (P := P) (w := w) (base := base) F_turns_within 
  have h_wave_line := ok_wave_line (P := P) (w := w) (base := base) F_wave_line h_divisor h_inverse_of h_turns_within b_divmod b_abs b_max b_min
  have h_wave_size := ok_wave_size (P := P) (w := w) (base := base) F_wave_size h_need_waves h_need_number h_wave_line
  have h__law_far_right := ok__law_far_right (P := P) (w := w) (base := base) F__law_far_right h__law_draw h__law_pair h__law_turn h__law_times h_widest_wave h_wave_size b_range b_repr
  have h_law := ok_law (P := P) (w := w) (base := base) F_law h__law_source h__law_right h__law_far_right h_widest_wave b_enumerate b_range
  exact h_law

theorem fin {l : PySem.W.OpenLaw} {w : World} {K : PySem.W.Frag} {h : Heap} {mg : Str → Option Value} {fa : Addr} (X : K.In h) (G : h.Ns mainGlobals mg) (hfa : mg "law" = some (.ref fa))
    {f0 : Addr} {od0 an0 : Option Addr} {sl0 : Array (Option Value)} {oc0 kV0 dc0 pm0 cd0 ct0 : Value}
    (a0 : PySem.W.nsIn K mainGlobals "_law_source" = some (some (.ref f0)))
    (l0 : K.lookup f0 = some ⟨oc0, od0, .func (PySem.W.fnOf "_law_source" "_law_source" (defArgs s__law_source) (defBody s__law_source) (defScope s__law_source) .none kV0 dc0 pm0 an0 cd0 ct0), sl0⟩) (c0 : PySem.W.codeIn K cd0 "_law_source" = true) (k0 : PySem.W.keepIn K (.ref f0) = true)
    {f1 : Addr} {od1 an1 : Option Addr} {sl1 : Array (Option Value)} {oc1 kV1 dc1 pm1 cd1 ct1 : Value}
    (a1 : PySem.W.nsIn K mainGlobals "_law_draw" = some (some (.ref f1)))
    (l1 : K.lookup f1 = some ⟨oc1, od1, .func (PySem.W.fnOf "_law_draw" "_law_draw" (defArgs s__law_draw) (defBody s__law_draw) (defScope s__law_draw) .none kV1 dc1 pm1 an1 cd1 ct1), sl1⟩) (c1 : PySem.W.codeIn K cd1 "_law_draw" = true) (k1 : PySem.W.keepIn K (.ref f1) = true)
    {f2 : Addr} {od2 an2 : Option Addr} {sl2 : Array (Option Value)} {oc2 kV2 dc2 pm2 cd2 ct2 : Value}
    (a2 : PySem.W.nsIn K mainGlobals "_law_pair" = some (some (.ref f2)))
    (l2 : K.lookup f2 = some ⟨oc2, od2, .func (PySem.W.fnOf "_law_pair" "_law_pair" (defArgs s__law_pair) (defBody s__law_pair) (defScope s__law_pair) .none kV2 dc2 pm2 an2 cd2 ct2), sl2⟩) (c2 : PySem.W.codeIn K cd2 "_law_pair" = true) (k2 : PySem.W.keepIn K (.ref f2) = true)
    {f3 : Addr} {od3 an3 : Option Addr} {sl3 : Array (Option Value)} {oc3 kV3 dc3 pm3 cd3 ct3 : Value}
    (a3 : PySem.W.nsIn K mainGlobals "_law_spots" = some (some (.ref f3)))
    (l3 : K.lookup f3 = some ⟨oc3, od3, .func (PySem.W.fnOf "_law_spots" "_law_spots" (defArgs s__law_spots) (defBody s__law_spots) (defScope s__law_spots) .none kV3 dc3 pm3 an3 cd3 ct3), sl3⟩) (c3 : PySem.W.codeIn K cd3 "_law_spots" = true) (k3 : PySem.W.keepIn K (.ref f3) = true)
    {f4 : Addr} {od4 an4 : Option Addr} {sl4 : Array (Option Value)} {oc4 kV4 dc4 pm4 cd4 ct4 : Value}
    (a4 : PySem.W.nsIn K mainGlobals "_law_waves" = some (some (.ref f4)))
    (l4 : K.lookup f4 = some ⟨oc4, od4, .func (PySem.W.fnOf "_law_waves" "_law_waves" (defArgs s__law_waves) (defBody s__law_waves) (defScope s__law_waves) .none kV4 dc4 pm4 an4 cd4 ct4), sl4⟩) (c4 : PySem.W.codeIn K cd4 "_law_waves" = true) (k4 : PySem.W.keepIn K (.ref f4) = true)
    {f5 : Addr} {od5 an5 : Option Addr} {sl5 : Array (Option Value)} {oc5 kV5 dc5 pm5 cd5 ct5 dV5 : Value}
    (a5 : PySem.W.nsIn K mainGlobals "is_integer" = some (some (.ref f5)))
    (l5 : K.lookup f5 = some ⟨oc5, od5, .func (PySem.W.fnOf "is_integer" "is_integer" (defArgs s_is_integer) (defBody s_is_integer) (defScope s_is_integer) dV5 kV5 dc5 pm5 an5 cd5 ct5), sl5⟩) (c5 : PySem.W.codeIn K cd5 "is_integer" = true) (k5 : PySem.W.keepIn K (.ref f5) = true)
    (d5 : He.dflB K dV5 (dd_is_integer.map flV) = true)
    {f6 : Addr} {od6 an6 : Option Addr} {sl6 : Array (Option Value)} {oc6 kV6 dc6 pm6 cd6 ct6 : Value}
    (a6 : PySem.W.nsIn K mainGlobals "is_pair" = some (some (.ref f6)))
    (l6 : K.lookup f6 = some ⟨oc6, od6, .func (PySem.W.fnOf "is_pair" "is_pair" (defArgs s_is_pair) (defBody s_is_pair) (defScope s_is_pair) .none kV6 dc6 pm6 an6 cd6 ct6), sl6⟩) (c6 : PySem.W.codeIn K cd6 "is_pair" = true) (k6 : PySem.W.keepIn K (.ref f6) = true)
    {f7 : Addr} {od7 an7 : Option Addr} {sl7 : Array (Option Value)} {oc7 kV7 dc7 pm7 cd7 ct7 : Value}
    (a7 : PySem.W.nsIn K mainGlobals "is_line" = some (some (.ref f7)))
    (l7 : K.lookup f7 = some ⟨oc7, od7, .func (PySem.W.fnOf "is_line" "is_line" (defArgs s_is_line) (defBody s_is_line) (defScope s_is_line) .none kV7 dc7 pm7 an7 cd7 ct7), sl7⟩) (c7 : PySem.W.codeIn K cd7 "is_line" = true) (k7 : PySem.W.keepIn K (.ref f7) = true)
    {f8 : Addr} {od8 an8 : Option Addr} {sl8 : Array (Option Value)} {oc8 kV8 dc8 pm8 cd8 ct8 : Value}
    (a8 : PySem.W.nsIn K mainGlobals "need_line" = some (some (.ref f8)))
    (l8 : K.lookup f8 = some ⟨oc8, od8, .func (PySem.W.fnOf "need_line" "need_line" (defArgs s_need_line) (defBody s_need_line) (defScope s_need_line) .none kV8 dc8 pm8 an8 cd8 ct8), sl8⟩) (c8 : PySem.W.codeIn K cd8 "need_line" = true) (k8 : PySem.W.keepIn K (.ref f8) = true)
    {f9 : Addr} {od9 an9 : Option Addr} {sl9 : Array (Option Value)} {oc9 kV9 dc9 pm9 cd9 ct9 : Value}
    (a9 : PySem.W.nsIn K mainGlobals "need_size" = some (some (.ref f9)))
    (l9 : K.lookup f9 = some ⟨oc9, od9, .func (PySem.W.fnOf "need_size" "need_size" (defArgs s_need_size) (defBody s_need_size) (defScope s_need_size) .none kV9 dc9 pm9 an9 cd9 ct9), sl9⟩) (c9 : PySem.W.codeIn K cd9 "need_size" = true) (k9 : PySem.W.keepIn K (.ref f9) = true)
    {f10 : Addr} {od10 an10 : Option Addr} {sl10 : Array (Option Value)} {oc10 kV10 dc10 pm10 cd10 ct10 : Value}
    (a10 : PySem.W.nsIn K mainGlobals "need_box" = some (some (.ref f10)))
    (l10 : K.lookup f10 = some ⟨oc10, od10, .func (PySem.W.fnOf "need_box" "need_box" (defArgs s_need_box) (defBody s_need_box) (defScope s_need_box) .none kV10 dc10 pm10 an10 cd10 ct10), sl10⟩) (c10 : PySem.W.codeIn K cd10 "need_box" = true) (k10 : PySem.W.keepIn K (.ref f10) = true)
    {f11 : Addr} {od11 an11 : Option Addr} {sl11 : Array (Option Value)} {oc11 kV11 dc11 pm11 cd11 ct11 : Value}
    (a11 : PySem.W.nsIn K mainGlobals "need_waves" = some (some (.ref f11)))
    (l11 : K.lookup f11 = some ⟨oc11, od11, .func (PySem.W.fnOf "need_waves" "need_waves" (defArgs s_need_waves) (defBody s_need_waves) (defScope s_need_waves) .none kV11 dc11 pm11 an11 cd11 ct11), sl11⟩) (c11 : PySem.W.codeIn K cd11 "need_waves" = true) (k11 : PySem.W.keepIn K (.ref f11) = true)
    {f12 : Addr} {od12 an12 : Option Addr} {sl12 : Array (Option Value)} {oc12 kV12 dc12 pm12 cd12 ct12 : Value}
    (a12 : PySem.W.nsIn K mainGlobals "divisor" = some (some (.ref f12)))
    (l12 : K.lookup f12 = some ⟨oc12, od12, .func (PySem.W.fnOf "divisor" "divisor" (defArgs s_divisor) (defBody s_divisor) (defScope s_divisor) .none kV12 dc12 pm12 an12 cd12 ct12), sl12⟩) (c12 : PySem.W.codeIn K cd12 "divisor" = true) (k12 : PySem.W.keepIn K (.ref f12) = true)
    {f13 : Addr} {od13 an13 : Option Addr} {sl13 : Array (Option Value)} {oc13 kV13 dc13 pm13 cd13 ct13 : Value}
    (a13 : PySem.W.nsIn K mainGlobals "widest_wave" = some (some (.ref f13)))
    (l13 : K.lookup f13 = some ⟨oc13, od13, .func (PySem.W.fnOf "widest_wave" "widest_wave" (defArgs s_widest_wave) (defBody s_widest_wave) (defScope s_widest_wave) .none kV13 dc13 pm13 an13 cd13 ct13), sl13⟩) (c13 : PySem.W.codeIn K cd13 "widest_wave" = true) (k13 : PySem.W.keepIn K (.ref f13) = true)
    {f14 : Addr} {od14 an14 : Option Addr} {sl14 : Array (Option Value)} {oc14 kV14 dc14 pm14 cd14 ct14 : Value}
    (a14 : PySem.W.nsIn K mainGlobals "_law_right" = some (some (.ref f14)))
    (l14 : K.lookup f14 = some ⟨oc14, od14, .func (PySem.W.fnOf "_law_right" "_law_right" (defArgs s__law_right) (defBody s__law_right) (defScope s__law_right) .none kV14 dc14 pm14 an14 cd14 ct14), sl14⟩) (c14 : PySem.W.codeIn K cd14 "_law_right" = true) (k14 : PySem.W.keepIn K (.ref f14) = true)
    {f15 : Addr} {od15 an15 : Option Addr} {sl15 : Array (Option Value)} {oc15 kV15 dc15 pm15 cd15 ct15 : Value}
    (a15 : PySem.W.nsIn K mainGlobals "_law_divisor" = some (some (.ref f15)))
    (l15 : K.lookup f15 = some ⟨oc15, od15, .func (PySem.W.fnOf "_law_divisor" "_law_divisor" (defArgs s__law_divisor) (defBody s__law_divisor) (defScope s__law_divisor) .none kV15 dc15 pm15 an15 cd15 ct15), sl15⟩) (c15 : PySem.W.codeIn K cd15 "_law_divisor" = true) (k15 : PySem.W.keepIn K (.ref f15) = true)
    {f16 : Addr} {od16 an16 : Option Addr} {sl16 : Array (Option Value)} {oc16 kV16 dc16 pm16 cd16 ct16 : Value}
    (a16 : PySem.W.nsIn K mainGlobals "_law_turn" = some (some (.ref f16)))
    (l16 : K.lookup f16 = some ⟨oc16, od16, .func (PySem.W.fnOf "_law_turn" "_law_turn" (defArgs s__law_turn) (defBody s__law_turn) (defScope s__law_turn) .none kV16 dc16 pm16 an16 cd16 ct16), sl16⟩) (c16 : PySem.W.codeIn K cd16 "_law_turn" = true) (k16 : PySem.W.keepIn K (.ref f16) = true)
    {f17 : Addr} {od17 an17 : Option Addr} {sl17 : Array (Option Value)} {oc17 kV17 dc17 pm17 cd17 ct17 : Value}
    (a17 : PySem.W.nsIn K mainGlobals "_law_times" = some (some (.ref f17)))
    (l17 : K.lookup f17 = some ⟨oc17, od17, .func (PySem.W.fnOf "_law_times" "_law_times" (defArgs s__law_times) (defBody s__law_times) (defScope s__law_times) .none kV17 dc17 pm17 an17 cd17 ct17), sl17⟩) (c17 : PySem.W.codeIn K cd17 "_law_times" = true) (k17 : PySem.W.keepIn K (.ref f17) = true)
    {f18 : Addr} {od18 an18 : Option Addr} {sl18 : Array (Option Value)} {oc18 kV18 dc18 pm18 cd18 ct18 dV18 : Value}
    (a18 : PySem.W.nsIn K mainGlobals "need_number" = some (some (.ref f18)))
    (l18 : K.lookup f18 = some ⟨oc18, od18, .func (PySem.W.fnOf "need_number" "need_number" (defArgs s_need_number) (defBody s_need_number) (defScope s_need_number) dV18 kV18 dc18 pm18 an18 cd18 ct18), sl18⟩) (c18 : PySem.W.codeIn K cd18 "need_number" = true) (k18 : PySem.W.keepIn K (.ref f18) = true)
    (d18 : He.dflB K dV18 (dd_need_number.map flV) = true)
    {f19 : Addr} {od19 an19 : Option Addr} {sl19 : Array (Option Value)} {oc19 kV19 dc19 pm19 cd19 ct19 : Value}
    (a19 : PySem.W.nsIn K mainGlobals "inverse_of" = some (some (.ref f19)))
    (l19 : K.lookup f19 = some ⟨oc19, od19, .func (PySem.W.fnOf "inverse_of" "inverse_of" (defArgs s_inverse_of) (defBody s_inverse_of) (defScope s_inverse_of) .none kV19 dc19 pm19 an19 cd19 ct19), sl19⟩) (c19 : PySem.W.codeIn K cd19 "inverse_of" = true) (k19 : PySem.W.keepIn K (.ref f19) = true)
    {f20 : Addr} {od20 an20 : Option Addr} {sl20 : Array (Option Value)} {oc20 kV20 dc20 pm20 cd20 ct20 : Value}
    (a20 : PySem.W.nsIn K mainGlobals "turns_within" = some (some (.ref f20)))
    (l20 : K.lookup f20 = some ⟨oc20, od20, .func (PySem.W.fnOf "turns_within" "turns_within" (defArgs s_turns_within) (defBody s_turns_within) (defScope s_turns_within) .none kV20 dc20 pm20 an20 cd20 ct20), sl20⟩) (c20 : PySem.W.codeIn K cd20 "turns_within" = true) (k20 : PySem.W.keepIn K (.ref f20) = true)
    {f21 : Addr} {od21 an21 : Option Addr} {sl21 : Array (Option Value)} {oc21 kV21 dc21 pm21 cd21 ct21 : Value}
    (a21 : PySem.W.nsIn K mainGlobals "wave_line" = some (some (.ref f21)))
    (l21 : K.lookup f21 = some ⟨oc21, od21, .func (PySem.W.fnOf "wave_line" "wave_line" (defArgs s_wave_line) (defBody s_wave_line) (defScope s_wave_line) .none kV21 dc21 pm21 an21 cd21 ct21), sl21⟩) (c21 : PySem.W.codeIn K cd21 "wave_line" = true) (k21 : PySem.W.keepIn K (.ref f21) = true)
    {f22 : Addr} {od22 an22 : Option Addr} {sl22 : Array (Option Value)} {oc22 kV22 dc22 pm22 cd22 ct22 : Value}
    (a22 : PySem.W.nsIn K mainGlobals "wave_size" = some (some (.ref f22)))
    (l22 : K.lookup f22 = some ⟨oc22, od22, .func (PySem.W.fnOf "wave_size" "wave_size" (defArgs s_wave_size) (defBody s_wave_size) (defScope s_wave_size) .none kV22 dc22 pm22 an22 cd22 ct22), sl22⟩) (c22 : PySem.W.codeIn K cd22 "wave_size" = true) (k22 : PySem.W.keepIn K (.ref f22) = true)
    {f23 : Addr} {od23 an23 : Option Addr} {sl23 : Array (Option Value)} {oc23 kV23 dc23 pm23 cd23 ct23 : Value}
    (a23 : PySem.W.nsIn K mainGlobals "_law_far_right" = some (some (.ref f23)))
    (l23 : K.lookup f23 = some ⟨oc23, od23, .func (PySem.W.fnOf "_law_far_right" "_law_far_right" (defArgs s__law_far_right) (defBody s__law_far_right) (defScope s__law_far_right) .none kV23 dc23 pm23 an23 cd23 ct23), sl23⟩) (c23 : PySem.W.codeIn K cd23 "_law_far_right" = true) (k23 : PySem.W.keepIn K (.ref f23) = true)
    {f24 : Addr} {od24 an24 : Option Addr} {sl24 : Array (Option Value)} {oc24 kV24 dc24 pm24 cd24 ct24 : Value}
    (a24 : PySem.W.nsIn K mainGlobals "law" = some (some (.ref f24)))
    (l24 : K.lookup f24 = some ⟨oc24, od24, .func (PySem.W.fnOf "law" "law" (defArgs s_law) (defBody s_law) (defScope s_law) .none kV24 dc24 pm24 an24 cd24 ct24), sl24⟩) (c24 : PySem.W.codeIn K cd24 "law" = true) (k24 : PySem.W.keepIn K (.ref f24) = true)
    (z_abs : PySem.W.nsIn K mainGlobals "abs" = some none)
    (z_int : PySem.W.nsIn K mainGlobals "int" = some none)
    (z_max : PySem.W.nsIn K mainGlobals "max" = some none)
    (z_range : PySem.W.nsIn K mainGlobals "range" = some none)
    (z_isinstance : PySem.W.nsIn K mainGlobals "isinstance" = some none)
    (z_bool : PySem.W.nsIn K mainGlobals "bool" = some none)
    (z_tuple : PySem.W.nsIn K mainGlobals "tuple" = some none)
    (z_len : PySem.W.nsIn K mainGlobals "len" = some none)
    (z_all : PySem.W.nsIn K mainGlobals "all" = some none)
    (z_min : PySem.W.nsIn K mainGlobals "min" = some none)
    (z_repr : PySem.W.nsIn K mainGlobals "repr" = some none)
    (z_divmod : PySem.W.nsIn K mainGlobals "divmod" = some none)
    (z_enumerate : PySem.W.nsIn K mainGlobals "enumerate" = some none)
    {y_MOST_SIZE : Tok} (g_MOST_SIZE : PySem.W.nsIn K mainGlobals "MOST_SIZE" = some (some (.int 999999999999999999999999999999 y_MOST_SIZE)))
    : ∃ fd : FuncData, (∀ (s : Shared) (v : Value), BindsTo s fd ⟨[v], []⟩ [("_law_script", v)]) ∧ ∀ base : Heap, K.In base → base.Ns mainGlobals mg → FnD l.prog w K mg base 8 fa fd ["_law_script"] S_law := by
  obtain rfl : fa = f24 := by have e := hfa.symm.trans (PySem.W.mg_of X G a24); cases e; rfl
  have F0 : FunH K mg "_law_source" s__law_source [] := ⟨_, _, PySem.W.mg_of X G a0, fund_mk l0 c0 k0 rfl⟩
  have F1 : FunH K mg "_law_draw" s__law_draw [] := ⟨_, _, PySem.W.mg_of X G a1, fund_mk l1 c1 k1 rfl⟩
  have F2 : FunH K mg "_law_pair" s__law_pair [] := ⟨_, _, PySem.W.mg_of X G a2, fund_mk l2 c2 k2 rfl⟩
  have F3 : FunH K mg "_law_spots" s__law_spots [] := ⟨_, _, PySem.W.mg_of X G a3, fund_mk l3 c3 k3 rfl⟩
  have F4 : FunH K mg "_law_waves" s__law_waves [] := ⟨_, _, PySem.W.mg_of X G a4, fund_mk l4 c4 k4 rfl⟩
  have F5 : FunH K mg "is_integer" s_is_integer dd_is_integer := ⟨_, _, PySem.W.mg_of X G a5, fund_mk l5 c5 k5 d5⟩
  have F6 : FunH K mg "is_pair" s_is_pair [] := ⟨_, _, PySem.W.mg_of X G a6, fund_mk l6 c6 k6 rfl⟩
  have F7 : FunH K mg "is_line" s_is_line [] := ⟨_, _, PySem.W.mg_of X G a7, fund_mk l7 c7 k7 rfl⟩
  have F8 : FunH K mg "need_line" s_need_line [] := ⟨_, _, PySem.W.mg_of X G a8, fund_mk l8 c8 k8 rfl⟩
  have F9 : FunH K mg "need_size" s_need_size [] := ⟨_, _, PySem.W.mg_of X G a9, fund_mk l9 c9 k9 rfl⟩
  have F10 : FunH K mg "need_box" s_need_box [] := ⟨_, _, PySem.W.mg_of X G a10, fund_mk l10 c10 k10 rfl⟩
  have F11 : FunH K mg "need_waves" s_need_waves [] := ⟨_, _, PySem.W.mg_of X G a11, fund_mk l11 c11 k11 rfl⟩
  have F12 : FunH K mg "divisor" s_divisor [] := ⟨_, _, PySem.W.mg_of X G a12, fund_mk l12 c12 k12 rfl⟩
  have F13 : FunH K mg "widest_wave" s_widest_wave [] := ⟨_, _, PySem.W.mg_of X G a13, fund_mk l13 c13 k13 rfl⟩
  have F14 : FunH K mg "_law_right" s__law_right [] := ⟨_, _, PySem.W.mg_of X G a14, fund_mk l14 c14 k14 rfl⟩
  have F15 : FunH K mg "_law_divisor" s__law_divisor [] := ⟨_, _, PySem.W.mg_of X G a15, fund_mk l15 c15 k15 rfl⟩
  have F16 : FunH K mg "_law_turn" s__law_turn [] := ⟨_, _, PySem.W.mg_of X G a16, fund_mk l16 c16 k16 rfl⟩
  have F17 : FunH K mg "_law_times" s__law_times [] := ⟨_, _, PySem.W.mg_of X G a17, fund_mk l17 c17 k17 rfl⟩
  have F18 : FunH K mg "need_number" s_need_number dd_need_number := ⟨_, _, PySem.W.mg_of X G a18, fund_mk l18 c18 k18 d18⟩
  have F19 : FunH K mg "inverse_of" s_inverse_of [] := ⟨_, _, PySem.W.mg_of X G a19, fund_mk l19 c19 k19 rfl⟩
  have F20 : FunH K mg "turns_within" s_turns_within [] := ⟨_, _, PySem.W.mg_of X G a20, fund_mk l20 c20 k20 rfl⟩
  have F21 : FunH K mg "wave_line" s_wave_line [] := ⟨_, _, PySem.W.mg_of X G a21, fund_mk l21 c21 k21 rfl⟩
  have F22 : FunH K mg "wave_size" s_wave_size [] := ⟨_, _, PySem.W.mg_of X G a22, fund_mk l22 c22 k22 rfl⟩
  have F23 : FunH K mg "_law_far_right" s__law_far_right [] := ⟨_, _, PySem.W.mg_of X G a23, fund_mk l23 c23 k23 rfl⟩
  have F24 : FunH K mg "law" s_law [] := ⟨_, _, PySem.W.mg_of X G a24, fund_mk l24 c24 k24 rfl⟩
  refine ⟨PySem.W.fnOf "law" "law" (defArgs s_law) (defBody s_law) (defScope s_law) .none kV24 dc24 pm24 an24 cd24 ct24, fun s v => .of_eq rfl, fun base _ _ => ?_⟩
  obtain ⟨f, fd, m, F, h⟩ := all_ok (P := l.prog) (w := w) (base := base) F0 F1 F2 F3 F4 F5 F6 F7 F8 F9 F10 F11 F12 F13 F14 F15 F16 F17 F18 F19 F20 F21 F22 F23 F24 (PySem.W.mg_none_of X G z_abs) (PySem.W.mg_none_of X G z_int) (PySem.W.mg_none_of X G z_max) (PySem.W.mg_none_of X G z_range) (PySem.W.mg_none_of X G z_isinstance) (PySem.W.mg_none_of X G z_bool) (PySem.W.mg_none_of X G z_tuple) (PySem.W.mg_none_of X G z_len) (PySem.W.mg_none_of X G z_all) (PySem.W.mg_none_of X G z_min) (PySem.W.mg_none_of X G z_repr) (PySem.W.mg_none_of X G z_divmod) (PySem.W.mg_none_of X G z_enumerate) ⟨_, PySem.W.mg_of X G g_MOST_SIZE⟩
  have e := m.symm.trans (PySem.W.mg_of X G a24)
  cases e
  obtain ⟨_, _, _, _, _, _, _, _, _, _, e1, e2, _⟩ := F.ex
  rw [l24] at e2
  cases e2
  exact h

end LD
open PySem PySem.W PyProof.Rows
set_option maxHeartbeats 0 in
theorem PySem.Challenge.cw_storerounds_k52_widest_waves_holds : PySem.Challenge.rw_storerounds_k52_widest_waves.Holds := by
  w_on; o_law; k_head; (case hw => w_witness2)
  k_fill
  refine LD.walk_d (l := PySem.Challenge.rw_storerounds_k52_widest_waves) (n := LD.most) (k := 8) (x := "_law_script") rfl (by decide) rfl ⟨rfl, by decide, by decide⟩ (fun w h Y => PySem.W.kIn_of Y) ?F
  case F =>
    intro w mg fa h KX G hmg
    refine' LD.fin KX G hmg ?a0 ?l0 ?c0 ?k0 ?a1 ?l1 ?c1 ?k1 ?a2 ?l2 ?c2 ?k2 ?a3 ?l3 ?c3 ?k3 ?a4 ?l4 ?c4 ?k4 ?a5 ?l5 ?c5 ?k5 ?d5 ?a6 ?l6 ?c6 ?k6 ?a7 ?l7 ?c7 ?k7 ?a8 ?l8 ?c8 ?k8 ?a9 ?l9 ?c9 ?k9 ?a10 ?l10 ?c10 ?k10 ?a11 ?l11 ?c11 ?k11 ?a12 ?l12 ?c12 ?k12 ?a13 ?l13 ?c13 ?k13 ?a14 ?l14 ?c14 ?k14 ?a15 ?l15 ?c15 ?k15 ?a16 ?l16 ?c16 ?k16 ?a17 ?l17 ?c17 ?k17 ?a18 ?l18 ?c18 ?k18 ?d18 ?a19 ?l19 ?c19 ?k19 ?a20 ?l20 ?c20 ?k20 ?a21 ?l21 ?c21 ?k21 ?a22 ?l22 ?c22 ?k22 ?a23 ?l23 ?c23 ?k23 ?a24 ?l24 ?c24 ?k24 ?z_abs ?z_int ?z_max ?z_range ?z_isinstance ?z_bool ?z_tuple ?z_len ?z_all ?z_min ?z_repr ?z_divmod ?z_enumerate ?g_MOST_SIZE
    (case a0 => k_is)
    (case l0 => k_is)
    (case c0 => k_is)
    (case k0 => k_is)
    (case a1 => k_is)
    (case l1 => k_is)
    (case c1 => k_is)
    (case k1 => k_is)
    (case a2 => k_is)
    (case l2 => k_is)
    (case c2 => k_is)
    (case k2 => k_is)
    (case a3 => k_is)
    (case l3 => k_is)
    (case c3 => k_is)
    (case k3 => k_is)
    (case a4 => k_is)
    (case l4 => k_is)
    (case c4 => k_is)
    (case k4 => k_is)
    (case a5 => k_is)
    (case l5 => k_is)
    (case c5 => k_is)
    (case k5 => k_is)
    (case d5 => rfl)
    (case a6 => k_is)
    (case l6 => k_is)
    (case c6 => k_is)
    (case k6 => k_is)
    (case a7 => k_is)
    (case l7 => k_is)
    (case c7 => k_is)
    (case k7 => k_is)
    (case a8 => k_is)
    (case l8 => k_is)
    (case c8 => k_is)
    (case k8 => k_is)
    (case a9 => k_is)
    (case l9 => k_is)
    (case c9 => k_is)
    (case k9 => k_is)
    (case a10 => k_is)
    (case l10 => k_is)
    (case c10 => k_is)
    (case k10 => k_is)
    (case a11 => k_is)
    (case l11 => k_is)
    (case c11 => k_is)
    (case k11 => k_is)
    (case a12 => k_is)
    (case l12 => k_is)
    (case c12 => k_is)
    (case k12 => k_is)
    (case a13 => k_is)
    (case l13 => k_is)
    (case c13 => k_is)
    (case k13 => k_is)
    (case a14 => k_is)
    (case l14 => k_is)
    (case c14 => k_is)
    (case k14 => k_is)
    (case a15 => k_is)
    (case l15 => k_is)
    (case c15 => k_is)
    (case k15 => k_is)
    (case a16 => k_is)
    (case l16 => k_is)
    (case c16 => k_is)
    (case k16 => k_is)
    (case a17 => k_is)
    (case l17 => k_is)
    (case c17 => k_is)
    (case k17 => k_is)
    (case a18 => k_is)
    (case l18 => k_is)
    (case c18 => k_is)
    (case k18 => k_is)
    (case d18 => rfl)
    (case a19 => k_is)
    (case l19 => k_is)
    (case c19 => k_is)
    (case k19 => k_is)
    (case a20 => k_is)
    (case l20 => k_is)
    (case c20 => k_is)
    (case k20 => k_is)
    (case a21 => k_is)
    (case l21 => k_is)
    (case c21 => k_is)
    (case k21 => k_is)
    (case a22 => k_is)
    (case l22 => k_is)
    (case c22 => k_is)
    (case k22 => k_is)
    (case a23 => k_is)
    (case l23 => k_is)
    (case c23 => k_is)
    (case k23 => k_is)
    (case a24 => k_is)
    (case l24 => k_is)
    (case c24 => k_is)
    (case k24 => k_is)
    (case z_abs => k_is)
    (case z_int => k_is)
    (case z_max => k_is)
    (case z_range => k_is)
    (case z_isinstance => k_is)
    (case z_bool => k_is)
    (case z_tuple => k_is)
    (case z_len => k_is)
    (case z_all => k_is)
    (case z_min => k_is)
    (case z_repr => k_is)
    (case z_divmod => k_is)
    (case z_enumerate => k_is)
    (case g_MOST_SIZE => k_is)
