import PyProof.Rows.All
import PySem.Challenge.RW_storerounds_k35_lists_judged
import HandS.List
import HandS.Comp
import HandS.Dict
import HandS.Iter
import HandS.Wide
import HandS.Deep
import HandS.Style
import HandS.Text
import HandS.Words
import HandS.Defaults
import HandS.IsInst
import HandS.SortRule
import HandS.SortInts
import HandS.Ends
import HandS.Conv
import HandS.HeadHook2
import HandS.NoneIn
import HandS.Star
import KE.DataMinMax
import KE.SortData
set_option Elab.async false
set_option linter.all false
set_option maxRecDepth 100000
namespace LD
open PySem PySem.Spec PyProof.Rows L2
/-! Layer D: values as deep data, over the hand layer's judgements. -/
abbrev St := L2.St

/-- deep data -/
inductive D where
  | non | bl (b : Bool) | int (i : Int) | str (x : Str) | ty (n : String) | ref (a : Addr) | src | scr (ns : List Int)
  | tup (ds : List D) | lst (ds : List D) | dT (kvs : List (List Key × D)) | dK (kvs : List (Key × D)) | ins (C : Addr) (fs : List (Str × D))

/-- the world of what stands still: F the frozen heap, S the sources of draws -/
structure Wd where
  F : Hp
  S : Addr → Prop
structure Wd.le (W W' : Wd) : Prop where
  f : ∀ b o, W.F b = some o → W'.F b = some o
  s : ∀ a, W.S a → W'.S a
theorem Wd.le.refl (W : Wd) : W.le W := ⟨fun _ _ h => h, fun _ h => h⟩
theorem Wd.le.trans {A B C : Wd} (x : A.le B) (y : B.le C) : A.le C := ⟨fun b o h => y.f b o (x.f b o h), fun a h => y.s a (x.s a h)⟩

section
variable (K : PySem.W.Frag) (W : Wd)
mutual
def Rp : D → V → Prop
  | .non, v => v = .non
  | .bl b, v => v = .bl b
  | .int i, v => v = .int i
  | .str x, v => v = .str x
  | .ty n, v => v = .ty n
  | .ref a, v => v = .ref a
  | .src, v => ∃ a, v = .ref a ∧ W.S a
  | .scr ns, v => ∃ a, v = .ref a ∧ SqL K W.F a (ns.map V.int)
  | .tup ds, v => ∃ a xs, v = .ref a ∧ W.F a = some (.tup xs) ∧ RpL ds xs
  | .lst ds, v => ∃ a xs, v = .ref a ∧ W.F a = some (.lst xs) ∧ RpL ds xs
  | .dT es, v => ∃ a kvs, v = .ref a ∧ Rd W.F a (.dT kvs) ∧ RpT es kvs
  | .dK es, v => ∃ a kvs, v = .ref a ∧ Rd W.F a (.dK kvs) ∧ RpK es kvs
  | .ins C fs, v => ∃ a dx gs, v = .ref a ∧ W.F a = some (.ins C dx gs) ∧ RpF fs gs
def RpL : List D → List V → Prop
  | [], vs => vs = []
  | d :: ds, vs => ∃ v r, vs = v :: r ∧ Rp d v ∧ RpL ds r
def RpT : List (List Key × D) → List (List Key × V) → Prop
  | [], vs => vs = []
  | (k, d) :: ds, vs => ∃ v r, vs = (k, v) :: r ∧ Rp d v ∧ RpT ds r
def RpK : List (Key × D) → List (Key × V) → Prop
  | [], vs => vs = []
  | (k, d) :: ds, vs => ∃ v r, vs = (k, v) :: r ∧ Rp d v ∧ RpK ds r
def RpF : List (Str × D) → List (Str × V) → Prop
  | [], vs => vs = []
  | (k, d) :: ds, vs => ∃ v r, vs = (k, v) :: r ∧ Rp d v ∧ RpF ds r
end
end
section
variable {K : PySem.W.Frag} {W W' : Wd}
theorem rd_le (l : W.le W') {a : Addr} {u : HO} (h : Rd W.F a u) : Rd W'.F a u := h.imp (l.f _ _) fun ⟨o, e⟩ => ⟨o, l.f _ _ e⟩
theorem sqL_le (l : W.le W') {a : Addr} {xs : List V} (h : SqL K W.F a xs) : SqL K W'.F a xs := h.imp (rd_le l) fun x => x
theorem sqT_le (l : W.le W') {a : Addr} {xs : List V} (h : SqT K W.F a xs) : SqT K W'.F a xs := h.imp (rd_le l) fun x => x
mutual
theorem Rp.mono (l : W.le W') : ∀ (d : D) (v : V), Rp K W d v → Rp K W' d v
  | .non, _, h => h
  | .bl _, _, h => h
  | .int _, _, h => h
  | .str _, _, h => h
  | .ty _, _, h => h
  | .ref _, _, h => h
  | .src, _, h => by obtain ⟨a, e, h⟩ := h; exact ⟨a, e, l.s a h⟩
  | .tup ds, _, h => by obtain ⟨a, xs, e, s, r⟩ := h; exact ⟨a, xs, e, l.f _ _ s, RpL.mono l ds xs r⟩
  | .scr ns, _, h => by obtain ⟨a, e, s⟩ := h; exact ⟨a, e, sqL_le l s⟩
  | .lst ds, _, h => by obtain ⟨a, xs, e, s, r⟩ := h; exact ⟨a, xs, e, l.f _ _ s, RpL.mono l ds xs r⟩
  | .dT ds, _, h => by obtain ⟨a, xs, e, s, r⟩ := h; exact ⟨a, xs, e, rd_le l s, RpT.mono l ds xs r⟩
  | .dK ds, _, h => by obtain ⟨a, xs, e, s, r⟩ := h; exact ⟨a, xs, e, rd_le l s, RpK.mono l ds xs r⟩
  | .ins C fs, _, h => by obtain ⟨a, dx, xs, e, s, r⟩ := h; exact ⟨a, dx, xs, e, l.f _ _ s, RpF.mono l fs xs r⟩
theorem RpL.mono (l : W.le W') : ∀ (d : List D) (v : List V), RpL K W d v → RpL K W' d v
  | [], _, h => h
  | d :: ds, _, h => by obtain ⟨v, r, e, h, t⟩ := h; exact ⟨v, r, e, Rp.mono l d v h, RpL.mono l ds r t⟩
theorem RpT.mono (l : W.le W') : ∀ (d : List (List Key × D)) (v : List (List Key × V)), RpT K W d v → RpT K W' d v
  | [], _, h => h
  | (_, d) :: ds, _, h => by obtain ⟨v, r, e, h, t⟩ := h; exact ⟨v, r, e, Rp.mono l d v h, RpT.mono l ds r t⟩
theorem RpK.mono (l : W.le W') : ∀ (d : List (Key × D)) (v : List (Key × V)), RpK K W d v → RpK K W' d v
  | [], _, h => h
  | (_, d) :: ds, _, h => by obtain ⟨v, r, e, h, t⟩ := h; exact ⟨v, r, e, Rp.mono l d v h, RpK.mono l ds r t⟩
theorem RpF.mono (l : W.le W') : ∀ (d : List (Str × D)) (v : List (Str × V)), RpF K W d v → RpF K W' d v
  | [], _, h => h
  | (_, d) :: ds, _, h => by obtain ⟨v, r, e, h, t⟩ := h; exact ⟨v, r, e, Rp.mono l d v h, RpF.mono l ds r t⟩
end
end

/-! ### slots, the state -/
/-- what a slot holds: data that stand still, or an object that no one else holds -/
inductive SC where
  | dat (d : D) | own (d : D)
/-- an expression's value: data; the object of the slot i; a new object -/
inductive SV where
  | dat (d : D) | bor (i : Nat) | new (d : D)
/-- the slots, and how many draws there were at most -/
structure Gm where
  sl : List (Option SC)
  c : Nat
def ggl : List (Option SC) → Nat → Option SC
  | [], _ => none
  | x :: _, 0 => x
  | _ :: r, n + 1 => ggl r n
def gsl : List (Option SC) → Nat → Option SC → List (Option SC)
  | [], _, _ => []
  | _ :: r, 0, y => y :: r
  | x :: r, n + 1, y => x :: gsl r n y
def gg (G : Gm) (n : Nat) : Option SC := ggl G.sl n
def gset (G : Gm) (n : Nat) (y : Option SC) : Gm := ⟨gsl G.sl n y, G.c⟩
abbrev Gm.length (G : Gm) : Nat := G.sl.length
def Gm.at (G : Gm) (n : Nat) : Gm := ⟨G.sl, n⟩
theorem gsl_len : ∀ (G : List (Option SC)) (n : Nat) (y : Option SC), (gsl G n y).length = G.length
  | [], _, _ => rfl
  | _ :: _, 0, _ => rfl
  | _ :: r, n + 1, y => congrArg Nat.succ (gsl_len r n y)
theorem ggl_set_self : ∀ (G : List (Option SC)) (n : Nat) (y : Option SC), n < G.length → ggl (gsl G n y) n = y
  | [], _, _, h => absurd h (Nat.not_lt_zero _)
  | _ :: _, 0, _, _ => rfl
  | _ :: r, n + 1, y, h => ggl_set_self r n y (Nat.lt_of_succ_lt_succ h)
theorem ggl_set_ne : ∀ (G : List (Option SC)) (n m : Nat) (y : Option SC), m ≠ n → ggl (gsl G n y) m = ggl G m
  | [], _, _, _, _ => rfl
  | _ :: _, 0, 0, _, h => absurd rfl h
  | _ :: _, 0, _ + 1, _, _ => rfl
  | _ :: _, _ + 1, 0, _, _ => rfl
  | _ :: r, n + 1, m + 1, y, h => ggl_set_ne r n m y fun e => h (congrArg Nat.succ e)
theorem gsl_gsl : ∀ (G : List (Option SC)) (n : Nat) (x y : Option SC), gsl (gsl G n x) n y = gsl G n y
  | [], _, _, _ => rfl
  | _ :: _, 0, _, _ => rfl
  | z :: r, n + 1, x, y => congrArg (z :: ·) (gsl_gsl r n x y)
theorem ggl_lt : ∀ {G : List (Option SC)} {n : Nat} {x : SC}, ggl G n = some x → n < G.length
  | [], _, _, h => by cases h
  | _ :: _, 0, _, _ => Nat.succ_pos _
  | _ :: r, n + 1, _, h => Nat.succ_lt_succ (ggl_lt (G := r) h)
theorem gset_len (G : Gm) (n : Nat) (y : Option SC) : (gset G n y).length = G.length := gsl_len _ _ _
theorem gg_set_self (G : Gm) (n : Nat) (y : Option SC) (h : n < G.length) : gg (gset G n y) n = y := ggl_set_self _ _ _ h
theorem gg_set_ne (G : Gm) (n m : Nat) (y : Option SC) (h : m ≠ n) : gg (gset G n y) m = gg G m := ggl_set_ne _ _ _ _ h
theorem gset_gset (G : Gm) (n : Nat) (x y : Option SC) : gset (gset G n x) n y = gset G n y := by unfold gset; rw [gsl_gsl]
theorem gg_lt {G : Gm} {n : Nat} {x : SC} (h : gg G n = some x) : n < G.length := ggl_lt h

/-- an object of the heap against data -/
def RO (K : PySem.W.Frag) (W : Wd) : HO → D → Prop
  | .lst xs, .lst ds => RpL K W ds xs
  | .dT kvs, .dT es => RpT K W es kvs
  | .dK kvs, .dK es => RpK K W es kvs
  | .ins C _ gs, .ins C' fs => C = C' ∧ RpF K W fs gs
  | _, _ => False
theorem RO.mono {K : PySem.W.Frag} {W W' : Wd} (l : W.le W') {o : HO} {d : D} (h : RO K W o d) : RO K W' o d := by
  cases o <;> cases d <;> first | exact False.elim h | exact RpL.mono l _ _ h | exact RpT.mono l _ _ h | exact RpK.mono l _ _ h | exact ⟨h.1, RpF.mono l _ _ h.2⟩
/-- the object is one that stands in the frozen heap -/
theorem RO.rp {K : PySem.W.Frag} {W : Wd} {p : Addr} {o : HO} {d : D} (e : W.F p = some o) (h : RO K W o d) : Rp K W d (.ref p) := by
  cases o <;> cases d <;> first
    | exact False.elim h
    | exact ⟨p, _, rfl, e, h⟩
    | exact ⟨p, _, rfl, .inl e, h⟩
    | (obtain ⟨rfl, h⟩ := h; exact ⟨p, _, _, rfl, e, h⟩)

/-- what a source holds -/
def SrcOk (H : Hp) (a : Addr) (n : Nat) : Prop := ∃ x y z : Int, H a = some (.lst [.int x, .int y, .int z]) ∧ 0 ≤ y ∧ y < 10 ^ 50 ∧ 0 ≤ z ∧ z ≤ n

/-- an object that is held by no data: of P, the others' ones -/
structure Priv (W : Wd) (H P : Hp) (p : Addr) (o : HO) : Prop where
  at_ : H p = some o
  f : W.F p = none
  s : ¬ W.S p
  n : P p = none

/-- the state: P, the others' objects (they stay), the slots, the heap -/
structure Rl (K : PySem.W.Frag) (W : Wd) (P : Hp) (G : Gm) (σ : St) (H : Hp) : Prop where
  len : G.length = σ.length
  le : ∀ b o, W.F b = some o → H b = some o
  src : ∀ a, W.S a → W.F a = none ∧ P a = none ∧ SrcOk H a G.c
  prot : ∀ p o, P p = some o → H p = some o ∧ W.F p = none
  dat : ∀ i d, gg G i = some (.dat d) → ∃ v, σ[i]? = some (some v) ∧ Rp K W d v
  own : ∀ i d, gg G i = some (.own d) → ∃ p o, σ[i]? = some (some (.ref p)) ∧ Priv W H P p o ∧ RO K W o d
  sep : ∀ i j d e, i ≠ j → gg G i = some (.own d) → gg G j = some (.own e) → σ[i]? ≠ σ[j]?
  pnt : ∀ p xs, P p ≠ some (.tup xs)

/-- a value -/
def RV (K : PySem.W.Frag) (W : Wd) (P : Hp) (G : Gm) (σ : St) (H : Hp) : SV → V → Prop
  | .dat d, v => Rp K W d v
  | .bor i, v => σ[i]? = some (some v) ∧ ∃ d, gg G i = some (.own d)
  | .new d, v => ∃ p o, v = .ref p ∧ Priv W H P p o ∧ RO K W o d ∧ ∀ i e, gg G i = some (.own e) → σ[i]? ≠ some (some (.ref p))

abbrev DQ := SV → Gm → Prop
abbrev DE := Gm → DQ → Prop
/-- the reading of data, as a reading of the hand layer -/
def can (K : PySem.W.Frag) (t : DE) : TE := fun σ H Qv => ∃ W P G Q, Rl K W P G σ H ∧ t G Q ∧
  ∀ W' sv G' v H', W.le W' → Rl K W' P G' σ H' → RV K W' P G' σ H' sv v → Q sv G' → Qv v H'

theorem PE.imp {X : Cx} {e : Expr} {t u : TE} (h : PE X e t) (i : ∀ σ H Q, u σ H Q → t σ H Q) : PE X e u := ⟨fun pins s σ H Q I q => h.run pins s σ H Q I (i σ H Q q)⟩
theorem PT.imp {X : Cx} {e : Expr} {t u : TT} (h : PT X e t) (i : ∀ σ H Q, u σ H Q → t σ H Q) : PT X e u := ⟨fun pins s σ H Q I q => h.run pins s σ H Q I (i σ H Q q)⟩
theorem PS.imp {X : Cx} {e : Stmt} {t u : TS} (h : PS X e t) (i : ∀ D σ H, u D σ H → t D σ H) : PS X e u := ⟨fun pins s σ H D I q => h.run pins s σ H D I (i D σ H q)⟩
theorem PSs.imp {X : Cx} {e : List Stmt} {t u : TS} (h : PSs X e t) (i : ∀ D σ H, u D σ H → t D σ H) : PSs X e u := ⟨fun pins s σ H D I q => h.run pins s σ H D I (i D σ H q)⟩

/-! ### freezing, looking -/
section
variable {K : PySem.W.Frag} {W W' : Wd} {P : Hp} {G : Gm} {σ : St} {H : Hp}
/-- settled: a new object counts as frozen -/
def RS (K : PySem.W.Frag) (W : Wd) (σ : St) : SV → V → Prop
  | .dat d, v => Rp K W d v
  | .bor i, v => σ[i]? = some (some v)
  | .new d, v => Rp K W d v
theorem RS.mono (l : W.le W') {sv : SV} {v : V} (h : RS K W σ sv v) : RS K W' σ sv v := by
  cases sv with
  | dat d => exact Rp.mono l _ _ h
  | bor i => exact h
  | new d => exact Rp.mono l _ _ h
theorem Rl.freeze (R : Rl K W P G σ H) {p : Addr} {o : HO} {d : D} (pr : Priv W H P p o) (r : RO K W o d) (hn : ∀ i e, gg G i = some (.own e) → σ[i]? ≠ some (some (.ref p))) :
    ∃ W', W.le W' ∧ Rl K W' P G σ H ∧ Rp K W' d (.ref p) := by
  have l : W.le ⟨upd W.F p o, W.S⟩ := ⟨fun b u e => by
    by_cases hb : b = p
    · subst hb; rw [pr.f] at e; cases e
    · show upd W.F p o b = _
      rw [upd_ne hb]; exact e, fun _ h => h⟩
  refine ⟨⟨upd W.F p o, W.S⟩, l, ⟨R.len, fun b u e => ?_, fun a h => ?_, fun q u e => ?_, fun i x e => ?_, fun i x e => ?_, R.sep, R.pnt⟩, (r.mono l).rp upd_same⟩
  · have e : upd W.F p o b = some u := e
    by_cases hb : b = p
    · subst hb; rw [upd_same] at e; cases e; exact pr.at_
    · rw [upd_ne hb] at e; exact R.le b u e
  · obtain ⟨h1, h2, h3⟩ := R.src a h
    refine ⟨?_, h2, h3⟩
    show upd W.F p o a = none
    rw [upd_ne (show a ≠ p from fun z => pr.s (by rw [← z]; exact h))]; exact h1
  · obtain ⟨h1, h2⟩ := R.prot q u e
    refine ⟨h1, ?_⟩
    show upd W.F p o q = none
    rw [upd_ne fun z => by subst z; rw [pr.n] at e; cases e]; exact h2
  · obtain ⟨v, h1, h2⟩ := R.dat i x e
    exact ⟨v, h1, Rp.mono l _ _ h2⟩
  · obtain ⟨q, u, h1, h2, h3⟩ := R.own i x e
    refine ⟨q, u, h1, ⟨h2.at_, ?_, h2.s, h2.n⟩, h3.mono l⟩
    show upd W.F p o q = none
    rw [upd_ne (show q ≠ p from fun z => hn i x e (by rw [← z]; exact h1))]; exact h2.f
theorem Rl.settle (R : Rl K W P G σ H) {sv : SV} {v : V} (h : RV K W P G σ H sv v) : ∃ W', W.le W' ∧ Rl K W' P G σ H ∧ RS K W' σ sv v := by
  cases sv with
  | dat d => exact ⟨W, .refl W, R, h⟩
  | bor i => exact ⟨W, .refl W, R, h.1⟩
  | new d =>
    obtain ⟨p, o, rfl, pr, r, hn⟩ := h
    exact R.freeze pr r hn
/-- the whole heap as frozen: for a rule that reads it now -/
def nowW (W : Wd) (H : Hp) : Wd := ⟨H, W.S⟩
theorem Rl.now (R : Rl K W P G σ H) : W.le (nowW W H) := ⟨R.le, fun _ h => h⟩
/-- a value as it stands now: its own object read off the heap, what is in it frozen -/
def RN (K : PySem.W.Frag) (W : Wd) (H : Hp) : D → V → Prop
  | .tup ds, v => ∃ a xs, v = .ref a ∧ H a = some (.tup xs) ∧ RpL K W ds xs
  | .lst ds, v => ∃ a xs, v = .ref a ∧ H a = some (.lst xs) ∧ RpL K W ds xs
  | .scr ns, v => ∃ a, v = .ref a ∧ SqL K H a (ns.map V.int)
  | .dT es, v => ∃ a kvs, v = .ref a ∧ Rd H a (.dT kvs) ∧ RpT K W es kvs
  | .dK es, v => ∃ a kvs, v = .ref a ∧ Rd H a (.dK kvs) ∧ RpK K W es kvs
  | .ins C fs, v => ∃ a dx gs, v = .ref a ∧ H a = some (.ins C dx gs) ∧ RpF K W fs gs
  | d, v => Rp K W d v
theorem Rl.sqL (R : Rl K W P G σ H) {a : Addr} {xs : List V} (h : SqL K W.F a xs) : SqL K H a xs := sqL_le (W' := nowW W H) R.now h
theorem Rl.sqT (R : Rl K W P G σ H) {a : Addr} {xs : List V} (h : SqT K W.F a xs) : SqT K H a xs := sqT_le (W' := nowW W H) R.now h
theorem Rl.rdL (R : Rl K W P G σ H) {a : Addr} {u : HO} (h : Rd W.F a u) : Rd H a u := rd_le (W' := nowW W H) R.now h
theorem Rl.rn (R : Rl K W P G σ H) : ∀ {d : D} {v : V}, Rp K W d v → RN K W H d v
  | .tup _, _, ⟨a, xs, e, s, r⟩ => ⟨a, xs, e, R.le _ _ s, r⟩
  | .lst _, _, ⟨a, xs, e, s, r⟩ => ⟨a, xs, e, R.le _ _ s, r⟩
  | .scr _, _, ⟨a, e, s⟩ => ⟨a, e, R.sqL s⟩
  | .dT _, _, ⟨a, xs, e, s, r⟩ => ⟨a, xs, e, R.rdL s, r⟩
  | .dK _, _, ⟨a, xs, e, s, r⟩ => ⟨a, xs, e, R.rdL s, r⟩
  | .ins _ _, _, ⟨a, dx, xs, e, s, r⟩ => ⟨a, dx, xs, e, R.le _ _ s, r⟩
  | .non, _, h => h
  | .bl _, _, h => h
  | .int _, _, h => h
  | .str _, _, h => h
  | .ty _, _, h => h
  | .ref _, _, h => h
  | .src, _, h => h
theorem Rl.rnow (R : Rl K W P G σ H) : ∀ {d : D} {v : V}, RN K W H d v → Rp K (nowW W H) d v
  | .tup _, _, ⟨a, xs, e, s, r⟩ => ⟨a, xs, e, s, RpL.mono R.now _ _ r⟩
  | .lst _, _, ⟨a, xs, e, s, r⟩ => ⟨a, xs, e, s, RpL.mono R.now _ _ r⟩
  | .scr _, _, ⟨a, e, s⟩ => ⟨a, e, s⟩
  | .dT _, _, ⟨a, xs, e, s, r⟩ => ⟨a, xs, e, s, RpT.mono R.now _ _ r⟩
  | .dK _, _, ⟨a, xs, e, s, r⟩ => ⟨a, xs, e, s, RpK.mono R.now _ _ r⟩
  | .ins _ _, _, ⟨a, dx, xs, e, s, r⟩ => ⟨a, dx, xs, e, s, RpF.mono R.now _ _ r⟩
  | .non, _, h => h
  | .bl _, _, h => h
  | .int _, _, h => h
  | .str _, _, h => h
  | .ty _, _, h => h
  | .ref _, _, h => h
  | .src, _, h => h
theorem RO.rn {p : Addr} {o : HO} {d : D} (e : H p = some o) (h : RO K W o d) : RN K W H d (.ref p) := by
  cases o <;> cases d <;> first
    | exact False.elim h
    | exact ⟨p, _, rfl, e, h⟩
    | exact ⟨p, _, rfl, .inl e, h⟩
    | (obtain ⟨rfl, h⟩ := h; exact ⟨p, _, _, rfl, e, h⟩)
/-- to look at a value for a moment -/
def see (G : Gm) (sv : SV) (k : D → Prop) : Prop :=
  match sv with
  | .dat d => k d
  | .new d => k d
  | .bor i => match gg G i with | some (.own d) => k d | some (.dat d) => k d | none => False
/-- to freeze a value for good -/
def frz (G : Gm) (sv : SV) (k : D → Gm → Prop) : Prop :=
  match sv with
  | .dat d => k d G
  | .new d => k d G
  | .bor i => match gg G i with | some (.own d) => k d (gset G i (some (.dat d))) | some (.dat d) => k d G | none => False
theorem Rl.see (R : Rl K W P G σ H) {sv : SV} {v : V} (h : RS K W σ sv v) {k : D → Prop} (hk : see G sv k) : ∃ d, RN K W H d v ∧ k d := by
  cases sv with
  | dat d => exact ⟨d, R.rn h, hk⟩
  | new d => exact ⟨d, R.rn h, hk⟩
  | bor i =>
    have hv : σ[i]? = some (some v) := h
    have hk : (match gg G i with | some (.own d) => k d | some (.dat d) => k d | none => False) := hk
    cases e : gg G i with
    | none => rw [e] at hk; exact hk.elim
    | some x =>
      rw [e] at hk
      cases x with
      | dat d =>
        obtain ⟨w, h1, h2⟩ := R.dat i d e
        rw [hv] at h1; cases h1
        exact ⟨d, R.rn h2, hk⟩
      | own d =>
        obtain ⟨p, o, h1, h2, h3⟩ := R.own i d e
        rw [hv] at h1; cases h1
        exact ⟨d, h3.rn h2.at_, hk⟩
/-- a slot is forgotten, or an own one counts as frozen -/
theorem Rl.drop (R : Rl K W P G σ H) (i : Nat) : Rl K W P (gset G i none) σ H := by
  refine ⟨by rw [gset_len]; exact R.len, R.le, R.src, R.prot, fun j d e => ?_, fun j d e => ?_, fun j k d e n h1 h2 => ?_, R.pnt⟩
  all_goals
    have key : ∀ {j : Nat} {x : SC}, gg (gset G i none) j = some x → gg G j = some x := fun {j x} e => by
      by_cases hj : j = i
      · subst hj
        have hl : j < G.length := by have := gg_lt e; rwa [gset_len] at this
        rw [gg_set_self _ _ _ hl] at e; cases e
      · rwa [gg_set_ne _ _ _ _ hj] at e
  · exact R.dat j d (key e)
  · exact R.own j d (key e)
  · exact R.sep j k d e n (key h1) (key h2)
theorem Rl.mend (R : Rl K W P G σ H) {i : Nat} {d : D} {v : V} (hv : σ[i]? = some (some v)) (r : Rp K W d v) : Rl K W P (gset G i (some (.dat d))) σ H := by
  have key : ∀ {j : Nat} {x : SC}, gg (gset G i (some (.dat d))) j = some x → (j = i ∧ x = .dat d) ∨ (j ≠ i ∧ gg G j = some x) := fun {j x} e => by
    by_cases hj : j = i
    · subst hj
      have hl : j < G.length := by have := gg_lt e; rwa [gset_len] at this
      rw [gg_set_self _ _ _ hl] at e; cases e; exact .inl ⟨rfl, rfl⟩
    · rw [gg_set_ne _ _ _ _ hj] at e; exact .inr ⟨hj, e⟩
  refine ⟨by rw [gset_len]; exact R.len, R.le, R.src, R.prot, fun j x e => ?_, fun j x e => ?_, fun j k x y n h1 h2 => ?_, R.pnt⟩
  · rcases key e with ⟨hj, e'⟩ | ⟨_, e'⟩
    · cases e'; subst hj; exact ⟨v, hv, r⟩
    · exact R.dat j x e'
  · rcases key e with ⟨hj, e'⟩ | ⟨_, e'⟩
    · cases e'
    · exact R.own j x e'
  · rcases key h1 with ⟨_, e'⟩ | ⟨_, e1⟩
    · cases e'
    · rcases key h2 with ⟨_, e'⟩ | ⟨_, e2⟩
      · cases e'
      · exact R.sep j k x y n e1 e2
theorem Rl.frz (R : Rl K W P G σ H) {sv : SV} {v : V} (h : RV K W P G σ H sv v) {k : D → Gm → Prop} (hk : frz G sv k) : ∃ W' d G', W.le W' ∧ Rl K W' P G' σ H ∧ Rp K W' d v ∧ k d G' := by
  cases sv with
  | dat d => exact ⟨W, d, G, .refl W, R, h, hk⟩
  | new d =>
    obtain ⟨p, o, rfl, pr, r, hn⟩ := h
    obtain ⟨W', l, R', r'⟩ := R.freeze pr r hn
    exact ⟨W', d, G, l, R', r', hk⟩
  | bor i =>
    obtain ⟨hv, _⟩ := h
    have hk : (match gg G i with | some (.own d) => k d (gset G i (some (.dat d))) | some (.dat d) => k d G | none => False) := hk
    cases e : gg G i with
    | none => rw [e] at hk; exact hk.elim
    | some x =>
      rw [e] at hk
      cases x with
      | dat d =>
        obtain ⟨w, h1, h2⟩ := R.dat i d e
        rw [hv] at h1; cases h1
        exact ⟨W, d, G, .refl W, R, h2, hk⟩
      | own d =>
        obtain ⟨p, o, h1, h2, h3⟩ := R.own i d e
        rw [hv] at h1; cases h1
        have R1 := R.drop i
        have hi : i < G.length := gg_lt e
        obtain ⟨W', l, R', r'⟩ := R1.freeze h2 h3 fun j x ej hj => by
          by_cases hji : j = i
          · subst hji; rw [gg_set_self _ _ _ hi] at ej; cases ej
          · rw [gg_set_ne _ _ _ _ hji] at ej
            exact R.sep j i x d hji ej e (hj.trans hv.symm)
        have R2 := R'.mend hv r'
        rw [gset_gset] at R2
        exact ⟨W', d, _, l, R2, r', hk⟩
/-- a new object -/
theorem Rl.alloc (R : Rl K W P G σ H) {p : Addr} {o : HO} {d : D} (hp : H p = none) (r : RO K W o d) : Rl K W P G σ (upd H p o) ∧ RV K W P G σ (upd H p o) (.new d) (.ref p) := by
  have nF : W.F p = none := by
    cases e : W.F p with
    | none => rfl
    | some u => rw [R.le _ _ e] at hp; cases hp
  have nS : ¬ W.S p := fun h => by
    obtain ⟨_, _, x, y, z, e, _⟩ := R.src p h
    rw [hp] at e; cases e
  have nP : P p = none := by
    cases e : P p with
    | none => rfl
    | some u => rw [(R.prot _ _ e).1] at hp; cases hp
  have old : ∀ b u, H b = some u → upd H p o b = some u := fun b u e => by rw [upd_ne (ne_of_none e hp)]; exact e
  refine ⟨⟨R.len, fun b u e => old b u (R.le b u e), fun a h => ?_, fun q u e => ?_, R.dat, fun i x e => ?_, R.sep, R.pnt⟩, p, o, rfl, ⟨upd_same, nF, nS, nP⟩, r, fun i e h1 h2 => ?_⟩
  · obtain ⟨h1, h2, x, y, z, e, h3⟩ := R.src a h
    exact ⟨h1, h2, x, y, z, old _ _ e, h3⟩
  · obtain ⟨h1, h2⟩ := R.prot q u e
    exact ⟨old _ _ h1, h2⟩
  · obtain ⟨q, u, h1, h2, h3⟩ := R.own i x e
    exact ⟨q, u, h1, ⟨old _ _ h2.at_, h2.f, h2.s, h2.n⟩, h3⟩
  · obtain ⟨q, u, h3, h4, _⟩ := R.own i e h1
    rw [h2] at h3; cases h3
    have q := h4.at_
    rw [hp] at q; cases q
/-- .. that never changes -/
theorem Rl.allocT (R : Rl K W P G σ H) {p : Addr} {xs : List V} {ds : List D} (hp : H p = none) (r : RpL K W ds xs) : ∃ W', W.le W' ∧ Rl K W' P G σ (upd H p (.tup xs)) ∧ Rp K W' (.tup ds) (.ref p) := by
  have nF : W.F p = none := by
    cases e : W.F p with
    | none => rfl
    | some u => rw [R.le _ _ e] at hp; cases hp
  have nS : ¬ W.S p := fun h => by
    obtain ⟨_, _, x, y, z, e, _⟩ := R.src p h
    rw [hp] at e; cases e
  have nP : P p = none := by
    cases e : P p with
    | none => rfl
    | some u => rw [(R.prot _ _ e).1] at hp; cases hp
  have old : ∀ b u, H b = some u → upd H p (.tup xs) b = some u := fun b u e => by rw [upd_ne (ne_of_none e hp)]; exact e
  have l : W.le ⟨upd W.F p (.tup xs), W.S⟩ := ⟨fun b u e => by
    show upd W.F p _ b = _
    rw [upd_ne (ne_of_none e nF)]; exact e, fun _ h => h⟩
  refine ⟨⟨upd W.F p (.tup xs), W.S⟩, l, ⟨R.len, fun b u e => ?_, fun a h => ?_, fun q u e => ?_, fun i x e => ?_, fun i x e => ?_, R.sep, R.pnt⟩, p, xs, rfl, upd_same, RpL.mono l _ _ r⟩
  · have e : upd W.F p (.tup xs) b = some u := e
    by_cases hb : b = p
    · subst hb; rw [upd_same] at e ⊢; exact e
    · rw [upd_ne hb] at e ⊢; exact R.le b u e
  · obtain ⟨h1, h2, x, y, z, e, h3⟩ := R.src a h
    refine ⟨?_, h2, x, y, z, old _ _ e, h3⟩
    show upd W.F p _ a = none
    rw [upd_ne (show a ≠ p from fun q => nS (by rw [← q]; exact h))]; exact h1
  · obtain ⟨h1, h2⟩ := R.prot q u e
    refine ⟨old _ _ h1, ?_⟩
    show upd W.F p _ q = none
    rw [upd_ne (ne_of_none h1 hp)]; exact h2
  · obtain ⟨v, h1, h2⟩ := R.dat i x e
    exact ⟨v, h1, Rp.mono l _ _ h2⟩
  · obtain ⟨q, u, h1, h2, h3⟩ := R.own i x e
    refine ⟨q, u, h1, ⟨old _ _ h2.at_, ?_, h2.s, h2.n⟩, h3.mono l⟩
    show upd W.F p _ q = none
    rw [upd_ne (ne_of_none h2.at_ hp)]; exact h2.f
end

/-! ### plain data, as the library tells them -/
mutual
def toPy : D → PyData
  | .bl b => .bool b
  | .int i => .int i
  | .str x => .str x
  | .tup ds => .tuple (toPys ds)
  | .lst ds => .list (toPys ds)
  | .dK es => .dict (toKv es)
  | .scr ns => .list (ns.map PyData.int)
  | _ => .none
def toPys : List D → List PyData
  | [] => []
  | d :: ds => toPy d :: toPys ds
def toKv : List (Key × D) → List (PyData × PyData)
  | [] => []
  | (k, d) :: es => ((match k with | .inl i => PyData.int i | .inr x => PyData.str x), toPy d) :: toKv es
end
def keyPy : Key → PyData
  | .inl i => .int i
  | .inr x => .str x
theorem toKv_cons {k : Key} {d : D} {es : List (Key × D)} : toKv ((k, d) :: es) = (keyPy k, toPy d) :: toKv es := by cases k <;> rfl
/-- data that a text is made of -/
def Pd : Nat → D → Prop
  | 0, d => match d with
    | .non => True
    | .bl _ => True
    | .int _ => True
    | .str _ => True
    | _ => False
  | n + 1, d => match d with
    | .non => True
    | .bl _ => True
    | .int _ => True
    | .str _ => True
    | .tup ds => ∀ d ∈ ds, Pd n d
    | .lst ds => ∀ d ∈ ds, Pd n d
    | .dK es => ∀ e ∈ es, Pd n e.2
    | _ => False
/-- plain: none, bools, ints, texts, lists and tuples of them, so deep at most -/
def Pl : Nat → D → Prop
  | 0, d => match d with
    | .non => True
    | .bl _ => True
    | .int _ => True
    | .str x => PyData.strOk x = true
    | _ => False
  | n + 1, d => match d with
    | .non => True
    | .bl _ => True
    | .int _ => True
    | .str x => PyData.strOk x = true
    | .tup ds => ∀ d ∈ ds, Pl n d
    | .lst ds => ∀ d ∈ ds, Pl n d
    | .scr _ => True
    | _ => False
theorem toPys_map : ∀ ds : List D, toPys ds = ds.map toPy
  | [] => rfl
  | d :: ds => by rw [toPys, toPys_map ds]; rfl
section
variable {K : PySem.W.Frag} {W : Wd} {H : Hp}
theorem dp_all : ∀ {ds : List D} {xs : List V}, (∀ d ∈ ds, ∀ v, Rp K ⟨H, W.S⟩ d v → Dp K H v (toPy d)) → RpL K ⟨H, W.S⟩ ds xs → DpAll K H xs (toPys ds)
  | [], _, _, h => by
    have h : _ = [] := h
    subst h; exact .nil
  | d :: ds, _, f, h => by
    obtain ⟨v, r, e, h1, h2⟩ := h
    subst e
    exact .cons (f d List.mem_cons_self v h1) (dp_all (fun x hx => f x (List.mem_cons_of_mem _ hx)) h2)
theorem toPys_ints (ns : List Int) : toPys (ns.map D.int) = ns.map PyData.int := by
  rw [toPys_map, List.map_map]
  exact List.map_congr_left fun i _ => by rw [Function.comp, toPy]
theorem RpL.ofInts {W : Wd} : ∀ (ns : List Int), RpL K W (ns.map D.int) (ns.map V.int)
  | [] => rfl
  | n :: ns => ⟨.int n, _, rfl, rfl, RpL.ofInts ns⟩
theorem Pl.dp {n : Nat} : ∀ {d : D} {v : V}, Pl n d → Rp K ⟨H, W.S⟩ d v → Dp K H v (toPy d) := by
  induction n with
  | zero =>
    intro d v p h
    cases d with
    | non => obtain rfl : v = .non := h; exact .non
    | bl b => obtain rfl : v = .bl b := h; exact .bl b
    | int b => obtain rfl : v = .int b := h; exact .int b
    | str b => obtain rfl : v = .str b := h; exact .str b
    | _ => exact False.elim p
  | succ n ih =>
    intro d v p h
    cases d with
    | non => obtain rfl : v = .non := h; exact .non
    | bl b => obtain rfl : v = .bl b := h; exact .bl b
    | int b => obtain rfl : v = .int b := h; exact .int b
    | str b => obtain rfl : v = .str b := h; exact .str b
    | tup ds =>
      obtain ⟨a, xs, rfl, s, r⟩ := h
      exact .tup (.of s) (dp_all (fun d hd v h => ih (p d hd) h) r)
    | lst ds =>
      obtain ⟨a, xs, rfl, s, r⟩ := h
      exact .lst (.inl (.inl s)) (dp_all (fun d hd v h => ih (p d hd) h) r)
    | scr ns =>
      obtain ⟨a, rfl, s⟩ := h
      rw [toPy, ← toPys_ints]
      exact .lst s (dp_all (W := W) (fun d hd v h => by obtain ⟨i, _, rfl⟩ := List.mem_map.mp hd; obtain rfl : v = .int i := h; exact .int i) (RpL.ofInts ns))
    | _ => exact False.elim p
theorem lay_all : ∀ {ds : List D}, (∀ d ∈ ds, (toPy d).canLay0 = true) → PyData.canLayAll0 (toPys ds) = true
  | [], _ => by simp [toPys, PyData.canLayAll0]
  | d :: ds, f => by
    simp only [toPys, PyData.canLayAll0, Bool.and_eq_true]
    exact ⟨f d List.mem_cons_self, lay_all fun x hx => f x (List.mem_cons_of_mem _ hx)⟩
theorem Pl.lay {n : Nat} : ∀ {d : D}, Pl n d → (toPy d).canLay0 = true := by
  induction n with
  | zero => intro d p; cases d <;> first | exact False.elim p | (simp [toPy, PyData.canLay0]; done) | (simp only [toPy, PyData.canLay0]; exact p)
  | succ n ih =>
    intro d p
    cases d <;> first
      | exact False.elim p
      | (simp [toPy, PyData.canLay0]; done)
      | (simp only [toPy, PyData.canLay0]; exact p)
      | (simp only [toPy, PyData.canLay0]; exact lay_all fun d hd => ih (p d hd))
      | (rw [toPy, ← toPys_ints]; simp only [PyData.canLay0]; exact lay_all fun d hd => by obtain ⟨i, _, rfl⟩ := List.mem_map.mp hd; simp [toPy, PyData.canLay0])
theorem depth_all {n : Nat} : ∀ {ds : List D}, (∀ d ∈ ds, (toPy d).depth ≤ n) → PyData.depthAll (toPys ds) ≤ n
  | [], _ => by simp [toPys, PyData.depthAll]
  | d :: ds, f => by
    have h1 := f d List.mem_cons_self
    have h2 := depth_all (n := n) fun x hx => f x (List.mem_cons_of_mem _ hx)
    simp only [toPys, PyData.depthAll]
    omega
theorem Pl.depth {n : Nat} : ∀ {d : D}, Pl n d → (toPy d).depth ≤ n + 1 := by
  induction n with
  | zero => intro d p; cases d <;> first | exact False.elim p | simp [toPy, PyData.depth]
  | succ n ih =>
    intro d p
    cases d with
    | tup ds =>
      have := depth_all (n := n + 1) fun d hd => ih (p d hd)
      simp only [toPy, PyData.depth]; omega
    | lst ds =>
      have := depth_all (n := n + 1) fun d hd => ih (p d hd)
      simp only [toPy, PyData.depth]; omega
    | scr ns =>
      have := depth_all (n := 1) (ds := ns.map D.int) fun d hd => by obtain ⟨i, _, rfl⟩ := List.mem_map.mp hd; simp [toPy, PyData.depth]
      rw [toPy, ← toPys_ints]
      simp only [PyData.depth]
      omega
    | _ => first | exact False.elim p | simp [toPy, PyData.depth]
theorem Pl.shaped {n : Nat} {d : D} (h : Pl n d) (hn : n ≤ 60) : SeqAt.shaped (toPy d) = true := by
  unfold SeqAt.shaped
  rw [h.lay, Bool.true_and, decide_eq_true_eq]
  have := h.depth
  omega
end

/-! ### operations on data -/
theorem OpR.imp {X : Cx} {f : Value → Value → Sem Value} {r r' : R2} (h : OpR X f r) (i : ∀ x y H Q, r' x y H Q → r x y H Q) : OpR X f r' :=
  fun pins s σ H x y v u Q I rx ry q => h pins s σ H x y v u Q I rx ry (i x y H Q q)
theorem UnR.imp {X : Cx} {f : Value → Sem Value} {r r' : V → Hp → VK → Prop} (h : UnR X f r) (i : ∀ x H Q, r' x H Q → r x H Q) : UnR X f r' :=
  fun pins s σ H x v Q I rx q => h pins s σ H x v Q I rx (i x H Q q)
theorem CallR.imp {X : Cx} {f : Value} {r r' : List V → Hp → VK → Prop} (h : CallR X f r) (i : ∀ x H Q, r' x H Q → r x H Q) : CallR X f r' :=
  fun pins s σ H x v Q I rx q => h pins s σ H x v Q I rx (i x H Q q)

abbrev D2 := D → D → (SV → Prop) → Prop
abbrev D1 := D → (SV → Prop) → Prop
/-- what is wanted of a result -/
def Rs (K : PySem.W.Frag) (W : Wd) (P : Hp) (G : Gm) (σ : St) (Q : SV → Prop) (Qv : VK) : Prop :=
  ∀ W' sv v H', W.le W' → Rl K W' P G σ H' → RV K W' P G σ H' sv v → Q sv → Qv v H'
def canO (K : PySem.W.Frag) (t : D2) : R2 := fun x y H Qv => ∃ W P G σ a b Q, Rl K W P G σ H ∧ RN K W H a x ∧ RN K W H b y ∧ t a b Q ∧ Rs K W P G σ Q Qv
def canU (K : PySem.W.Frag) (t : D1) : V → Hp → VK → Prop := fun x H Qv => ∃ W P G σ a Q, Rl K W P G σ H ∧ RN K W H a x ∧ t a Q ∧ Rs K W P G σ Q Qv
section
variable {X : Cx} {K : PySem.W.Frag} {W : Wd} {P : Hp} {G : Gm} {σ : St} {H : Hp}
/-- a result that leaves the heap -/
theorem Rs.dat {Q : SV → Prop} {Qv : VK} (r : Rs K W P G σ Q Qv) (R : Rl K W P G σ H) {d : D} {v : V} (h : Rp K W d v) (q : Q (.dat d)) : Qv v H := r W (.dat d) v H (.refl W) R h q
theorem Rs.int {Q : SV → Prop} {Qv : VK} (r : Rs K W P G σ Q Qv) (R : Rl K W P G σ H) {i : Int} (q : Q (.dat (.int i))) : Qv (.int i) H := r.dat R (d := .int i) rfl q
theorem Rs.bl {Q : SV → Prop} {Qv : VK} (r : Rs K W P G σ Q Qv) (R : Rl K W P G σ H) {i : Bool} (q : Q (.dat (.bl i))) : Qv (.bl i) H := r.dat R (d := .bl i) rfl q
theorem Rs.str {Q : SV → Prop} {Qv : VK} (r : Rs K W P G σ Q Qv) (R : Rl K W P G σ H) {i : Str} (q : Q (.dat (.str i))) : Qv (.str i) H := r.dat R (d := .str i) rfl q
theorem Rs.new {Q : SV → Prop} {Qv : VK} (r : Rs K W P G σ Q Qv) (R : Rl K W P G σ H) {d : D} {o : HO} {p : Addr} (hp : H p = none) (h : RO K W o d) (q : Q (.new d)) : Qv (.ref p) (upd H p o) :=
  r W (.new d) _ _ (.refl W) (R.alloc hp h).1 (R.alloc hp h).2 q
theorem Rs.newT {Q : SV → Prop} {Qv : VK} (r : Rs K W P G σ Q Qv) (R : Rl K W P G σ H) {ds : List D} {xs : List V} {p : Addr} (hp : H p = none) (h : RpL K W ds xs) (q : Q (.dat (.tup ds))) : Qv (.ref p) (upd H p (.tup xs)) := by
  obtain ⟨W', l, R', r'⟩ := R.allocT hp h
  exact r W' (.dat (.tup ds)) _ _ l R' r' q
theorem RpL.append : ∀ {a b : List D} {x y : List V}, RpL K W a x → RpL K W b y → RpL K W (a ++ b) (x ++ y)
  | [], _, _, _, h, g => by obtain rfl : _ = [] := h; exact g
  | d :: ds, _, _, _, h, g => by
    obtain ⟨v, r, rfl, h1, h2⟩ := h
    exact ⟨v, r ++ _, rfl, h1, RpL.append h2 g⟩
theorem RpL.length : ∀ {a : List D} {x : List V}, RpL K W a x → x.length = a.length
  | [], _, h => by obtain rfl : _ = [] := h; rfl
  | d :: ds, _, h => by obtain ⟨v, r, rfl, h1, h2⟩ := h; exact congrArg Nat.succ (RpL.length h2)
theorem RpL.get : ∀ {a : List D} {x : List V} {i : Nat} {d : D}, RpL K W a x → a[i]? = some d → ∃ v, x[i]? = some v ∧ Rp K W d v
  | d :: ds, _, 0, _, h, e => by
    obtain ⟨v, r, rfl, h1, h2⟩ := h
    cases e
    exact ⟨v, rfl, h1⟩
  | d :: ds, _, i + 1, _, h, e => by
    obtain ⟨v, r, rfl, h1, h2⟩ := h
    obtain ⟨w, e1, e2⟩ := RpL.get (i := i) h2 e
    exact ⟨w, e1, e2⟩
theorem RpL.drop : ∀ {a : List D} {x : List V} (n : Nat), RpL K W a x → RpL K W (a.drop n) (x.drop n)
  | _, _, 0, h => h
  | [], _, n + 1, h => by obtain rfl : _ = [] := h; exact rfl
  | d :: ds, _, n + 1, h => by obtain ⟨v, r, rfl, h1, h2⟩ := h; exact RpL.drop n h2
theorem RpL.take : ∀ {a : List D} {x : List V} (n : Nat), RpL K W a x → RpL K W (a.take n) (x.take n)
  | _, _, 0, h => rfl
  | [], _, n + 1, h => by obtain rfl : _ = [] := h; exact rfl
  | d :: ds, _, n + 1, h => by obtain ⟨v, r, rfl, h1, h2⟩ := h; exact ⟨v, r.take n, rfl, h1, RpL.take n h2⟩
theorem RpL.ints : ∀ {ns : List Int} {x : List V}, RpL K W (ns.map D.int) x → x = ns.map V.int
  | [], _, h => h
  | n :: ns, _, h => by obtain ⟨v, r, rfl, h1, h2⟩ := h; obtain rfl : v = .int n := h1; rw [RpL.ints h2]; rfl
theorem RpL.bls : ∀ {ns : List Bool} {x : List V}, RpL K W (ns.map D.bl) x → x = ns.map V.bl
  | [], _, h => h
  | n :: ns, _, h => by obtain ⟨v, r, rfl, h1, h2⟩ := h; obtain rfl : v = .bl n := h1; rw [RpL.bls h2]; rfl
theorem RpL.rep : ∀ (n : Nat) {a : List D} {x : List V}, RpL K W a x → RpL K W (List.replicate n a).flatten (List.replicate n x).flatten
  | 0, _, _, _ => rfl
  | n + 1, _, _, h => by
    rw [List.replicate_succ, List.replicate_succ, List.flatten_cons, List.flatten_cons]
    exact RpL.append h (RpL.rep n h)

/-! the sum: ints, texts, lists, tuples -/
def dAdd : D2
  | .int i, .int j, Q => Q (.dat (.int (i + j)))
  | .int i, .bl k, Q => Q (.dat (.int (i + b2i k)))
  | .str x, .str y, Q => x.length + y.length ≤ sizeLine ∧ Q (.dat (.str (x ++ y)))
  | .lst a, .lst b, Q => a.length + b.length ≤ sizeLine ∧ Q (.new (.lst (a ++ b)))
  | .scr ns, .lst b, Q => ns.length + b.length ≤ sizeLine ∧ Q (.new (.lst (ns.map D.int ++ b)))
  | .tup a, .tup b, Q => a ≠ [] ∧ b ≠ [] ∧ a.length + b.length ≤ sizeLine ∧ Q (.dat (.tup (a ++ b)))
  | _, _, _ => False
/-- xs + ys, lists that may be locked or the module's -/
def rCatL (K : PySem.W.Frag) : R2 := fun x y H Q => ∃ l b xs zs, x = .ref l ∧ y = .ref b ∧ SqL K H l xs ∧ SqL K H b zs ∧ xs.length + zs.length ≤ sizeLine ∧ ∀ p, H p = none → Q (.ref p) (upd H p (.lst (xs ++ zs)))
theorem op_catL : OpR X (binaryOp .Add) (rCatL X.K) := by
  intro pins s σ H x y v u Q I rx ry ⟨l, b, xs, zs, e1, e2, h1, h2, hz, q⟩
  subst e1 e2
  cases rx
  cases ry
  obtain ⟨its, r, o1, _⟩ := I.list h1
  obtain ⟨its2, r2, o2, _⟩ := I.list h2
  have hl := r.length
  have hl2 := r2.length
  obtain ⟨⟨c1, d1, data1, sl1⟩, n1, g1, k1, j1, q1⟩ := o1
  obtain ⟨⟨c2, d2, data2, sl2⟩, n2, g2, k2, j2, q2⟩ := o2
  simp only at k1 j1 q1 k2 j2 q2
  subst k1 j1 q1 k2 j2 q2
  have hsz : its.toArray.size + its2.toArray.size ≤ sizeLine := by rw [List.size_toArray, List.size_toArray]; omega
  refine concat_meets ⟨_, g1, rfl⟩ ⟨_, g2, rfl⟩ noFill_list_add seq_list_add PySem.F.slot_list_add PySem.F.entry_list_add (PySem.F.args_list_add_2 _ _)
    (list_addW l b _ _ n1 n2 none none sl1 sl2 hsz) ⟨g1, g2, ?_⟩
  rw [show its.toArray ++ its2.toArray = (its ++ its2).toArray by simp]
  exact ⟨.ref _, _, I.lnew (t' := s.toks) (r.append r2) (by rw [List.length_append]; omega), rfl, q _ I.fresh⟩
theorem od_add : OpR X (binaryOp .Add) (canO X.K dAdd) := by
  refine OpR.imp (OpR.or (OpR.or (OpR.or op_add op_add_ib) op_add_str) (OpR.or op_catL op_catT)) ?_
  rintro x y H Qv ⟨W, P, G, σ, a, b, Q, R, ha, hb, t, r⟩
  cases a with
  | int i =>
    obtain rfl : x = .int i := ha
    cases b with
    | int j => obtain rfl : y = .int j := hb; exact .inl (.inl (.inl ⟨i, j, rfl, rfl, r.int R t⟩))
    | bl j => obtain rfl : y = .bl j := hb; exact .inl (.inl (.inr ⟨i, j, rfl, rfl, r.int R t⟩))
    | _ => exact False.elim t
  | str i =>
    obtain rfl : x = .str i := ha
    cases b with
    | str j => obtain rfl : y = .str j := hb; exact .inl (.inr ⟨i, j, rfl, rfl, t.1, r.str R t.2⟩)
    | _ => exact False.elim t
  | lst i =>
    obtain ⟨p, xs, rfl, s1, r1⟩ := ha
    cases b with
    | lst j =>
      obtain ⟨q, ys, rfl, s2, r2⟩ := hb
      obtain ⟨hl, t⟩ := t
      exact .inr (.inl ⟨p, q, xs, ys, rfl, rfl, .of s1, .of s2, by rw [r1.length, r2.length]; exact hl, fun z hz => r.new R hz (d := .lst (i ++ j)) (o := .lst _) (RpL.append r1 r2) t⟩)
    | _ => exact False.elim t
  | scr i =>
    obtain ⟨p, rfl, s1⟩ := ha
    cases b with
    | lst j =>
      obtain ⟨q, ys, rfl, s2, r2⟩ := hb
      obtain ⟨hl, t⟩ := t
      exact .inr (.inl ⟨p, q, _, ys, rfl, rfl, s1, .of s2, by rw [List.length_map, r2.length]; exact hl, fun z hz => r.new R hz (d := .lst (i.map D.int ++ j)) (o := .lst _) (RpL.append (RpL.ofInts i) r2) t⟩)
    | _ => exact False.elim t
  | tup i =>
    obtain ⟨p, xs, rfl, s1, r1⟩ := ha
    cases b with
    | tup j =>
      obtain ⟨q, ys, rfl, s2, r2⟩ := hb
      obtain ⟨hn, hn2, hl, t⟩ := t
      have l1 := r1.length
      have l2 := r2.length
      refine .inr (.inr ⟨p, q, xs, ys, rfl, rfl, .of s1, .of s2, fun e => ?_, by rw [r1.length, r2.length]; exact hl, fun e => ?_, fun _ z hz => r.newT R hz (r1.append r2) t⟩)
      · subst e; exact hn (List.length_eq_zero_iff.mp l1.symm)
      · subst e; exact absurd (List.length_eq_zero_iff.mp l2.symm) hn2
    | _ => exact False.elim t
  | _ => exact False.elim t

def dSub : D2
  | .int i, .int j, Q => Q (.dat (.int (i - j)))
  | _, _, _ => False
theorem od_sub : OpR X (binaryOp .Sub) (canO X.K dSub) := by
  refine OpR.imp (op_sub (X := X)) ?_
  rintro x y H Qv ⟨W, P, G, σ, a, b, Q, R, ha, hb, t, r⟩
  cases a <;> first | exact False.elim t | skip
  rename_i i
  obtain rfl : x = .int i := ha
  cases b <;> first | exact False.elim t | skip
  rename_i j
  obtain rfl : y = .int j := hb
  exact ⟨i, j, rfl, rfl, r.int R t⟩
def dMul : D2
  | .int i, .int j, Q => CMulW i j ∧ Q (.dat (.int (i * j)))
  | .lst a, .int k, Q => k < 2 ^ 62 ∧ -(2 ^ 62) < k ∧ a.length * k.toNat ≤ sizeLine ∧ Q (.new (.lst (List.replicate k.toNat a).flatten))
  | .str a, .int k, Q => False
  | _, _, _ => False
theorem od_mul : OpR X (binaryOp .Mult) (canO X.K dMul) := by
  refine OpR.imp (OpR.or (op_mulW (X := X)) op_rep) ?_
  rintro x y H Qv ⟨W, P, G, σ, a, b, Q, R, ha, hb, t, r⟩
  cases a <;> first | exact False.elim t | skip
  · rename_i i
    obtain rfl : x = .int i := ha
    cases b <;> first | exact False.elim t | skip
    rename_i j
    obtain rfl : y = .int j := hb
    exact .inl ⟨i, j, rfl, rfl, t.1, r.int R t.2⟩
  · cases b <;> exact False.elim t
  · rename_i i
    obtain ⟨p, xs, rfl, s1, r1⟩ := ha
    cases b <;> first | exact False.elim t | skip
    rename_i j
    obtain rfl : y = .int j := hb
    obtain ⟨h1, h2, h3, t⟩ := t
    exact .inr ⟨p, j, xs, rfl, rfl, s1, by omega, by omega, by rw [r1.length]; exact h3, fun z hz => r.new R hz (d := .lst _) (o := .lst _) (RpL.rep _ r1) t⟩

def dFdv : D2
  | .int i, .int j, Q => j ≠ 0 ∧ j.natAbs.log2 < 9000 ∧ Q (.dat (.int (i.fdiv j)))
  | _, _, _ => False
theorem od_fdv : OpR X (binaryOp .FloorDiv) (canO X.K dFdv) := by
  refine OpR.imp (opI (C := fun _ j => j ≠ 0 ∧ j.natAbs.log2 < 9000) (g := fun i j => i.fdiv j) fun i j t u s Q E hc q => floordiv_int hc.1 q (.inl (PyProof.noPylong_of_log2 hc.2))) ?_
  rintro x y H Qv ⟨W, P, G, σ, a, b, Q, R, ha, hb, t, r⟩
  cases a <;> first | exact False.elim t | skip
  rename_i i
  obtain rfl : x = .int i := ha
  cases b <;> first | exact False.elim t | skip
  rename_i j
  obtain rfl : y = .int j := hb
  exact ⟨i, j, rfl, rfl, ⟨t.1, t.2.1⟩, r.int R t.2.2⟩
def dMod : D2
  | .int i, .int j, Q => j ≠ 0 ∧ Q (.dat (.int (i.fmod j)))
  | _, _, _ => False
theorem od_mod : OpR X (binaryOp .Mod) (canO X.K dMod) := by
  refine OpR.imp (op_modN (X := X)) ?_
  rintro x y H Qv ⟨W, P, G, σ, a, b, Q, R, ha, hb, t, r⟩
  cases a <;> first | exact False.elim t | skip
  rename_i i
  obtain rfl : x = .int i := ha
  cases b <;> first | exact False.elim t | skip
  rename_i j
  obtain rfl : y = .int j := hb
  exact ⟨i, j, rfl, rfl, t.1, r.int R t.2⟩
def dPow : D2
  | .int i, .int j, Q => 0 ≤ j ∧ (Builtin.Int.intBits i : Int) * j ≤ 2 ^ 27 ∧ Q (.dat (.int (i ^ j.toNat)))
  | _, _, _ => False
theorem od_pow : OpR X (binaryOp .Pow) (canO X.K dPow) := by
  refine OpR.imp (opI (C := fun i j => 0 ≤ j ∧ (Builtin.Int.intBits i : Int) * j ≤ 2 ^ 27) (g := fun i j => i ^ j.toNat) fun i j t u s Q E hc q => pow_int hc.1 hc.2 q) ?_
  rintro x y H Qv ⟨W, P, G, σ, a, b, Q, R, ha, hb, t, r⟩
  cases a <;> first | exact False.elim t | skip
  rename_i i
  obtain rfl : x = .int i := ha
  cases b <;> first | exact False.elim t | skip
  rename_i j
  obtain rfl : y = .int j := hb
  exact ⟨i, j, rfl, rfl, ⟨t.1, t.2.1⟩, r.int R t.2.2⟩
def dNeg : D1
  | .int i, Q => Q (.dat (.int (-i)))
  | _, _ => False
theorem ud_neg : UnR X (unaryOp .USub) (canU X.K dNeg) := by
  refine UnR.imp (un_neg (X := X)) ?_
  rintro x H Qv ⟨W, P, G, σ, a, Q, R, ha, t, r⟩
  cases a <;> first | exact False.elim t | skip
  rename_i i
  obtain rfl : x = .int i := ha
  exact ⟨i, rfl, r.int R t⟩

/-! comparisons -/
def dCmp (p : Int → Int → Bool) : D2
  | .int i, .int j, Q => Q (.dat (.bl (p i j)))
  | _, _, _ => False
theorem od_cmp {f : Value → Value → Sem Value} {p : Int → Int → Bool} (h : OpR X f (rI0 fun i j => .bl (p i j))) : OpR X f (canO X.K (dCmp p)) := by
  refine OpR.imp h ?_
  rintro x y H Qv ⟨W, P, G, σ, a, b, Q, R, ha, hb, t, r⟩
  cases a <;> first | exact False.elim t | skip
  rename_i i
  obtain rfl : x = .int i := ha
  cases b <;> first | exact False.elim t | skip
  rename_i j
  obtain rfl : y = .int j := hb
  exact ⟨i, j, rfl, rfl, r.bl R t⟩
abbrev dLt := dCmp fun i j => decide (i < j)
abbrev dLe := dCmp fun i j => decide (i ≤ j)
abbrev dGt := dCmp fun i j => decide (j < i)
abbrev dGe := dCmp fun i j => decide (j ≤ i)
theorem od_lt : OpR X (compareOp .Lt) (canO X.K dLt) := od_cmp op_lt
theorem od_le : OpR X (compareOp .LtE) (canO X.K dLe) := od_cmp op_le
theorem od_gt : OpR X (compareOp .Gt) (canO X.K dGt) := od_cmp op_gt
theorem od_ge : OpR X (compareOp .GtE) (canO X.K dGe) := od_cmp op_ge
def eqD (a b : D) : Bool := PyData.eqv (toPy a) (toPy b)
/-- two texts -/
def strsD (a b : D) : Option (Str × Str) := match a with
  | .str x => match b with
    | .str y => some (x, y)
    | _ => none
  | _ => none
theorem strsD_of {a b : D} {p : Str × Str} (h : strsD a b = some p) : a = .str p.1 ∧ b = .str p.2 := by
  unfold strsD at h
  split at h
  · split at h
    · cases h; exact ⟨rfl, rfl⟩
    · cases h
  · cases h
def eqQ (a b : D) (k : Bool → Prop) : Prop := match strsD a b with
  | some p => k (decide (p.1 = p.2))
  | none => Pl 20 a ∧ Pl 20 b ∧ k (eqD a b)
def dEq : D2 := fun a b Q => eqQ a b fun c => Q (.dat (.bl c))
def dNe : D2 := fun a b Q => eqQ a b fun c => Q (.dat (.bl (!c)))
theorem dec_vstr {x y : Str} : decide (V.str x = V.str y) = decide (x = y) := by
  by_cases h : x = y
  · subst h; simp
  · rw [decide_eq_false h, decide_eq_false fun z => h (V.str.inj z)]
theorem od_eq (hu : X.A.units + 64 < cLine) : OpR X (compareOp .Eq) (canO X.K dEq) := by
  refine OpR.imp (OpR.or (op_eqD hu) (op_eq (X := X))) ?_
  rintro x y H Qv ⟨W, P, G, σ, a, b, Q, R, ha, hb, t, r⟩
  have t : eqQ a b fun c => Q (.dat (.bl c)) := t
  unfold eqQ at t
  split at t
  · rename_i p e
    obtain ⟨rfl, rfl⟩ := strsD_of e
    obtain rfl : x = .str p.1 := ha
    obtain rfl : y = .str p.2 := hb
    exact .inr ⟨rfl, by rw [dec_vstr]; exact r.bl R t⟩
  · obtain ⟨pa, pb, t⟩ := t
    exact .inl ⟨_, _, pa.dp (W := W) (R.rnow ha), pb.dp (W := W) (R.rnow hb), pa.shaped (by decide), pb.shaped (by decide), r.bl R t⟩
theorem od_ne (hu : X.A.units + 64 < cLine) : OpR X (compareOp .NotEq) (canO X.K dNe) := by
  refine OpR.imp (OpR.or (op_neD hu) (op_ne (X := X))) ?_
  rintro x y H Qv ⟨W, P, G, σ, a, b, Q, R, ha, hb, t, r⟩
  have t : eqQ a b fun c => Q (.dat (.bl (!c))) := t
  unfold eqQ at t
  split at t
  · rename_i p e
    obtain ⟨rfl, rfl⟩ := strsD_of e
    obtain rfl : x = .str p.1 := ha
    obtain rfl : y = .str p.2 := hb
    exact .inr ⟨rfl, by rw [dec_vstr]; exact r.bl R t⟩
  · obtain ⟨pa, pb, t⟩ := t
    exact .inl ⟨_, _, pa.dp (W := W) (R.rnow ha), pb.dp (W := W) (R.rnow hb), pa.shaped (by decide), pb.shaped (by decide), r.bl R t⟩
def isNon : D → Bool
  | .non => true
  | _ => false
theorem isNon_iff {d : D} {v : V} (h : RN K W H d v) : decide (v = .non) = isNon d := by
  cases d with
  | non => obtain rfl : v = .non := h; rfl
  | bl b => obtain rfl : v = .bl b := h; rfl
  | int b => obtain rfl : v = .int b := h; rfl
  | str b => obtain rfl : v = .str b := h; rfl
  | ty b => obtain rfl : v = .ty b := h; rfl
  | ref b => obtain rfl : v = .ref b := h; rfl
  | src => obtain ⟨a, rfl, _⟩ := h; rfl
  | scr _ => obtain ⟨a, rfl, _⟩ := h; rfl
  | tup _ => obtain ⟨a, _, rfl, _⟩ := h; rfl
  | lst _ => obtain ⟨a, _, rfl, _⟩ := h; rfl
  | dT _ => obtain ⟨a, _, rfl, _⟩ := h; rfl
  | dK _ => obtain ⟨a, _, rfl, _⟩ := h; rfl
  | ins _ _ => obtain ⟨a, _, _, rfl, _⟩ := h; rfl
def dIs : D2 := fun a b Q => match b with
  | .non => Q (.dat (.bl (isNon a)))
  | .bl y => match a with
    | .bl x => Q (.dat (.bl (decide (x = y))))
    | _ => False
  | _ => False
def dIsn : D2 := fun a b Q => match b with
  | .non => Q (.dat (.bl (!isNon a)))
  | .bl y => match a with
    | .bl x => Q (.dat (.bl (!decide (x = y))))
    | _ => False
  | _ => False
theorem od_is : OpR X (compareOp .Is) (canO X.K dIs) := by
  refine OpR.imp (OpR.or (op_isN (X := X)) (op_isBl (X := X))) ?_
  rintro x y H Qv ⟨W, P, G, σ, a, b, Q, R, ha, hb, t, r⟩
  cases b <;> first | exact False.elim t | skip
  · exact .inl ⟨hb, by rw [isNon_iff ha]; exact r.bl R t⟩
  · cases a <;> first | exact False.elim t | skip
    exact .inr ⟨_, _, ha, hb, r.bl R t⟩
theorem od_isn : OpR X (compareOp .IsNot) (canO X.K dIsn) := by
  refine OpR.imp (OpR.or (op_notN (X := X)) (op_notBl (X := X))) ?_
  rintro x y H Qv ⟨W, P, G, σ, a, b, Q, R, ha, hb, t, r⟩
  cases b <;> first | exact False.elim t | skip
  · exact .inl ⟨hb, by rw [isNon_iff ha]; exact r.bl R t⟩
  · cases a <;> first | exact False.elim t | skip
    exact .inr ⟨_, _, ha, hb, r.bl R t⟩
end

section
variable {X : Cx} {K : PySem.W.Frag} {W : Wd} {P : Hp} {G : Gm} {σ : St} {H : Hp}
def flatD : D → Bool
  | .non => true
  | .bl _ => true
  | .int _ => true
  | .str _ => true
  | _ => false
theorem flat_rp {d : D} {v : V} (f : flatD d = true) (h : Rp K W d v) : flatV v = true := by
  cases d <;> first | exact absurd f Bool.false_ne_true | skip
  · obtain rfl : v = .non := h; rfl
  · rename_i b; obtain rfl : v = .bl b := h; rfl
  · rename_i b; obtain rfl : v = .int b := h; rfl
  · rename_i b; obtain rfl : v = .str b := h; rfl
/-- a flat datum as a value -/
def flV : D → V
  | .bl b => .bl b
  | .int b => .int b
  | .str b => .str b
  | _ => .non
theorem flat_eq {d : D} {v : V} (f : flatD d = true) (h : Rp K W d v) : v = flV d := by
  cases d <;> first | exact absurd f Bool.false_ne_true | exact h
theorem eqV_flat {d e : D} (f : flatD d = true) (g : flatD e = true) : eqV (flV d) (flV e) = eqD d e := by
  cases d <;> first | exact absurd f Bool.false_ne_true | skip
  all_goals
    cases e <;> first | exact absurd g Bool.false_ne_true | skip
  all_goals simp [flV, eqV, eqD, toPy, PyData.eqv]
theorem flats_eq : ∀ {ds : List D} {xs : List V}, (∀ d ∈ ds, flatD d = true) → RpL K W ds xs → xs = ds.map flV
  | [], _, _, h => h
  | d :: ds, _, f, h => by
    obtain ⟨v, r, rfl, h1, h2⟩ := h
    rw [flat_eq (f d List.mem_cons_self) h1, flats_eq (fun x hx => f x (List.mem_cons_of_mem _ hx)) h2]
    rfl
/-! dicts with keys that are tuples -/
def kD : Key → D
  | .inl i => .int i
  | .inr x => .str x
def keyOf : D → Option Key
  | .int i => some (.inl i)
  | .str x => some (.inr x)
  | _ => none
def keysOf : List D → Option (List Key)
  | [] => some []
  | d :: ds => match keyOf d, keysOf ds with
    | some k, some ks => some (k :: ks)
    | _, _ => none
theorem keysOf_eq : ∀ {ds : List D} {ks : List Key} {xs : List V}, keysOf ds = some ks → RpL K W ds xs → xs = ks.map kV
  | [], _, _, e, h => by cases e; exact h
  | d :: ds, ks, _, e, h => by
    obtain ⟨v, r, rfl, h1, h2⟩ := h
    unfold keysOf at e
    split at e
    · rename_i k ks' e1 e2
      cases e
      rw [keysOf_eq e2 h2]
      cases d <;> first | (cases e1; done) | skip
      · obtain rfl : v = .int _ := h1; cases e1; rfl
      · obtain rfl : v = .str _ := h1; cases e1; rfl
    · cases e
def valD {κ : Type} [DecidableEq κ] : List (κ × D) → κ → Option D
  | [], _ => none
  | e :: r, k => if e.1 = k then some e.2 else valD r k
theorem RpT.val (k : List Key) : ∀ {es : List (List Key × D)} {kvs : List (List Key × V)}, RpT K W es kvs →
    (valD es k = none ∧ valV kvs k = none) ∨ ∃ d v, valD es k = some d ∧ valV kvs k = some v ∧ Rp K W d v
  | [], _, h => by obtain rfl : _ = [] := h; exact .inl ⟨rfl, rfl⟩
  | (q, d) :: es, _, h => by
    obtain ⟨v, r, rfl, h1, h2⟩ := h
    by_cases e : q = k
    · exact .inr ⟨d, v, by simp [valD, e], valV_pos e, h1⟩
    · rw [show valD ((q, d) :: es) k = valD es k by simp [valD, e], valV_neg (p := (q, v)) e]
      exact RpT.val k h2
theorem RpK.val (k : Key) : ∀ {es : List (Key × D)} {kvs : List (Key × V)}, RpK K W es kvs →
    (valD es k = none ∧ valV kvs k = none) ∨ ∃ d v, valD es k = some d ∧ valV kvs k = some v ∧ Rp K W d v
  | [], _, h => by obtain rfl : _ = [] := h; exact .inl ⟨rfl, rfl⟩
  | (q, d) :: es, _, h => by
    obtain ⟨v, r, rfl, h1, h2⟩ := h
    by_cases e : q = k
    · exact .inr ⟨d, v, by simp [valD, e], valV_pos e, h1⟩
    · rw [show valD ((q, d) :: es) k = valD es k by simp [valD, e], valV_neg (p := (q, v)) e]
      exact RpK.val k h2
theorem dget_t {a : Addr} {y : V} {es : List (List Key × D)} {kvs : List (List Key × V)} {ds : List D} {ks : List Key} (e : Rd H a (.dT kvs)) (hy : RN K W H (.tup ds) y) (hk : keysOf ds = some ks) : DGet H a y (valV kvs ks) := by
  obtain ⟨b, xs, rfl, e2, r⟩ := hy
  rw [keysOf_eq hk r] at e2
  exact .inr ⟨kvs, ks, b, e, rfl, e2, rfl⟩
theorem dget_k {a : Addr} {y : V} {d : D} {kvs : List (Key × V)} {k : Key} (e : Rd H a (.dK kvs)) (hy : RN K W H d y) (hk : keyOf d = some k) : DGet H a y (valV kvs k) := by
  cases d <;> first | (cases hk; done) | skip
  · obtain rfl : y = .int _ := hy; cases hk; exact .inl ⟨kvs, .inl _, e, rfl, rfl⟩
  · obtain rfl : y = .str _ := hy; cases hk; exact .inl ⟨kvs, .inr _, e, rfl, rfl⟩
/-- what a dict holds at a key -/
def dAt (a b : D) (k : Option D → Prop) : Prop := match b with
  | .dT es => match a with
    | .tup ds => match keysOf ds with | some ks => k (valD es ks) | none => False
    | _ => False
  | .dK es => match keyOf a with | some q => k (valD es q) | none => False
  | _ => False
theorem dAt_get {a b : D} {x y : V} {k : Option D → Prop} (hx : RN K W H a x) (hy : RN K W H b y) (t : dAt a b k) :
    ∃ p o od, y = .ref p ∧ DGet H p x o ∧ k od ∧ ((od = none ∧ o = none) ∨ ∃ d v, od = some d ∧ o = some v ∧ Rp K W d v) := by
  cases b <;> first | exact False.elim t | skip
  · rename_i es
    obtain ⟨p, kvs, rfl, e, r⟩ := hy
    cases a <;> first | exact False.elim t | skip
    rename_i ds
    have t : (match keysOf ds with | some ks => k (valD es ks) | none => False) := t
    split at t
    · rename_i ks hk
      exact ⟨p, _, _, rfl, dget_t (es := es) e hx hk, t, RpT.val ks r⟩
    · exact t.elim
  · rename_i es
    obtain ⟨p, kvs, rfl, e, r⟩ := hy
    have t : (match keyOf a with | some q => k (valD es q) | none => False) := t
    split at t
    · rename_i q hk
      exact ⟨p, _, _, rfl, dget_k e hx hk, t, RpK.val q r⟩
    · exact t.elim
def isD : D → Bool
  | .dT _ => true
  | .dK _ => true
  | _ => false
/-! in -/
def dIn : D2 := fun a b Q => match b with
  | .lst ds => Pl 20 a ∧ Pl 20 b ∧ Q (.dat (.bl (ds.any fun z => eqD z a)))
  | .tup ds => flatD a = true ∧ (∀ d ∈ ds, flatD d = true) ∧ Q (.dat (.bl (ds.any fun z => eqD z a)))
  | .str z => match a with
    | .str y => Q (.dat (.bl (!(Builtin.Str.occurrences z y 0 z.length 1).isEmpty)))
    | _ => False
  | _ => dAt a b fun o => Q (.dat (.bl o.isSome))
def dNotIn : D2 := fun a b Q => match b with
  | .lst ds => Pl 20 a ∧ Pl 20 b ∧ Q (.dat (.bl (!ds.any fun z => eqD z a)))
  | .tup ds => flatD a = true ∧ (∀ d ∈ ds, flatD d = true) ∧ Q (.dat (.bl (!ds.any fun z => eqD z a)))
  | .str z => match a with
    | .str y => Q (.dat (.bl (!(!(Builtin.Str.occurrences z y 0 z.length 1).isEmpty))))
    | _ => False
  | _ => dAt a b fun o => Q (.dat (.bl (!o.isSome)))
def rDIn (neg : Bool) : R2 := fun x y H Q => ∃ a o, y = .ref a ∧ DGet H a x o ∧ Q (.bl (if neg then !o.isSome else o.isSome)) H
theorem op_dIn (hu : X.A.units + 64 < cLine) : OpR X (compareOp .In) (rDIn false) := by
  intro pins s σ H x y v u Q I rx ry ⟨a, o, e, g, q⟩
  subst e
  cases ry
  exact d_in (by omega) I g rx fun s2 I2 => ⟨.bl _, H, I2, rfl, q⟩
theorem op_dNotIn (hu : X.A.units + 64 < cLine) : OpR X (compareOp .NotIn) (rDIn true) := by
  intro pins s σ H x y v u Q I rx ry ⟨a, o, e, g, q⟩
  subst e
  cases ry
  exact d_notIn (by omega) I g rx fun s2 I2 => ⟨.bl _, H, I2, rfl, q⟩
theorem any_py (a : D) : ∀ ds : List D, ((toPys ds).any fun z => PyData.eqv z (toPy a)) = ds.any fun z => eqD z a
  | [] => rfl
  | d :: ds => by rw [toPys, List.any_cons, List.any_cons, any_py a ds]; rfl
theorem in_flat {a : D} {ds : List D} (f : flatD a = true) (g : ∀ d ∈ ds, flatD d = true) : inV (flV a) (ds.map flV) = ds.any fun z => eqD z a := by
  unfold inV
  induction ds with
  | nil => rfl
  | cons d r ih =>
    rw [List.map_cons, List.any_cons, List.any_cons, eqV_flat (g d List.mem_cons_self) f, ih fun x hx => g x (List.mem_cons_of_mem _ hx)]
theorem all_flat {ds : List D} (g : ∀ d ∈ ds, flatD d = true) : (ds.map flV).all flatV = true := by
  rw [List.all_eq_true]
  intro v hv
  obtain ⟨d, hd, rfl⟩ := List.mem_map.mp hv
  have := g d hd
  cases d <;> first | rfl | exact absurd this Bool.false_ne_true
theorem od_in (hu : X.A.units + 65 < cLine) : OpR X (compareOp .In) (canO X.K dIn) := by
  refine OpR.imp (OpR.or (OpR.or (op_inD hu) op_in_seq) (OpR.or op_in_str (op_dIn (by omega)))) ?_
  rintro x y H Qv ⟨W, P, G, σ, a, b, Q, R, ha, hb, t, r⟩
  have dict : dAt a b (fun o => Q (.dat (.bl o.isSome))) → rDIn false x y H Qv := fun t => by
    obtain ⟨p, o, od, rfl, g, q, h⟩ := dAt_get ha hb t
    refine ⟨p, o, rfl, g, ?_⟩
    have e : od.isSome = o.isSome := by rcases h with ⟨h1, h2⟩ | ⟨_, _, h1, h2, _⟩ <;> rw [h1, h2] <;> rfl
    rw [e] at q
    exact r.bl R q
  cases b with
  | lst ds =>
    obtain ⟨pa, pb, t⟩ := t
    exact .inl (.inl ⟨_, _, pa.dp (W := W) (R.rnow ha), pb.dp (W := W) (R.rnow hb), pa.shaped (by decide), pb.shaped (by decide), by rw [any_py]; exact r.bl R t⟩)
  | tup ds =>
    obtain ⟨fa, fs, t⟩ := t
    obtain ⟨p, xs, rfl, s1, r1⟩ := hb
    have e1 := flats_eq fs r1
    have e2 := flat_eq fa (R.rnow ha)
    subst e1 e2
    exact .inl (.inr ⟨p, _, rfl, .inr (.of s1), flat_rp fa (R.rnow ha), all_flat fs, by rw [if_neg Bool.false_ne_true, in_flat fa fs]; exact r.bl R t⟩)
  | str z =>
    cases a <;> first | exact False.elim t | skip
    rename_i yy
    obtain rfl : x = .str yy := ha
    obtain rfl : y = .str z := hb
    exact .inr (.inl ⟨yy, z, rfl, rfl, r.bl R t⟩)
  | _ => first | exact .inr (.inr (dict t)) | exact False.elim t
theorem od_notin (hu : X.A.units + 65 < cLine) : OpR X (compareOp .NotIn) (canO X.K dNotIn) := by
  refine OpR.imp (OpR.or (OpR.or (op_notInD hu) op_notIn_seq) (OpR.or op_notin_str (op_dNotIn (by omega)))) ?_
  rintro x y H Qv ⟨W, P, G, σ, a, b, Q, R, ha, hb, t, r⟩
  have dict : dAt a b (fun o => Q (.dat (.bl (!o.isSome)))) → rDIn true x y H Qv := fun t => by
    obtain ⟨p, o, od, rfl, g, q, h⟩ := dAt_get ha hb t
    refine ⟨p, o, rfl, g, ?_⟩
    have e : od.isSome = o.isSome := by rcases h with ⟨h1, h2⟩ | ⟨_, _, h1, h2, _⟩ <;> rw [h1, h2] <;> rfl
    rw [e] at q
    exact r.bl R q
  cases b with
  | lst ds =>
    obtain ⟨pa, pb, t⟩ := t
    exact .inl (.inl ⟨_, _, pa.dp (W := W) (R.rnow ha), pb.dp (W := W) (R.rnow hb), pa.shaped (by decide), pb.shaped (by decide), by rw [any_py]; exact r.bl R t⟩)
  | tup ds =>
    obtain ⟨fa, fs, t⟩ := t
    obtain ⟨p, xs, rfl, s1, r1⟩ := hb
    have e1 := flats_eq fs r1
    have e2 := flat_eq fa (R.rnow ha)
    subst e1 e2
    exact .inl (.inr ⟨p, _, rfl, .inr (.of s1), flat_rp fa (R.rnow ha), all_flat fs, by rw [if_pos rfl, in_flat fa fs]; exact r.bl R t⟩)
  | str z =>
    cases a <;> first | exact False.elim t | skip
    rename_i yy
    obtain rfl : x = .str yy := ha
    obtain rfl : y = .str z := hb
    exact .inr (.inl ⟨yy, z, rfl, rfl, r.bl R t⟩)
  | _ => first | exact .inr (.inr (dict t)) | exact False.elim t
end

/-! ### expressions -/
abbrev DT := Gm → (Bool → Gm → Prop) → Prop
abbrev DA := Gm → (List D → Gm → Prop) → Prop
def canT (K : PySem.W.Frag) (t : DT) : TT := fun σ H Qv => ∃ W P G Q, Rl K W P G σ H ∧ t G Q ∧
  ∀ W' b G' H', W.le W' → Rl K W' P G' σ H' → Q b G' → Qv b H'
def canA (K : PySem.W.Frag) (t : DA) : TA := fun σ H Qv => ∃ W P G Q, Rl K W P G σ H ∧ t G Q ∧
  ∀ W' ds G' vs H', W.le W' → Rl K W' P G' σ H' → RpL K W' ds vs → Q ds G' → Qv vs H'
section
variable {X : Cx} {K : PySem.W.Frag} {W : Wd} {P : Hp} {G : Gm} {σ : St} {H : Hp}
def dVar (i : Nat) : DE := fun G Q => match gg G i with
  | some (.dat d) => Q (.dat d) G
  | some (.own _) => Q (.bor i) G
  | none => False
def dC (d : D) : DE := fun G Q => Q (.dat d) G
variable {pos : Pos} {a b c e : Expr} {es : List Expr}
theorem de_var (i : Nat) {x : Str} (hN : X.N[i]? = some x := by rfl) (hv : Vis X.env.scope x := by first | exact Or.inl rfl | exact Or.inr (Or.inl rfl) | exact Or.inr (Or.inr rfl)) (hd : (x == ("__debug__" : Str)) = false := by decide)
    (hcd : (x == ("__classdict__" : Str)) = false := by decide) : PE X (.Name x pos) (can X.K (dVar i)) := by
  refine PE.imp (pe_var hN hv hd hcd) ?_
  rintro σ H Qv ⟨W, P, G, Q, R, t, k⟩
  have t : (match gg G i with | some (.dat d) => Q (.dat d) G | some (.own _) => Q (.bor i) G | none => False) := t
  cases e : gg G i with
  | none => rw [e] at t; exact t.elim
  | some s =>
    rw [e] at t
    cases s with
    | dat d =>
      obtain ⟨v, h1, h2⟩ := R.dat i d e
      exact ⟨v, h1, k W (.dat d) G v H (.refl W) R h2 t⟩
    | own d =>
      obtain ⟨p, o, h1, h2, h3⟩ := R.own i d e
      exact ⟨_, h1, k W (.bor i) G _ H (.refl W) R ⟨h1, d, e⟩ t⟩
theorem can_c {d : D} {v : V} (h : ∀ K W, Rp K W d v) : ∀ σ H Q, can X.K (dC d) σ H Q → tC v σ H Q := by
  rintro σ H Qv ⟨W, P, G, Q, R, t, k⟩
  exact k W (.dat d) G v H (.refl W) R (h _ _) t
theorem de_int {i j} : PE X (.Constant (.int i) j pos) (can X.K (dC (.int i))) := PE.imp pe_int (can_c fun _ _ => rfl)
theorem de_bl {i j} : PE X (.Constant (.bool i) j pos) (can X.K (dC (.bl i))) := PE.imp pe_bl (can_c fun _ _ => rfl)
theorem de_non {j} : PE X (.Constant .none j pos) (can X.K (dC .non)) := PE.imp pe_non (can_c fun _ _ => rfl)
theorem de_str {i j} : PE X (.Constant (.str i) j pos) (can X.K (dC (.str i))) := PE.imp pe_str (can_c fun _ _ => rfl)
/-- a constant of the module, a class, a function; a built-in class -/
theorem de_glob {x : Str} {d : D} {v : V} {u : Value} (hm : X.mg x = some u) (r : RelV v u) (h : ∀ K W, Rp K W d v) (hg : Gl X x := by rfl) (hd : (x == ("__debug__" : Str)) = false := by decide) : PE X (.Name x pos) (can X.K (dC d)) :=
  PE.imp (pe_glob hg hm r hd) (can_c h)
theorem de_ty {x : Str} {T : String} (hm : X.mg x = none) (hv : bootBuiltins x = some (.type T)) (hg : Gl X x := by rfl) (hn : x ≠ "__name__" := by decide) (hd : (x == ("__debug__" : Str)) = false := by decide) : PE X (.Name x pos) (can X.K (dC (.ty T))) :=
  PE.imp (pe_bltn (v := .ty T) hg hm hv rfl hn hd) (can_c fun _ _ => rfl)

/-- one after the other -/
theorem can_bin {ta tb : DE} {R2 : V → V → Hp → Prop} {Q2 : SV → SV → Gm → Prop} (R : Rl K W P G σ H) (t : ta G fun sa G1 => tb G1 fun sb G2 => Q2 sa sb G2)
    (k : ∀ W' G2 sa sb x y H2, W.le W' → Rl K W' P G2 σ H2 → RS K W' σ sa x → RS K W' σ sb y → Q2 sa sb G2 → R2 x y H2) : can K ta σ H fun x H1 => can K tb σ H1 fun y H2 => R2 x y H2 := by
  refine ⟨W, P, G, _, R, t, fun W1 sa G1 x H1 l1 R1 r1 q1 => ?_⟩
  obtain ⟨W2, l2, R2', s1⟩ := R1.settle r1
  refine ⟨W2, P, G1, _, R2', q1, fun W3 sb G2 y H2 l3 R3 r3 q3 => ?_⟩
  obtain ⟨W4, l4, R4, s2⟩ := R3.settle r3
  exact k W4 G2 sa sb x y H2 (((l1.trans l2).trans l3).trans l4) R4 (s1.mono (l3.trans l4)) s2 q3
theorem can_one {ta : DE} {R1 : V → Hp → Prop} {Q1 : SV → Gm → Prop} (R : Rl K W P G σ H) (t : ta G Q1)
    (k : ∀ W' G1 sa x H1, W.le W' → Rl K W' P G1 σ H1 → RS K W' σ sa x → Q1 sa G1 → R1 x H1) : can K ta σ H R1 := by
  refine ⟨W, P, G, _, R, t, fun W1 sa G1 x H1 l1 R1 r1 q1 => ?_⟩
  obtain ⟨W2, l2, R2', s1⟩ := R1.settle r1
  exact k W2 G1 sa x H1 (l1.trans l2) R2' s1 q1
/-- a value is asked and looked at -/
def dBin (dr : D2) (ta tb : DE) : DE := fun G Q => ta G fun sa G1 => tb G1 fun sb G2 => see G2 sa fun x => see G2 sb fun y => dr x y fun r => Q r G2
def dUn (dr : D1) (ta : DE) : DE := fun G Q => ta G fun sa G1 => see G1 sa fun x => dr x fun r => Q r G1
theorem bin_op {dr : D2} {ta tb : DE} {Qv : VK} (h : can K (dBin dr ta tb) σ H Qv) : tOp (canO K dr) (can K ta) (can K tb) σ H Qv := by
  obtain ⟨W, P, G, Q, R, t, k⟩ := h
  refine can_bin R t fun W' G2 sa sb x y H2 l R2 s1 s2 q => ?_
  obtain ⟨d1, n1, q⟩ := R2.see s1 q
  obtain ⟨d2, n2, q⟩ := R2.see s2 q
  exact ⟨W', P, G2, σ, d1, d2, fun r => Q r G2, R2, n1, n2, q, fun W3 sv v H3 l3 R3 r3 q3 => k W3 sv G2 v H3 (l.trans l3) R3 r3 q3⟩
theorem un_op {dr : D1} {ta : DE} {Qv : VK} (h : can K (dUn dr ta) σ H Qv) : tUn (canU K dr) (can K ta) σ H Qv := by
  obtain ⟨W, P, G, Q, R, t, k⟩ := h
  refine can_one R t fun W' G1 sa x H1 l R1 s1 q => ?_
  obtain ⟨d1, n1, q⟩ := R1.see s1 q
  exact ⟨W', P, G1, σ, d1, fun r => Q r G1, R1, n1, q, fun W3 sv v H3 l3 R3 r3 q3 => k W3 sv G1 v H3 (l.trans l3) R3 r3 q3⟩
theorem de_bin {op : Operator} {dr : D2} {ta tb : DE} (ho : OpR X (binaryOp op) (canO X.K dr)) (ha : PE X a (can X.K ta)) (hb : PE X b (can X.K tb)) : PE X (.BinOp a op b pos) (can X.K (dBin dr ta tb)) :=
  PE.imp (pe_op ho ha hb) fun _ _ _ => bin_op
theorem de_un {op : UnaryOp} {dr : D1} {ta : DE} (ho : UnR X (unaryOp op) (canU X.K dr)) (ha : PE X a (can X.K ta)) : PE X (.UnaryOp op a pos) (can X.K (dUn dr ta)) :=
  PE.imp (pe_un ho ha) fun _ _ _ => un_op
theorem de_cmp {op : CmpOp} {dr : D2} {ta tb : DE} (ho : OpR X (compareOp op) (canO X.K dr)) (ha : PE X a (can X.K ta)) (hb : PE X b (can X.K tb)) (hm : behindInMarks op b = false := by first | exact nomark _ | rfl) : PE X (.Compare a [op] [b] pos) (can X.K (dBin dr ta tb)) :=
  PE.imp (pe_cmpR ho ha hb hm) fun _ _ _ => bin_op
/-- a bool is wanted -/
def isB (sv : SV) (k : Bool → Prop) : Prop := match sv with
  | .dat (.bl b) => k b
  | _ => False
theorem isB_of {sv : SV} {v : V} {k : Bool → Prop} (h : RV K W P G σ H sv v) (t : isB sv k) : ∃ b, v = .bl b ∧ k b := by
  cases sv <;> first | exact False.elim t | skip
  rename_i d
  cases d <;> first | exact False.elim t | skip
  exact ⟨_, h, t⟩
/-- a value as a test -/
def dTst (ta : DE) : DT := fun G Q => ta G fun sa G1 => isB sa fun b => Q b G1
theorem tst_tB {ta : DE} {Qv} (h : canT K (dTst ta) σ H Qv) : tB (can K ta) σ H Qv := by
  obtain ⟨W, P, G, Q, R, t, k⟩ := h
  refine ⟨W, P, G, _, R, t, fun W1 sa G1 x H1 l1 R1 r1 q1 => ?_⟩
  obtain ⟨b, rfl, q⟩ := isB_of r1 q1
  exact ⟨b, rfl, k W1 b G1 H1 l1 R1 q⟩
theorem dt_val {ta : DE} (h : PE X e (can X.K ta)) (he : ∀ whole, isTrue e X.env whole = (do let v ← whole; standAt e.pos; holding [v] (truthy v)) := by intro _; rfl) : PT X e (canT X.K (dTst ta)) :=
  PT.imp (pt_val h he) fun _ _ _ => tst_tB
theorem dt_cmp {op : CmpOp} {dr : D2} {ta tb : DE} (ho : OpR X (compareOp op) (canO X.K dr)) (ha : PE X a (can X.K ta)) (hb : PE X b (can X.K tb)) (hm : behindInMarks op b = false := by first | exact nomark _ | rfl) : PT X (.Compare a [op] [b] pos) (canT X.K (dTst (dBin dr ta tb))) := by
  exact PT.imp (pt_cmpR ho ha hb hm) fun σ H Qv h => bin_op (tst_tB h)
def dNotT (t : DT) : DT := fun G Q => t G fun b G1 => Q (!b) G1
theorem dt_not {t : DT} (h : PT X a (canT X.K t)) : PT X (.UnaryOp .Not a pos) (canT X.K (dNotT t)) := by
  refine PT.imp (pt_not h) ?_
  rintro σ H Qv ⟨W, P, G, Q, R, t, k⟩
  exact ⟨W, P, G, _, R, t, fun W1 b G1 H1 l R1 q => k W1 (!b) G1 H1 l R1 q⟩
def dAndT (t u : DT) : DT := fun G Q => t G fun b G1 => if b = true then u G1 Q else Q false G1
def dOrT (t u : DT) : DT := fun G Q => t G fun b G1 => if b = true then Q true G1 else u G1 Q
theorem PW.imp {t u : TT} (h : PW X e t) (i : ∀ σ H Q, u σ H Q → t σ H Q) : PW X e u := ⟨fun wh pins s σ H Q I q => h.run wh pins s σ H Q I (i σ H Q q)⟩
theorem dw_and1 {t : DT} (h : PT X a (canT X.K t)) : PW X (.BoolOp .And [a] pos) (canT X.K t) := pw_and1 h
theorem dw_or1 {t : DT} (h : PT X a (canT X.K t)) : PW X (.BoolOp .Or [a] pos) (canT X.K t) := pw_or1 h
theorem dw_and {t u : DT} (h : PT X a (canT X.K t)) (h2 : PW X (.BoolOp .And (b :: es) pos) (canT X.K u)) : PW X (.BoolOp .And (a :: b :: es) pos) (canT X.K (dAndT t u)) := by
  refine PW.imp (pw_and h h2) ?_
  rintro σ H Qv ⟨W, P, G, Q, R, t, k⟩
  refine ⟨W, P, G, _, R, t, fun W1 c G1 H1 l R1 q => ?_⟩
  cases c with
  | true =>
    rw [if_pos rfl] at q ⊢
    exact ⟨W1, P, G1, Q, R1, q, fun W2 d G2 H2 l2 R2 q2 => k W2 d G2 H2 (l.trans l2) R2 q2⟩
  | false =>
    rw [if_neg Bool.false_ne_true] at q ⊢
    exact k W1 false G1 H1 l R1 q
theorem dw_or {t u : DT} (h : PT X a (canT X.K t)) (h2 : PW X (.BoolOp .Or (b :: es) pos) (canT X.K u)) : PW X (.BoolOp .Or (a :: b :: es) pos) (canT X.K (dOrT t u)) := by
  refine PW.imp (pw_or h h2) ?_
  rintro σ H Qv ⟨W, P, G, Q, R, t, k⟩
  refine ⟨W, P, G, _, R, t, fun W1 c G1 H1 l R1 q => ?_⟩
  cases c with
  | true =>
    rw [if_pos rfl] at q ⊢
    exact k W1 true G1 H1 l R1 q
  | false =>
    rw [if_neg Bool.false_ne_true] at q ⊢
    exact ⟨W1, P, G1, Q, R1, q, fun W2 d G2 H2 l2 R2 q2 => k W2 d G2 H2 (l.trans l2) R2 q2⟩
/-! as values (bools; the last one any) -/
def dAndV (t u : DE) : DE := fun G Q => t G fun s G1 => isB s fun b => if b = true then u G1 Q else Q (.dat (.bl false)) G1
def dOrV (t u : DE) : DE := fun G Q => t G fun s G1 => isB s fun b => if b = true then Q (.dat (.bl true)) G1 else u G1 Q
def dNotV (t : DE) : DE := fun G Q => t G fun s G1 => isB s fun b => Q (.dat (.bl (!b))) G1
theorem de_one {op} {t : DE} (h : PE X a (can X.K t)) : PE X (.BoolOp op [a] pos) (can X.K t) := pe_one h
theorem de_and {t u : DE} (h : PE X a (can X.K t)) (h2 : PE X (.BoolOp .And (b :: es) pos) (can X.K u)) : PE X (.BoolOp .And (a :: b :: es) pos) (can X.K (dAndV t u)) := by
  refine PE.imp (pe_and h h2) ?_
  rintro σ H Qv ⟨W, P, G, Q, R, t, k⟩
  refine ⟨W, P, G, _, R, t, fun W1 s G1 x H1 l R1 r1 q => ?_⟩
  obtain ⟨c, rfl, q⟩ := isB_of r1 q
  refine ⟨c, rfl, ?_⟩
  cases c with
  | true =>
    rw [if_pos rfl] at q ⊢
    exact ⟨W1, P, G1, Q, R1, q, fun W2 d G2 v H2 l2 R2 q2 => k W2 d G2 v H2 (l.trans l2) R2 q2⟩
  | false =>
    rw [if_neg Bool.false_ne_true] at q ⊢
    exact k W1 (.dat (.bl false)) G1 _ H1 l R1 rfl q
theorem de_or {t u : DE} (h : PE X a (can X.K t)) (h2 : PE X (.BoolOp .Or (b :: es) pos) (can X.K u)) : PE X (.BoolOp .Or (a :: b :: es) pos) (can X.K (dOrV t u)) := by
  refine PE.imp (pe_or h h2) ?_
  rintro σ H Qv ⟨W, P, G, Q, R, t, k⟩
  refine ⟨W, P, G, _, R, t, fun W1 s G1 x H1 l R1 r1 q => ?_⟩
  obtain ⟨c, rfl, q⟩ := isB_of r1 q
  refine ⟨c, rfl, ?_⟩
  cases c with
  | true =>
    rw [if_pos rfl] at q ⊢
    exact k W1 (.dat (.bl true)) G1 _ H1 l R1 rfl q
  | false =>
    rw [if_neg Bool.false_ne_true] at q ⊢
    exact ⟨W1, P, G1, Q, R1, q, fun W2 d G2 v H2 l2 R2 q2 => k W2 d G2 v H2 (l.trans l2) R2 q2⟩
theorem de_not {t : DE} (h : PE X a (can X.K t)) : PE X (.UnaryOp .Not a pos) (can X.K (dNotV t)) := by
  refine PE.imp (pe_not h) ?_
  rintro σ H Qv ⟨W, P, G, Q, R, t, k⟩
  refine ⟨W, P, G, _, R, t, fun W1 s G1 x H1 l R1 r1 q => ?_⟩
  obtain ⟨c, rfl, q⟩ := isB_of r1 q
  exact ⟨c, rfl, k W1 (.dat (.bl !c)) G1 _ H1 l R1 rfl q⟩
def dIf (t : DT) (ta tb : DE) : DE := fun G Q => t G fun b G1 => if b = true then ta G1 Q else tb G1 Q
theorem de_if {t : DT} {ta tb : DE} (h : PT X c (canT X.K t)) (h1 : PE X a (can X.K ta)) (h2 : PE X b (can X.K tb)) : PE X (.IfExp c a b pos) (can X.K (dIf t ta tb)) := by
  refine PE.imp (pe_ifExp h h1 h2) ?_
  rintro σ H Qv ⟨W, P, G, Q, R, t, k⟩
  refine ⟨W, P, G, _, R, t, fun W1 c G1 H1 l R1 q => ?_⟩
  cases c with
  | true =>
    rw [if_pos rfl] at q ⊢
    exact ⟨W1, P, G1, Q, R1, q, fun W2 d G2 v H2 l2 R2 q2 => k W2 d G2 v H2 (l.trans l2) R2 q2⟩
  | false =>
    rw [if_neg Bool.false_ne_true] at q ⊢
    exact ⟨W1, P, G1, Q, R1, q, fun W2 d G2 v H2 l2 R2 q2 => k W2 d G2 v H2 (l.trans l2) R2 q2⟩
/-- a < b < c; b is flat -/
def dChn (dr ds : D2) (ta tb tc : DE) : DE := fun G Q => ta G fun sa G1 => tb G1 fun sb G2 => see G2 sa fun x => see G2 sb fun y => flatD y = true ∧ dr x y fun r => isB r fun c =>
  if c = true then tc G2 fun sc G3 => see G3 sc fun z => ds y z fun r => Q r G3 else Q (.dat (.bl false)) G2
theorem flat_rn {d : D} {v : V} (f : flatD d = true) (h : RN K W H d v) : ∀ W' H', RN K W' H' d v := by
  cases d <;> first | exact absurd f Bool.false_ne_true | exact fun _ _ => h
theorem chn_op {dr ds : D2} {ta tb tc : DE} {Qv : VK} (h : can K (dChn dr ds ta tb tc) σ H Qv) : tChain (canO K dr) (canO K ds) (can K ta) (can K tb) (can K tc) σ H Qv := by
  obtain ⟨W, P, G, Q, R, t, k⟩ := h
  refine can_bin R t fun W' G2 sa sb x y H2 l R2 s1 s2 q => ?_
  obtain ⟨d1, n1, q⟩ := R2.see s1 q
  obtain ⟨d2, n2, q⟩ := R2.see s2 q
  obtain ⟨fl, q⟩ := q
  refine ⟨W', P, G2, σ, d1, d2, _, R2, n1, n2, q, fun W3 sv v H3 l3 R3 r3 q3 => ?_⟩
  obtain ⟨c, rfl, q3⟩ := isB_of r3 q3
  refine ⟨c, rfl, ?_⟩
  cases c with
  | true =>
    rw [if_pos rfl] at q3 ⊢
    refine can_one R3 q3 fun W4 G4 sc z H4 l4 R4 s4 q4 => ?_
    obtain ⟨d4, n4, q4⟩ := R4.see s4 q4
    exact ⟨W4, P, G4, σ, d2, d4, fun r => Q r G4, R4, flat_rn fl n2 _ _, n4, q4, fun W5 sv v H5 l5 R5 r5 q5 => k W5 sv G4 v H5 (((l.trans l3).trans l4).trans l5) R5 r5 q5⟩
  | false =>
    rw [if_neg Bool.false_ne_true] at q3 ⊢
    exact k W3 (.dat (.bl false)) G2 _ H3 (l.trans l3) R3 rfl q3
theorem de_chn {op op' : CmpOp} {dr ds : D2} {ta tb tc : DE} (ho : OpR X (compareOp op) (canO X.K dr)) (ho' : OpR X (compareOp op') (canO X.K ds)) (ha : PE X a (can X.K ta)) (hb : PE X b (can X.K tb)) (hc : PE X c (can X.K tc))
    (hm : lastMarks [op, op'] [b, c] = false := by with_unfolding_all rfl) : PE X (.Compare a [op, op'] [b, c] pos) (can X.K (dChn dr ds ta tb tc)) := PE.imp (pe_chain ho ho' ha hb hc hm) fun _ _ _ => chn_op
theorem dt_chn {op op' : CmpOp} {dr ds : D2} {ta tb tc : DE} (ho : OpR X (compareOp op) (canO X.K dr)) (ho' : OpR X (compareOp op') (canO X.K ds)) (ha : PE X a (can X.K ta)) (hb : PE X b (can X.K tb)) (hc : PE X c (can X.K tc))
    (hm : lastMarks [op, op'] [b, c] = false := by with_unfolding_all rfl) : PT X (.Compare a [op, op'] [b, c] pos) (canT X.K (dTst (dChn dr ds ta tb tc))) := PT.imp (pt_chain ho ho' ha hb hc hm) fun _ _ _ h => chn_op (tst_tB h)
/-! ### argument lists, displays -/
def dNil : DA := fun G Q => Q [] G
def dCons (t : DE) (u : DA) : DA := fun G Q => t G fun s G1 => frz G1 s fun d G2 => u G2 fun ds G3 => Q (d :: ds) G3
theorem da_nil : PA X [] (canA X.K dNil) := by
  refine ⟨fun pos pins s σ H Qv I ⟨W, P, G, Q, R, t, k⟩ => pa_nil.run pos pins s σ H Qv I ?_⟩
  exact k W [] G [] H (.refl W) R rfl t
theorem da_cons {t : DE} {u : DA} (h : PE X e (can X.K t)) (h2 : PA X es (canA X.K u)) (hs : starEach (e :: es) X.env = (false, eval e X.env) :: starEach es X.env := by rfl) : PA X (e :: es) (canA X.K (dCons t u)) := by
  refine ⟨fun pos pins s σ H Qv I ⟨W, P, G, Q, R, t, k⟩ => (pa_cons h h2 hs).run pos pins s σ H Qv I ?_⟩
  refine ⟨W, P, G, _, R, t, fun W1 sv G1 v H1 l1 R1 r1 q1 => ?_⟩
  obtain ⟨W2, d, G2, l2, R2, r2, q2⟩ := R1.frz r1 q1
  exact ⟨W2, P, G2, _, R2, q2, fun W3 ds G3 vs H3 l3 R3 r3 q3 => k W3 (d :: ds) G3 (v :: vs) H3 ((l1.trans l2).trans l3) R3 ⟨v, vs, rfl, Rp.mono l3 _ _ r2, r3⟩ q3⟩
def dTup (u : DA) : DE := fun G Q => u G fun ds G1 => ds.length ≤ sizeLine ∧ Q (.dat (.tup ds)) G1
def dLst (u : DA) : DE := fun G Q => u G fun ds G1 => ds.length ≤ sizeLine ∧ Q (.new (.lst ds)) G1
theorem de_tup {u : DA} {x1} (h : PA X es (canA X.K u)) : PE X (.Tuple es x1 pos) (can X.K (dTup u)) := by
  refine PE.imp (pe_tup h) ?_
  rintro σ H Qv ⟨W, P, G, Q, R, t, k⟩
  refine ⟨W, P, G, _, R, t, fun W1 ds G1 vs H1 l R1 r1 q => ⟨by rw [r1.length]; exact q.1, fun p hp => ?_⟩⟩
  obtain ⟨W2, l2, R2, r2⟩ := R1.allocT hp r1
  exact k W2 (.dat (.tup ds)) G1 _ _ (l.trans l2) R2 r2 q.2
theorem de_lst {u : DA} (h : PA X es (canA X.K u)) : PE X (.List es pos) (can X.K (dLst u)) := by
  refine PE.imp (pe_lst h) ?_
  rintro σ H Qv ⟨W, P, G, Q, R, t, k⟩
  refine ⟨W, P, G, _, R, t, fun W1 ds G1 vs H1 l R1 r1 q => ⟨by rw [r1.length]; exact q.1, fun p hp => ?_⟩⟩
  obtain ⟨R2, r2⟩ := R1.alloc (o := .lst vs) (d := .lst ds) hp r1
  exact k W1 (.new (.lst ds)) G1 _ _ l R2 r2 q.2
/-! ### subscripts, slices -/
def atQ (o : Option D) (Q : SV → Prop) : Prop := match o with
  | some d => Q (.dat d)
  | none => False
def dIx : D2 := fun a b Q => match a with
  | .lst ds => match b with
    | .int i => atQ (atI ds i) Q
    | _ => False
  | .tup ds => match b with
    | .int i => atQ (atI ds i) Q
    | _ => False
  | .scr ns => match b with
    | .int i => atQ ((atI ns i).map D.int) Q
    | _ => False
  | .str z => match b with
    | .int i => z.length ≤ sizeLine ∧ atQ ((atI z.cps.toList i).map fun c => D.str ⟨#[c]⟩) Q
    | _ => False
  | _ => dAt b a fun o => atQ o Q
theorem atD_rp {ds : List D} {xs : List V} {i : Int} {d : D} (r : RpL K W ds xs) (e : atI ds i = some d) : ∃ v, atI xs i = some v ∧ Rp K W d v := by
  unfold atI at e ⊢
  rw [r.length]
  cases q : ixN ds.length i with
  | none => rw [q] at e; cases e
  | some j =>
    rw [q] at e
    obtain ⟨v, h1, h2⟩ := r.get (show ds[j]? = some d from e)
    exact ⟨v, h1, h2⟩
theorem atI_map {α β : Type} (f : α → β) (xs : List α) (i : Int) : atI (xs.map f) i = (atI xs i).map f := by
  unfold atI
  rw [List.length_map]
  cases ixN xs.length i with
  | none => rfl
  | some j => exact List.getElem?_map
theorem atQ_some {o : Option D} {Q : SV → Prop} (h : atQ o Q) : ∃ d, o = some d ∧ Q (.dat d) := by
  cases o with
  | none => exact False.elim h
  | some d => exact ⟨d, rfl, h⟩
theorem IxR.imp {r r' : R2} (h : IxR X r) (i : ∀ x y H Q, r' x y H Q → r x y H Q) : IxR X r' :=
  fun value slice pins s σ H x y v u Q I rx ry q hs => h value slice pins s σ H x y v u Q I rx ry (i x y H Q q) hs
def rIxDc : R2 := fun x y H Q => ∃ a v, x = .ref a ∧ DGet H a y (some v) ∧ Q v H
theorem ix_dc (hu : X.A.units + 64 < cLine) : IxR X rIxDc := by
  intro value slice pins s σ H x y v u Q I rx ry ⟨a, w, e, g, q⟩ hs
  subst e
  cases rx
  exact tail_any (dict_typeIs I g) PySem.F.slot_dict_getitem.lookup (d_getItem (by omega) I g ry fun w' s3 I3 rw' => ⟨w, H, I3, rw', q⟩) hs
theorem xd_ix (hu : X.A.units + 64 < cLine) : IxR X (canO X.K dIx) := by
  refine IxR.imp (IxR.or (IxR.or (IxR.or ix_list ix_tup) ix_str) (ix_dc hu)) ?_
  rintro x y H Qv ⟨W, P, G, σ, a, b, Q, R, ha, hb, t, r⟩
  have dict : dAt b a (fun o => atQ o Q) → rIxDc x y H Qv := fun t => by
    obtain ⟨p, o, od, rfl, g, q, h⟩ := dAt_get hb ha t
    obtain ⟨d, e, q⟩ := atQ_some q
    subst e
    rcases h with ⟨h1, _⟩ | ⟨d', v, h1, h2, h3⟩
    · cases h1
    · cases h1
      subst h2
      exact ⟨p, v, rfl, g, r.dat R h3 q⟩
  cases a with
  | lst ds =>
    obtain ⟨p, xs, rfl, s1, r1⟩ := ha
    cases b <;> first | exact False.elim t | skip
    rename_i i
    obtain rfl : y = .int i := hb
    obtain ⟨d, e, q⟩ := atQ_some t
    obtain ⟨v, e2, h⟩ := atD_rp r1 e
    exact .inl (.inl (.inl ⟨p, xs, i, v, rfl, rfl, .of s1, e2, r.dat R h q⟩))
  | tup ds =>
    obtain ⟨p, xs, rfl, s1, r1⟩ := ha
    cases b <;> first | exact False.elim t | skip
    rename_i i
    obtain rfl : y = .int i := hb
    obtain ⟨d, e, q⟩ := atQ_some t
    obtain ⟨v, e2, h⟩ := atD_rp r1 e
    exact .inl (.inl (.inr ⟨p, xs, i, v, rfl, rfl, .of s1, e2, r.dat R h q⟩))
  | scr ns =>
    obtain ⟨p, rfl, s1⟩ := ha
    cases b <;> first | exact False.elim t | skip
    rename_i i
    obtain rfl : y = .int i := hb
    obtain ⟨d, e, q⟩ := atQ_some t
    obtain ⟨n, e1, rfl⟩ := Option.map_eq_some_iff.mp e
    exact .inl (.inl (.inl ⟨p, _, i, .int n, rfl, rfl, s1, by rw [atI_map, e1]; rfl, r.int R q⟩))
  | str z =>
    obtain rfl : x = .str z := ha
    cases b <;> first | exact False.elim t | skip
    rename_i i
    obtain rfl : y = .int i := hb
    obtain ⟨hz, t⟩ := t
    obtain ⟨d, e, q⟩ := atQ_some t
    obtain ⟨n, e1, rfl⟩ := Option.map_eq_some_iff.mp e
    exact .inl (.inr ⟨z, i, n, rfl, rfl, hz, e1, r.str R q⟩)
  | _ => first | exact .inr (dict t) | exact False.elim t
theorem de_ix {ta tb : DE} (hu : X.A.units + 64 < cLine) (ha : PE X a (can X.K ta)) (hb : PE X b (can X.K tb)) (hs : PlainIx b := by intro _ _; rfl) : PE X (.Subscript a b pos) (can X.K (dBin dIx ta tb)) :=
  PE.imp (pe_ix (xd_ix hu) ha hb hs) fun _ _ _ => bin_op
/-! slices with written or reckoned ends -/
abbrev DO := Gm → (Option Int → Gm → Prop) → Prop
def canP (K : PySem.W.Frag) (t : DO) : TO := fun σ H Qv => ∃ W P G Q, Rl K W P G σ H ∧ t G Q ∧ ∀ W' b G' H', W.le W' → Rl K W' P G' σ H' → Q b G' → Qv b H'
def dNoP : DO := fun G Q => Q none G
def dPart (t : DE) : DO := fun G Q => t G fun s G1 => see G1 s fun d => match d with | .int i => Q (some i) G1 | _ => False
theorem dp_none : PO X none (canP X.K dNoP) := by
  refine ⟨fun pins s σ H Qv I ⟨W, P, G, Q, R, t, k⟩ => po_none.run pins s σ H Qv I ?_⟩
  exact k W none G H (.refl W) R t
theorem dp_some {t : DE} (h : PE X e (can X.K t)) : PO X (some e) (canP X.K (dPart t)) := by
  refine ⟨fun pins s σ H Qv I ⟨W, P, G, Q, R, t, k⟩ => (po_some h).run pins s σ H Qv I ?_⟩
  refine can_one R t fun W1 G1 sa x H1 l R1 s1 q => ?_
  obtain ⟨d, n, q⟩ := R1.see s1 q
  cases d <;> first | exact False.elim q | skip
  rename_i i
  exact ⟨i, n, k W1 (some i) G1 H1 l R1 q⟩
/-- what a slice gives -/
def dSlc (a : D) (lo hi : Option Int) (Q : SV → Prop) : Prop := match a with
  | .lst ds => Q (.new (.lst (cutV' ds lo hi)))
  | .scr ns => Q (.new (.lst (cutV' (ns.map D.int) lo hi)))
  | .str z => z.length ≤ sizeLine ∧ Q (.dat (.str (cutS z lo hi)))
  | .tup ds => ¬ (HT.sIx ds.length 0 lo = 0 ∧ HT.sIx ds.length ds.length hi = ds.length) ∧ Q (.dat (.tup (cutV' ds lo hi)))
  | _ => False
where cutV' (xs : List D) (lo hi : Option Int) : List D := (xs.drop (HT.sIx xs.length 0 lo)).take (HT.sIx xs.length xs.length hi - HT.sIx xs.length 0 lo)
def dSl (ta : DE) (tl th : DO) : DE := fun G Q => ta G fun sa G1 => tl G1 fun lo G2 => th G2 fun hi G3 => see G3 sa fun x => dSlc x lo hi fun r => Q r G3
theorem cutV_rp {ds : List D} {xs : List V} {lo hi : Option Int} (r : RpL K W ds xs) : RpL K W (dSlc.cutV' ds lo hi) (cutV xs lo hi) := by
  unfold dSlc.cutV' cutV
  rw [r.length]
  exact (r.drop _).take _
theorem SlR.imp {r r' : V → Option Int → Option Int → Hp → VK → Prop} (h : L2.SlR X r) (i : ∀ x lo hi H Q, r' x lo hi H Q → r x lo hi H Q) : L2.SlR X r' :=
  fun pins s σ H x v vl vu lo hi sl Q I rx hs pl pu q => h pins s σ H x v vl vu lo hi sl Q I rx hs pl pu (i x lo hi H Q q)
def canS3 (K : PySem.W.Frag) : V → Option Int → Option Int → Hp → VK → Prop := fun x lo hi H Qv => ∃ W P G σ a Q, Rl K W P G σ H ∧ RN K W H a x ∧ dSlc a lo hi Q ∧ Rs K W P G σ Q Qv
theorem sd_sl : L2.SlR X (canS3 X.K) := by
  refine SlR.imp (L2.SlR.or (L2.SlR.or sl_list sl_str) sl_tup) ?_
  rintro x lo hi H Qv ⟨W, P, G, σ, a, Q, R, ha, t, r⟩
  cases a <;> first | exact False.elim t | skip
  · obtain rfl : x = .str _ := ha
    exact .inl (.inr ⟨_, rfl, t.1, r.str R t.2⟩)
  · obtain ⟨p, rfl, s1⟩ := ha
    exact .inl (.inl ⟨p, _, rfl, s1, fun q hq => r.new R hq (o := .lst _) (d := .lst _) (cutV_rp (RpL.ofInts _)) t⟩)
  · obtain ⟨p, xs, rfl, s1, r1⟩ := ha
    exact .inr ⟨p, xs, rfl, .of s1, by rw [r1.length]; exact t.1, fun q hq => r.newT R hq (cutV_rp r1) t.2⟩
  · obtain ⟨p, xs, rfl, s1, r1⟩ := ha
    exact .inl (.inl ⟨p, xs, rfl, .of s1, fun q hq => r.new R hq (o := .lst _) (d := .lst _) (cutV_rp r1) t⟩)
theorem de_sl {lo hi : Option Expr} {ta : DE} {tl th : DO} {p2 : Pos} (he : PE X e (can X.K ta)) (hl : PO X lo (canP X.K tl)) (hh : PO X hi (canP X.K th)) : PE X (.Subscript e (.Slice lo hi none p2) pos) (can X.K (dSl ta tl th)) := by
  refine PE.imp (pe_slice sd_sl he hl hh) ?_
  rintro σ H Qv ⟨W, P, G, Q, R, t, k⟩
  refine can_one R t fun W1 G1 sa x H1 l R1 s1 q => ?_
  refine ⟨W1, P, G1, _, R1, q, fun W2 lo G2 H2 l2 R2 q2 => ⟨W2, P, G2, _, R2, q2, fun W3 hi G3 H3 l3 R3 q3 => ?_⟩⟩
  obtain ⟨d, n, q⟩ := R3.see (s1.mono (l2.trans l3)) q3
  exact ⟨W3, P, G3, σ, d, fun r => Q r G3, R3, n, q, fun W4 sv v H4 l4 R4 r4 q4 => k W4 sv G3 v H4 (((l.trans l2).trans l3).trans l4) R4 r4 q4⟩
end

/-! ### defs -/
/-- a def keeps a promise wherever nothing is being shown -/
structure FnG (P : Program) (w : World) (K : PySem.W.Frag) (mg : Str → Option Value) (base : Heap) (k : Nat) (f : Addr) (fd : FuncData) (ps : List Str) (sp : Sp) : Prop where
  len : ∀ vs H Q E, sp vs H Q E → vs.length = ps.length
  run : ∀ (A : Around) (outer : List Env) (s : Shared) (H : Hp) (args : Args) (us : List Value) (vs : List V) (Q : VK), A.guards = some [] → Room k A → Env0 P w K mg base A outer s H → BindsTo s fd args (ps.zip us) → Vals vs us → sp vs H Q E0 →
    codeAny (model P w) A (.call (.ref f) args) (CR CX0 outer P w H s Q E0) s
theorem FnG.mono {P : Program} {w : World} {K : PySem.W.Frag} {mg : Str → Option Value} {base : Heap} {j k : Nat} {f : Addr} {fd : FuncData} {ps : List Str} {sp : Sp} (F : FnG P w K mg base j f fd ps sp) (h : j ≤ k) : FnG P w K mg base k f fd ps sp :=
  ⟨F.len, fun A outer s H args us vs Q g hr => F.run A outer s H args us vs Q g (hr.mono h)⟩
/-- a def of the text (its positional defaults dvs) and its body -/
theorem fg_of {P : Program} {w : World} {K : PySem.W.Frag} {mg : Str → Option Value} {base : Heap} {k : Nat} {f : Addr} {x qual : Str} {st : Stmt} {dvs : List V} {fd : FuncData} {N ps : List Str} {sp : Sp}
    (F : FunD K x qual (defArgs st) (defBody st) (defScope st) dvs [] f fd) (S : FnScope N ps (defScope st)) (len : ∀ vs H Q E, sp vs H Q E → vs.length = ps.length)
    (body : ∀ (cdv : Value) (A : Around) (outer : List Env) (s : Shared) (H : Hp) (vs : List V) (Q : VK), (A.deeper (envOfC qual (defScope st) s.heap.objs.size f cdv)).guards = some [] → Room k (A.deeper (envOfC qual (defScope st) s.heap.objs.size f cdv)) → sp vs H Q E0 →
      ∃ t, PSs (cxOf CX0 P w K mg base N qual (defScope st) f cdv A outer s H E0).nox (defBody st) t ∧ t { nx := fun _ H' => Q .non H', rt := Q } (start N vs) H) : FnG P w K mg base (k + 1) f fd ps sp := by
  obtain ⟨oc, od, dV, kV, doc, pm, an, cdv, ct, osl, e, lk, hcd, _, _⟩ := F.ex
  subst e
  refine ⟨len, fun A outer s H args us vs Q g hr e0 hb r hsp => ?_⟩
  have KX : K.In s.heap := e0.mod.kin.keeps fun b o q => (e0.bs b o q).1
  have lim : s.heap.NoLimit := e0.mod.nolimit.keeps fun b o q => (e0.bs b o q).1
  have kinds : ∀ y ∈ ps.zip us, (defScope st).names.lookup y.1 = some .local ∨ ((defScope st).names.lookup y.1 = some .cell ∧ ((cellsFrom (s.heap.objs.size + 1) (defScope st).names []).lookup y.1).isSome = true) := by
    rintro ⟨n, v⟩ hy
    exact (S.par n (List.of_mem_zip hy).1).imp id fun q => ⟨q, PySem.W.cellsFrom_some _ _ _ (.inl q)⟩
  refine codeAny_call_function hr.depth (KX _ _ lk) rfl S.co S.gen rfl (PySem.W.codeRec_of KX hcd) (hb _ _ _ _ (wpAny_newFunctionEnv_cells S.kind kinds fun env he s1 x => ?_))
  subst he
  refine ⟨lim.keeps x.toInCall.keep, codeAny_func ?_⟩
  have gd : (A.deeper (envOfC qual (defScope st) s.heap.objs.size f cdv)).guards = some [] := g
  obtain ⟨t, ht, hq⟩ := body cdv A outer s H vs Q gd (hr.deeper _) hsp
  have I : Inv (cxOf CX0 P w K mg base N qual (defScope st) f cdv A outer s H E0) [] (start N vs) H s1 := inv_start S hr.hd e0 (len _ _ _ _ hsp) r x
  refine wpAny_mono (ht.nox.run [] s1 (start N vs) H _ I hq) (fun fl s' hs => ?_) fun _ _ hs => hs
  cases fl with
  | ret u => exact hs.elim fun v ⟨σ', H', J, rv, q⟩ => ⟨v, H', J.os, J.bare, J.base, J.hok, rv, q⟩
  | next => exact hs.elim fun σ' ⟨H', J, q⟩ => ⟨V.non, H', J.os, J.bare, J.base, J.hok, rfl, q⟩
  | brk => exact hs.elim fun _ ⟨_, _, q⟩ => q.elim
  | cont => exact hs.elim fun _ ⟨_, _, q⟩ => q.elim
section
variable {X : Cx} {k n : Nat} {f : Addr} {fd : FuncData} {ps ks : List Str} {sp : Sp} {x : Str} {p pos : Pos} {e : Expr} {es : List Expr} {kws : List Keyword} {t tk : TA} {g : List Value → List Value → List Value} {gV : List V → List V → List V}
/-- a call, however its arguments are bound -/
theorem run_g {pins : List (Addr × Obj)} {σ : St} {H : Hp} {s : Shared} {Q : VK} {us ws : List Value} {vs zs : List V} (F : FnG X.prog X.w X.K X.mg X.base k f fd ps sp) (gd : X.A.guards = some []) (hr : Room k X.A) (hb : KBn X.K fd ps n ks g gV)
    (I : Inv X pins σ H s) (r : Vals vs us) (rz : Vals zs ws) (h1 : vs.length = n) (h2 : zs.length = ks.length) (h : sp (gV vs zs) H Q E0) : wpAny (model X.prog X.w) X.A (call (.ref f) us (ks.zip ws)) (EP X pins σ Q) X.xe s := by
  have bd := hb.to s us ws I.kIn (r.length.symm.trans h1) (rz.length.symm.trans h2)
  refine wpAny_call (codeAny_mono (F.run X.A X.stack s H ⟨us, ks.zip ws⟩ (g us ws) (gV vs zs) Q gd hr I.env0 bd (hb.rel r rz) h) fun r s' hq => ?_)
  cases r with
  | error e => exact False.elim hq
  | ok fl =>
    cases fl with
    | ret u => exact I.after hq
    | _ => exact False.elim hq
/-- the promise, asked with the values as they are bound -/
def tCallG (n m : Nat) (sp : Sp) (gV : List V → List V → List V) (t tk : TA) : TE := fun σ H Q => t σ H fun vs H1 => tk σ H1 fun zs H2 => vs.length = n ∧ zs.length = m ∧ sp (gV vs zs) H2 Q E0
theorem pg_call (F : FnG X.prog X.w X.K X.mg X.base k f fd ps sp) (gd : X.A.guards = some []) (hr : Room k X.A) (hm : X.mg x = some (.ref f)) (hk : PySem.W.keepIn X.K (.ref f) = true) (hb : KBn X.K fd ps n [] g gV)
    (ha : PA X (e :: es) t) (hg : Gl X x := by rfl) (hdb : (x == ("__debug__" : Str)) = false := by decide) (he : starEach (e :: es) X.env = (false, eval e X.env) :: starEach es X.env := by rfl) (hpl : (backTo pos (starEach es X.env)).any (·.1) = false := by rfl) :
    PE X (.Call (.Name x p) (e :: es) [] pos) (tCallG n 0 sp gV t tNil) := by
  refine ⟨fun pins s σ H Q I h => wpAny_Call_Name_kw (ld_glob I hg hm ?_ hdb)⟩
  refine PySem.W.callWith_K (h₀ := X.base) I.ok.mod.kin hk (thn (ha.run pos pins s σ H _ I h) fun us s1 ⟨vs, H1, I1, r, h1, h2, q⟩ => ⟨I1.kIn, ?_⟩) he hpl
  exact run_g (ws := []) F gd hr hb I1 r .nil h1 rfl q
theorem pg_call0 (F : FnG X.prog X.w X.K X.mg X.base k f fd ps sp) (gd : X.A.guards = some []) (hr : Room k X.A) (hm : X.mg x = some (.ref f)) (hk : PySem.W.keepIn X.K (.ref f) = true) (hb : KBn X.K fd ps 0 [] g gV)
    (hg : Gl X x := by rfl) (hdb : (x == ("__debug__" : Str)) = false := by decide) : PE X (.Call (.Name x p) [] [] pos) (tCallG 0 0 sp gV tNil tNil) := by
  refine ⟨fun pins s σ H Q I h => wpAny_Call_Name_kw (ld_glob I hg hm ?_ hdb)⟩
  exact PySem.W.callWith_K0 I.kIn hk (run_g (us := []) (ws := []) F gd hr hb I .nil .nil rfl rfl h.2.2)
theorem pg_callK (F : FnG X.prog X.w X.K X.mg X.base k f fd ps sp) (gd : X.A.guards = some []) (hr : Room k X.A) (hm : X.mg x = some (.ref f)) (hk : PySem.W.keepIn X.K (.ref f) = true) (hb : KBn X.K fd ps n ks g gV)
    (ha : PA X (e :: es) t) (hw : PK X kws tk) (hg : Gl X x := by rfl) (hall : (backToKw pos (keywordEach kws X.env)).all (·.1.isSome) = true := by rfl) (hks : (backToKw pos (keywordEach kws X.env)).filterMap (·.1) = ks := by rfl)
    (hdb : (x == ("__debug__" : Str)) = false := by decide) (he : starEach (e :: es) X.env = (false, eval e X.env) :: starEach es X.env := by rfl)
    (hpl : ((backTo pos (starEach (e :: es) X.env)).any (·.1) || (backToKw pos (keywordEach kws X.env)).any (·.1.isNone)) = false := by rfl) : PE X (.Call (.Name x p) (e :: es) kws pos) (tCallG n ks.length sp gV t tk) := by
  refine ⟨fun pins s σ H Q I h => wpAny_Call_Name_kw (ld_glob I hg hm ?_ hdb)⟩
  refine PySem.W.callWith_KW (h₀ := X.base) I.ok.mod.kin hk hall (thn (ha.run pos pins s σ H _ I h) fun us s1 ⟨vs, H1, I1, r, q⟩ => thn (hw.run pos pins s1 σ H1 _ I1 q) fun ws s2 ⟨zs, H2, I2, rz, h1, h2, q2⟩ => ⟨I2.kIn, ?_⟩) hpl he
  rw [hks]
  exact run_g F gd hr hb I2 r rz h1 h2 q2
theorem pg_callK0 (F : FnG X.prog X.w X.K X.mg X.base k f fd ps sp) (gd : X.A.guards = some []) (hr : Room k X.A) (hm : X.mg x = some (.ref f)) (hk : PySem.W.keepIn X.K (.ref f) = true) (hb : KBn X.K fd ps 0 ks g gV)
    (hw : PK X kws tk) (hg : Gl X x := by rfl) (hall : (backToKw pos (keywordEach kws X.env)).all (·.1.isSome) = true := by rfl) (hks : (backToKw pos (keywordEach kws X.env)).filterMap (·.1) = ks := by rfl)
    (hdb : (x == ("__debug__" : Str)) = false := by decide) (hpl : ((backTo pos (starEach [] X.env)).any (·.1) || (backToKw pos (keywordEach kws X.env)).any (·.1.isNone)) = false := by rfl) : PE X (.Call (.Name x p) [] kws pos) (tCallG 0 ks.length sp gV tNil tk) := by
  refine ⟨fun pins s σ H Q I h => wpAny_Call_Name_kw (ld_glob I hg hm ?_ hdb)⟩
  refine PySem.W.callWith_KW0 (h₀ := X.base) I.ok.mod.kin hk hall (thn (hw.run pos pins s σ H _ I h) fun ws s2 ⟨zs, H2, I2, rz, h1, h2, q2⟩ => ⟨I2.kIn, ?_⟩) hpl
  rw [hks]
  exact run_g (us := []) F gd hr hb I2 .nil rz h1 h2 q2
end

/-! ### promises over data -/
/-- what a def promises of data: the bound arguments, the wanted end -/
abbrev DSp := Nat → List D → (SV → Nat → Prop) → Prop
/-- all that is tracked and neither frozen nor a source is the others' -/
def Full (W : Wd) (P H : Hp) : Prop := ∀ p o, H p = some o → W.F p = none → ¬ W.S p → (∀ xs, o ≠ .tup xs) → P p = some o
def dSp (K : PySem.W.Frag) (S : DSp) : Sp := fun vs H Q _ => ∃ W P n ds Qd, Rl K W P ⟨[], n⟩ [] H ∧ Full W P H ∧ RpL K W ds vs ∧ S n ds Qd ∧
  ∀ W' sv m v H', W.le W' → Rl K W' P ⟨[], m⟩ [] H' → RV K W' P ⟨[], m⟩ [] H' sv v → Qd sv m → Q v H'
/-- a def keeps a promise of data -/
abbrev FnD (P : Program) (w : World) (K : PySem.W.Frag) (mg : Str → Option Value) (base : Heap) (k : Nat) (f : Addr) (fd : FuncData) (ps : List Str) (S : DSp) : Prop := FnG P w K mg base k f fd ps (dSp K S)
section
variable {K : PySem.W.Frag} {W W' : Wd} {P P0 : Hp} {G : Gm} {σ : St} {H H' : Hp}
/-- what stands around a call -/
theorem Rl.enter (R : Rl K W P G σ H) : ∃ P0, Rl K W P0 ⟨[], G.c⟩ [] H ∧ Full W P0 H ∧ ∀ p o, P0 p = some o → H p = some o ∧ W.F p = none ∧ ¬ W.S p := by
  classical
  refine ⟨fun p => if W.F p = none ∧ ¬ W.S p ∧ ∀ xs, H p ≠ some (.tup xs) then H p else none, ⟨rfl, R.le, fun a h => ?_, fun p o e => ?_, fun i d e => ?_, fun i d e => ?_, fun i j d e _ h1 _ => ?_, fun p xs e => ?_⟩, fun p o e f s n => ?_, fun p o e => ?_⟩
  · obtain ⟨h1, _, h3⟩ := R.src a h
    exact ⟨h1, if_neg fun z => z.2.1 h, h3⟩
  · split at e
    · rename_i z; exact ⟨e, z.1⟩
    · cases e
  · cases e
  · cases e
  · cases h1
  · split at e
    · rename_i z; exact z.2.2 xs e
    · cases e
  · show (if W.F p = none ∧ ¬ W.S p ∧ (∀ xs, H p ≠ some (.tup xs)) then H p else none) = some o
    rw [if_pos ⟨f, s, fun xs z => n xs (by rw [e] at z; exact Option.some.inj z)⟩]; exact e
  · have e : (if W.F p = none ∧ ¬ W.S p ∧ (∀ xs, H p ≠ some (.tup xs)) then H p else none) = some o := e
    split at e
    · rename_i z; exact ⟨e, z.1, z.2.1⟩
    · cases e
theorem RO.nt {o : HO} {d : D} (h : RO K W o d) : ∀ xs, o ≠ .tup xs := fun xs z => by subst z; cases d <;> exact h
theorem Rl.leave (R : Rl K W P G σ H) (F : Full W P0 H) (hP : ∀ p o, P0 p = some o → H p = some o ∧ W.F p = none ∧ ¬ W.S p) (l : W.le W') {m : Nat} (R' : Rl K W' P0 ⟨[], m⟩ [] H') : Rl K W' P (G.at m) σ H' := by
  have pp : ∀ p o, P p = some o → P0 p = some o := fun p o e => by
    obtain ⟨h1, h2⟩ := R.prot p o e
    exact F p o h1 h2 (fun s => by have := (R.src p s).2.1; rw [e] at this; cases this) fun xs z => R.pnt p xs (by rw [e, z])
  refine ⟨R.len, R'.le, fun a h => ?_, fun p o e => R'.prot p o (pp p o e), fun i d e => ?_, fun i d e => ?_, R.sep, R.pnt⟩
  · obtain ⟨h1, h2, h3⟩ := R'.src a h
    refine ⟨h1, ?_, h3⟩
    cases q : P a with
    | none => rfl
    | some o => rw [pp a o q] at h2; cases h2
  · obtain ⟨v, h1, h2⟩ := R.dat i d e
    exact ⟨v, h1, Rp.mono l _ _ h2⟩
  · obtain ⟨p, o, h1, h2, h3⟩ := R.own i d e
    have q := F p o h2.at_ h2.f h2.s h3.nt
    obtain ⟨a1, a2⟩ := R'.prot p o q
    exact ⟨p, o, h1, ⟨a1, a2, (fun s => by have := (R'.src p s).2.1; rw [q] at this; cases this), h2.n⟩, h3.mono l⟩
theorem Rl.result (R : Rl K W P G σ H) (F : Full W P0 H) {sv : SV} {v : V} {m : Nat} (r : RV K W' P0 ⟨[], m⟩ [] H' sv v) : RV K W' P (G.at m) σ H' sv v := by
  cases sv with
  | dat d => exact r
  | bor i => obtain ⟨h, _⟩ := r; cases h
  | new d =>
    obtain ⟨p, o, rfl, pr, ro, _⟩ := r
    refine ⟨p, o, rfl, ⟨pr.at_, pr.f, pr.s, ?_⟩, ro, fun i e h1 h2 => ?_⟩
    · cases q : P p with
      | none => rfl
      | some u =>
        obtain ⟨h1, h2⟩ := R.prot p u q
        have := F p u h1 h2 (fun s => by have := (R.src p s).2.1; rw [q] at this; cases this) fun xs z => R.pnt p xs (by rw [q, z])
        rw [pr.n] at this; cases this
    · obtain ⟨q, u, h3, h4, h5⟩ := R.own i e h1
      rw [h2] at h3; cases h3
      have := F p u h4.at_ h4.f h4.s h5.nt
      rw [pr.n] at this; cases this
end
/-! ### calls -/
/-- how a call binds, over data -/
structure Bnd (K : PySem.W.Frag) (fd : FuncData) (ps : List Str) (n : Nat) (ks : List Str) (gD : List D → List D → List D) : Prop where
  ex : ∃ g gV, KBn K fd ps n ks g gV ∧ ∀ (K' : PySem.W.Frag) (W : Wd) (ds es : List D) (vs zs : List V), RpL K' W ds vs → RpL K' W es zs → RpL K' W (gD ds es) (gV vs zs)
/-- these places of a list -/
def sel {α : Type} (p : List Nat) (l : List α) : List α := p.filterMap fun i => l[i]?
theorem sel_paired {α β : Type} {R : α → β → Prop} (p : List Nat) {l : List α} {m : List β} (h : Paired R l m) : Paired R (sel p l) (sel p m) := by
  have gt : ∀ (i : Nat), (l[i]? = none ∧ m[i]? = none) ∨ ∃ a b, l[i]? = some a ∧ m[i]? = some b ∧ R a b := by
    intro i
    induction h generalizing i with
    | nil => exact .inl ⟨rfl, rfl⟩
    | cons r t ih => cases i with
      | zero => exact .inr ⟨_, _, rfl, rfl, r⟩
      | succ n => exact ih n
  induction p with
  | nil => exact .nil
  | cons i p ih =>
    unfold sel at ih ⊢
    rcases gt i with ⟨h1, h2⟩ | ⟨a, b, h1, h2, r⟩
    · rw [List.filterMap_cons, List.filterMap_cons, h1, h2]; exact ih
    · rw [List.filterMap_cons, List.filterMap_cons, h1, h2]; exact .cons r ih
theorem paired_of {K : PySem.W.Frag} {W : Wd} : ∀ {ds : List D} {vs : List V}, RpL K W ds vs → Paired (Rp K W) ds vs
  | [], _, h => by obtain rfl : _ = [] := h; exact .nil
  | d :: ds, _, h => by obtain ⟨v, r, rfl, h1, h2⟩ := h; exact .cons h1 (paired_of h2)
theorem of_paired {K : PySem.W.Frag} {W : Wd} : ∀ {ds : List D} {vs : List V}, Paired (Rp K W) ds vs → RpL K W ds vs
  | _, _, .nil => rfl
  | _, _, .cons h t => ⟨_, _, rfl, h, of_paired t⟩
theorem flats_rp {K : PySem.W.Frag} {W : Wd} : ∀ {ds : List D}, (∀ d ∈ ds, flatD d = true) → RpL K W ds (ds.map flV)
  | [], _ => rfl
  | d :: ds, f => ⟨flV d, ds.map flV, rfl, by
      have := f d List.mem_cons_self
      cases d <;> first | rfl | exact absurd this Bool.false_ne_true, flats_rp fun x hx => f x (List.mem_cons_of_mem _ hx)⟩
section
variable {K : PySem.W.Frag} {x qual : Str} {st : Stmt} {dd : List D} {f : Addr} {fd : FuncData} {ps : List Str}
/-- a def of the text; its defaults are flat data -/
abbrev FunT (K : PySem.W.Frag) (x qual : Str) (st : Stmt) (dd : List D) (f : Addr) (fd : FuncData) : Prop := FunD K x qual (defArgs st) (defBody st) (defScope st) (dd.map flV) [] f fd
/-- no defaults -/
theorem bnd_pos (F : FunT K x qual st [] f fd) (n : Nat) (hn : ps.length = n) (h : ∀ (kV doc pm : Value) (an : Option Addr) (cdv ct : Value) (us : List Value), us.length = n → bindArgs (PySem.W.fnOf x qual (defArgs st) (defBody st) (defScope st) .none kV doc pm an cdv ct) ⟨us, []⟩ = pure (ps.zip us)) :
    Bnd K fd ps n [] fun ds _ => ds := by
  refine ⟨fun us _ => us, fun vs _ => vs, ⟨fun s us ws X h1 h2 => ?_, fun r _ => r⟩, fun _ _ _ _ _ _ r _ => r⟩
  obtain rfl : ws = [] := List.length_eq_zero_iff.mp h2
  subst hn
  exact F.bindsA h s us h1
theorem bnd_key (F : FunT K x qual st [] f fd) (n : Nat) (ks : List Str) (p : List Nat) (h : ∀ (kV doc pm : Value) (an : Option Addr) (cdv ct : Value) (us ws : List Value), us.length = n → ws.length = ks.length → bindArgs (PySem.W.fnOf x qual (defArgs st) (defBody st) (defScope st) .none kV doc pm an cdv ct) ⟨us, ks.zip ws⟩ = pure (ps.zip (sel p (us ++ ws)))) :
    Bnd K fd ps n ks fun ds es => sel p (ds ++ es) := by
  refine ⟨fun us ws => sel p (us ++ ws), fun vs zs => sel p (vs ++ zs), ⟨fun s us ws X h1 h2 => ?_, fun r q => sel_paired p (Vals.append r q)⟩, fun _ _ _ _ _ _ r q => of_paired (sel_paired p (paired_of (RpL.append r q)))⟩
  obtain ⟨oc, od, dV, kV, doc, pm, an, cdv, ct, osl, rfl, lk, hcd, hD, hK⟩ := F.ex
  rcases hD with ⟨_, rfl⟩ | ⟨e, _⟩
  · exact .of_eq (h kV doc pm an cdv ct us ws h1 h2)
  · exact absurd rfl e
/-- with defaults -/
theorem bnd_def (F : FunT K x qual st dd f fd) (hd : dd ≠ []) (fl : ∀ d ∈ dd, flatD d = true) (n : Nat) (ks : List Str) (p : List Nat)
    (h : ∀ (T : Addr) (kV doc pm : Value) (an : Option Addr) (cdv ct : Value) (us ws its : List Value), us.length = n → ws.length = ks.length → its.length = dd.length →
      ∃ k, bindArgs (PySem.W.fnOf x qual (defArgs st) (defBody st) (defScope st) (.ref T) kV doc pm an cdv ct) ⟨us, ks.zip ws⟩ = seqItems? (.ref T) >>= k ∧ k (some its.toArray) = pure (ps.zip (sel p (us ++ ws ++ its)))) :
    Bnd K fd ps n ks fun ds es => sel p (ds ++ es ++ dd) := by
  obtain ⟨oc, od, dV, kV, doc, pm, an, cdv, ct, osl, rfl, lk, hcd, hD, hK⟩ := F.ex
  rcases hD with ⟨e, _⟩ | ⟨_, T, o, its, m, rfl, lT, oT, rT⟩
  · exact absurd (List.map_eq_nil_iff.mp e) hd
  · have l1 : its.length = dd.length := by rw [← rT.length, List.length_map]
    refine ⟨fun us ws => sel p (us ++ ws ++ its), fun vs zs => sel p (vs ++ zs ++ dd.map flV), ⟨fun s us ws X h1 h2 => ?_, fun r q => sel_paired p ((Vals.append r q).append rT)⟩, fun _ _ _ _ _ _ r q => of_paired (sel_paired p (paired_of (RpL.append (RpL.append r q) (flats_rp fl))))⟩
    obtain ⟨k, e1, e2⟩ := h T kV doc pm an cdv ct us ws its h1 h2 l1
    refine BindsTo.of_looks fun M => ?_
    rw [e1]
    exact looks_items X lT oT (.of_pure e2)
end
section
variable {X : Cx} {k n : Nat} {f : Addr} {fd : FuncData} {ps ks : List Str} {S : DSp} {x : Str} {p pos : Pos} {e : Expr} {es : List Expr} {kws : List Keyword} {gD : List D → List D → List D}
def dCall (n m : Nat) (S : DSp) (gD : List D → List D → List D) (t tk : DA) : DE := fun G Q => t G fun ds G1 => tk G1 fun es G2 => ds.length = n ∧ es.length = m ∧ S G2.c (gD ds es) fun r j => Q r (G2.at j)
theorem call_dat {K : PySem.W.Frag} {t tk : DA} {gV : List V → List V → List V} {σ : St} {H : Hp} {Qv : VK} (hg : ∀ (W : Wd) (ds es : List D) (vs zs : List V), RpL K W ds vs → RpL K W es zs → RpL K W (gD ds es) (gV vs zs)) (h : can K (dCall n ks.length S gD t tk) σ H Qv) :
    tCallG n ks.length (dSp K S) gV (canA K t) (canA K tk) σ H Qv := by
  obtain ⟨W, P, G, Q, R, t, kk⟩ := h
  refine ⟨W, P, G, _, R, t, fun W1 ds G1 vs H1 l1 R1 r1 q1 => ⟨W1, P, G1, _, R1, q1, fun W2 es G2 zs H2 l2 R2 r2 q2 => ?_⟩⟩
  obtain ⟨h1, h2, q⟩ := q2
  obtain ⟨P0, R0, F, hP⟩ := R2.enter
  refine ⟨by rw [r1.length]; exact h1, by rw [r2.length]; exact h2, W2, P0, _, _, _, R0, F, hg W2 ds es vs zs (RpL.mono l2 _ _ r1) r2, q, fun W3 sv j v H3 l3 R3 r3 q3 => ?_⟩
  exact kk W3 sv (G2.at j) v H3 ((l1.trans l2).trans l3) (R2.leave F hP l3 R3) (R2.result F r3) q3
theorem de_call {t : DA} (F : FnD X.prog X.w X.K X.mg X.base k f fd ps S) (gd : X.A.guards = some []) (hr : Room k X.A) (hm : X.mg x = some (.ref f)) (hk : PySem.W.keepIn X.K (.ref f) = true) (hb : Bnd X.K fd ps n [] gD)
    (ha : PA X (e :: es) (canA X.K t)) (hg : Gl X x := by rfl) (hdb : (x == ("__debug__" : Str)) = false := by decide) (he : starEach (e :: es) X.env = (false, eval e X.env) :: starEach es X.env := by rfl) (hpl : (backTo pos (starEach es X.env)).any (·.1) = false := by rfl) :
    PE X (.Call (.Name x p) (e :: es) [] pos) (can X.K (dCall n 0 S gD t dNil)) := by
  obtain ⟨g, gV, hb, hr2⟩ := hb.ex
  refine PE.imp (pg_call F gd hr hm hk hb ha hg hdb he hpl) fun σ H Q h => ?_
  have h2 : tCallG n 0 (dSp X.K S) gV (canA X.K t) (canA X.K dNil) σ H Q := call_dat (ks := []) (hr2 X.K) h
  obtain ⟨W, P, G, q, R, t, kk⟩ := h2
  refine ⟨W, P, G, q, R, t, fun W1 ds G1 vs H1 l1 R1 r1 q1 => ?_⟩
  obtain ⟨W2, P2, G2, q2, R2, t2, k2⟩ := kk W1 ds G1 vs H1 l1 R1 r1 q1
  exact k2 W2 [] G2 [] H1 (.refl W2) R2 rfl t2
theorem de_call0 (F : FnD X.prog X.w X.K X.mg X.base k f fd ps S) (gd : X.A.guards = some []) (hr : Room k X.A) (hm : X.mg x = some (.ref f)) (hk : PySem.W.keepIn X.K (.ref f) = true) (hb : Bnd X.K fd ps 0 [] gD)
    (hg : Gl X x := by rfl) (hdb : (x == ("__debug__" : Str)) = false := by decide) : PE X (.Call (.Name x p) [] [] pos) (can X.K (dCall 0 0 S gD dNil dNil)) := by
  obtain ⟨g, gV, hb, hr2⟩ := hb.ex
  refine PE.imp (pg_call0 F gd hr hm hk hb hg hdb) fun σ H Q h => ?_
  have h2 : tCallG 0 0 (dSp X.K S) gV (canA X.K dNil) (canA X.K dNil) σ H Q := call_dat (ks := []) (hr2 X.K) h
  obtain ⟨W, P, G, q, R, t, kk⟩ := h2
  obtain ⟨W2, P2, G2, q2, R2, t2, k2⟩ := kk W [] G [] H (.refl W) R rfl t
  exact k2 W2 [] G2 [] H (.refl W2) R2 rfl t2
/-- keywords' values -/
theorem dk_nil : PK X [] (canA X.K dNil) := by
  refine ⟨fun pos pins s σ H Qv I ⟨W, P, G, Q, R, t, k⟩ => pk_nil.run pos pins s σ H Qv I ?_⟩
  exact k W [] G [] H (.refl W) R rfl t
theorem dk_cons {nm : Option Str} {kpos : Pos} {t : DE} {u : DA} (h : PE X e (can X.K t)) (h2 : PK X kws (canA X.K u)) : PK X (⟨nm, e, kpos⟩ :: kws) (canA X.K (dCons t u)) := by
  refine ⟨fun pos pins s σ H Qv I ⟨W, P, G, Q, R, t, k⟩ => (pk_cons h h2).run pos pins s σ H Qv I ?_⟩
  refine ⟨W, P, G, _, R, t, fun W1 sv G1 v H1 l1 R1 r1 q1 => ?_⟩
  obtain ⟨W2, d, G2, l2, R2, r2, q2⟩ := R1.frz r1 q1
  exact ⟨W2, P, G2, _, R2, q2, fun W3 ds G3 vs H3 l3 R3 r3 q3 => k W3 (d :: ds) G3 (v :: vs) H3 ((l1.trans l2).trans l3) R3 ⟨v, vs, rfl, Rp.mono l3 _ _ r2, r3⟩ q3⟩
theorem de_callK {t tk : DA} (F : FnD X.prog X.w X.K X.mg X.base k f fd ps S) (gd : X.A.guards = some []) (hr : Room k X.A) (hm : X.mg x = some (.ref f)) (hk : PySem.W.keepIn X.K (.ref f) = true) (hb : Bnd X.K fd ps n ks gD)
    (ha : PA X (e :: es) (canA X.K t)) (hw : PK X kws (canA X.K tk)) (hg : Gl X x := by rfl) (hall : (backToKw pos (keywordEach kws X.env)).all (·.1.isSome) = true := by rfl) (hks : (backToKw pos (keywordEach kws X.env)).filterMap (·.1) = ks := by rfl)
    (hdb : (x == ("__debug__" : Str)) = false := by decide) (he : starEach (e :: es) X.env = (false, eval e X.env) :: starEach es X.env := by rfl)
    (hpl : ((backTo pos (starEach (e :: es) X.env)).any (·.1) || (backToKw pos (keywordEach kws X.env)).any (·.1.isNone)) = false := by rfl) : PE X (.Call (.Name x p) (e :: es) kws pos) (can X.K (dCall n ks.length S gD t tk)) := by
  obtain ⟨g, gV, hb, hr2⟩ := hb.ex
  exact PE.imp (pg_callK F gd hr hm hk hb ha hw hg hall hks hdb he hpl) fun σ H Q h => call_dat (hr2 X.K) h
theorem de_callK0 {tk : DA} (F : FnD X.prog X.w X.K X.mg X.base k f fd ps S) (gd : X.A.guards = some []) (hr : Room k X.A) (hm : X.mg x = some (.ref f)) (hk : PySem.W.keepIn X.K (.ref f) = true) (hb : Bnd X.K fd ps 0 ks gD)
    (hw : PK X kws (canA X.K tk)) (hg : Gl X x := by rfl) (hall : (backToKw pos (keywordEach kws X.env)).all (·.1.isSome) = true := by rfl) (hks : (backToKw pos (keywordEach kws X.env)).filterMap (·.1) = ks := by rfl)
    (hdb : (x == ("__debug__" : Str)) = false := by decide) (hpl : ((backTo pos (starEach [] X.env)).any (·.1) || (backToKw pos (keywordEach kws X.env)).any (·.1.isNone)) = false := by rfl) :
    PE X (.Call (.Name x p) [] kws pos) (can X.K (dCall 0 ks.length S gD dNil tk)) := by
  obtain ⟨g, gV, hb, hr2⟩ := hb.ex
  refine PE.imp (pg_callK0 F gd hr hm hk hb hw hg hall hks hdb hpl) fun σ H Q h => ?_
  obtain ⟨W, P, G, q, R, t, kk⟩ := call_dat (gV := gV) (hr2 X.K) h
  exact kk W [] G [] H (.refl W) R rfl t
end

/-! ### statements -/
structure DEnds where
  nx : Gm → Prop
  rt : SV → Nat → Prop
  bk : Gm → Prop := fun _ => False
  ct : Gm → Prop := fun _ => False
abbrev DS := DEnds → Gm → Prop
/-- what follows, over data, gives what follows -/
structure EndsOk (K : PySem.W.Frag) (W : Wd) (P : Hp) (E : DEnds) (D : Ends) : Prop where
  nx : ∀ W' G σ H, W.le W' → Rl K W' P G σ H → E.nx G → D.nx σ H
  bk : ∀ W' G σ H, W.le W' → Rl K W' P G σ H → E.bk G → D.bk σ H
  ct : ∀ W' G σ H, W.le W' → Rl K W' P G σ H → E.ct G → D.ct σ H
  rt : ∀ W' sv n v H, W.le W' → Rl K W' P ⟨[], n⟩ [] H → RV K W' P ⟨[], n⟩ [] H sv v → E.rt sv n → D.rt v H
theorem EndsOk.le {K : PySem.W.Frag} {W W' : Wd} {P : Hp} {E : DEnds} {D : Ends} (e : EndsOk K W P E D) (l : W.le W') : EndsOk K W' P E D :=
  ⟨fun W2 G σ H l2 => e.nx W2 G σ H (l.trans l2), fun W2 G σ H l2 => e.bk W2 G σ H (l.trans l2), fun W2 G σ H l2 => e.ct W2 G σ H (l.trans l2), fun W2 sv n v H l2 => e.rt W2 sv n v H (l.trans l2)⟩
def canS (K : PySem.W.Frag) (t : DS) : TS := fun D σ H => ∃ W P G E, Rl K W P G σ H ∧ t E G ∧ EndsOk K W P E D
section
variable {X : Cx} {K : PySem.W.Frag} {W : Wd} {P : Hp} {G : Gm} {σ : St} {H : Hp} {st : Stmt} {rst : List Stmt} {e : Expr} {pos : Pos}
theorem Rl.bare (R : Rl K W P G σ H) : Rl K W P ⟨[], G.c⟩ [] H := ⟨rfl, R.le, R.src, R.prot, fun _ _ e => (by cases e), fun _ _ e => (by cases e), fun _ _ _ _ _ e _ => (by cases e), R.pnt⟩
def dNext : DS := fun E G => E.nx G
def dSeq (t u : DS) : DS := fun E G => t { E with nx := u E } G
theorem ds_nil : PSs X [] (canS X.K dNext) := PSs.imp pss_nil fun D σ H ⟨W, P, G, E, R, t, k⟩ => k.nx W G σ H (.refl W) R t
theorem ds_cons {t u : DS} (h1 : PS X st (canS X.K t)) (h2 : PSs X rst (canS X.K u)) : PSs X (st :: rst) (canS X.K (dSeq t u)) := by
  refine PSs.imp (pss_cons h1 h2) ?_
  rintro D σ H ⟨W, P, G, E, R, t, k⟩
  exact ⟨W, P, G, _, R, t, ⟨fun W1 G1 σ1 H1 l1 R1 q => ⟨W1, P, G1, E, R1, q, k.le l1⟩, k.bk, k.ct, k.rt⟩⟩
theorem ds_one {t : DS} (h1 : PS X st (canS X.K t)) : PSs X [st] (canS X.K t) := pss_one h1
theorem ds_pass : PS X (.Pass pos) (canS X.K dNext) := PS.imp ps_pass fun D σ H ⟨W, P, G, E, R, t, k⟩ => k.nx W G σ H (.refl W) R t
def dBrk : DS := fun E G => E.bk G
def dCnt : DS := fun E G => E.ct G
theorem ds_break : PS X (.Break pos) (canS X.K dBrk) := PS.imp ps_break fun D σ H ⟨W, P, G, E, R, t, k⟩ => k.bk W G σ H (.refl W) R t
theorem ds_continue : PS X (.Continue pos) (canS X.K dCnt) := PS.imp ps_continue fun D σ H ⟨W, P, G, E, R, t, k⟩ => k.ct W G σ H (.refl W) R t
theorem ds_doc {x j pos'} : PS X (.Expr (.Constant (.str x) j pos) pos') (canS X.K dNext) := PS.imp ps_doc fun D σ H ⟨W, P, G, E, R, t, k⟩ => k.nx W G σ H (.refl W) R t
def dDrop (t : DE) : DS := fun E G => t G fun _ G1 => E.nx G1
theorem ds_expr {t : DE} (he : PE X e (can X.K t)) (hs : swapsWith e none pos.line X.env = pure false := by rfl) : PS X (.Expr e pos) (canS X.K (dDrop t)) := by
  refine PS.imp (ps_expr he hs) ?_
  rintro D σ H ⟨W, P, G, E, R, t, k⟩
  exact ⟨W, P, G, _, R, t, fun W1 sv G1 v H1 l1 R1 r1 q => k.nx W1 G1 σ H1 l1 R1 q⟩
/-- what is handed back: an own object is handed on -/
def rtS (G : Gm) (sv : SV) (k : SV → Prop) : Prop := match sv with
  | .bor i => match gg G i with | some (.own d) => k (.new d) | some (.dat d) => k (.dat d) | none => False
  | s => k s
def dRet (t : DE) : DS := fun E G => t G fun sv G1 => rtS G1 sv fun s => E.rt s G1.c
theorem rtS_ok (R : Rl K W P G σ H) {sv : SV} {v : V} {k : SV → Prop} (r : RV K W P G σ H sv v) (t : rtS G sv k) : ∃ sv', RV K W P ⟨[], G.c⟩ [] H sv' v ∧ k sv' := by
  cases sv with
  | dat d => exact ⟨.dat d, r, t⟩
  | new d =>
    obtain ⟨p, o, e, pr, ro, _⟩ := r
    exact ⟨.new d, ⟨p, o, e, pr, ro, fun i e h => (by cases h)⟩, t⟩
  | bor i =>
    obtain ⟨hv, _⟩ := r
    have t : (match gg G i with | some (.own d) => k (.new d) | some (.dat d) => k (.dat d) | none => False) := t
    cases e : gg G i with
    | none => rw [e] at t; exact t.elim
    | some x =>
      rw [e] at t
      cases x with
      | dat d =>
        obtain ⟨w, h1, h2⟩ := R.dat i d e
        rw [hv] at h1; cases h1
        exact ⟨.dat d, h2, t⟩
      | own d =>
        obtain ⟨p, o, h1, h2, h3⟩ := R.own i d e
        rw [hv] at h1; cases h1
        exact ⟨.new d, ⟨p, o, rfl, h2, h3, fun i e h => (by cases h)⟩, t⟩
theorem ds_ret {t : DE} (he : PE X e (can X.K t)) : PS X (.Return (some e) pos) (canS X.K (dRet t)) := by
  refine PS.imp (ps_ret he) ?_
  rintro D σ H ⟨W, P, G, E, R, t, k⟩
  refine ⟨W, P, G, _, R, t, fun W1 sv G1 v H1 l1 R1 r1 q => ?_⟩
  obtain ⟨sv', r', q'⟩ := rtS_ok R1 r1 q
  exact k.rt W1 sv' G1.c v H1 l1 R1.bare r' q'
def dRetN : DS := fun E G => E.rt (.dat .non) G.c
theorem ds_retN : PS X (.Return none pos) (canS X.K dRetN) := PS.imp ps_retN fun D σ H ⟨W, P, G, E, R, t, k⟩ => k.rt W (.dat .non) G.c .non H (.refl W) R.bare rfl t
def dIfS (c : DT) (t u : DS) : DS := fun E G => c G fun b G1 => if b = true then t E G1 else u E G1
theorem ds_if {c : Expr} {a b : List Stmt} {tc : DT} {t u : DS} (hc : PT X c (canT X.K tc)) (ha : PSs X a (canS X.K t)) (hb : PSs X b (canS X.K u)) : PS X (.If c a b pos) (canS X.K (dIfS tc t u)) := by
  refine PS.imp (ps_if hc ha hb) ?_
  rintro D σ H ⟨W, P, G, E, R, t, k⟩
  refine ⟨W, P, G, _, R, t, fun W1 c G1 H1 l R1 q => ?_⟩
  cases c with
  | true => rw [if_pos rfl] at q ⊢; exact ⟨W1, P, G1, E, R1, q, k.le l⟩
  | false => rw [if_neg Bool.false_ne_true] at q ⊢; exact ⟨W1, P, G1, E, R1, q, k.le l⟩
/-- never reached -/
def dNever : DS := fun _ _ => False
theorem ds_never : PS X st (canS X.K dNever) := PS.imp ps_never fun D σ H ⟨W, P, G, E, R, t, k⟩ => t
theorem dss_never : PSs X rst (canS X.K dNever) := PSs.imp pss_never fun D σ H ⟨W, P, G, E, R, t, k⟩ => t
/-! targets -/
theorem Rl.setDat (R : Rl K W P G σ H) (i : Nat) {d : D} {v : V} (r : Rp K W d v) : Rl K W P (gset G i (some (.dat d))) (σ.set i (some v)) H := by
  have key : ∀ {j : Nat} {x : SC}, gg (gset G i (some (.dat d))) j = some x → (j = i ∧ i < G.length ∧ x = .dat d) ∨ (j ≠ i ∧ gg G j = some x) := fun {j x} e => by
    by_cases hj : j = i
    · have hl : i < G.length := by have := gg_lt e; rw [gset_len] at this; omega
      rw [hj, gg_set_self _ _ _ hl] at e; cases e; exact .inl ⟨hj, hl, rfl⟩
    · rw [gg_set_ne _ _ _ _ hj] at e; exact .inr ⟨hj, e⟩
  have oth : ∀ {j : Nat}, j ≠ i → (σ.set i (some v))[j]? = σ[j]? := fun {j} h => List.getElem?_set_ne (Ne.symm h)
  refine ⟨by rw [gset_len, List.length_set]; exact R.len, R.le, R.src, R.prot, fun j x e => ?_, fun j x e => ?_, fun j k x y n h1 h2 => ?_, R.pnt⟩
  · rcases key e with ⟨hj, hl, e'⟩ | ⟨hj, e'⟩
    · cases e'; subst hj
      exact ⟨v, List.getElem?_set_self (by rw [← R.len]; exact hl), r⟩
    · rw [oth hj]; exact R.dat j x e'
  · rcases key e with ⟨_, _, e'⟩ | ⟨hj, e'⟩
    · cases e'
    · rw [oth hj]; exact R.own j x e'
  · rcases key h1 with ⟨_, _, e'⟩ | ⟨hj, e1⟩
    · cases e'
    · rcases key h2 with ⟨_, _, e'⟩ | ⟨hk, e2⟩
      · cases e'
      · rw [oth hj, oth hk]; exact R.sep j k x y n e1 e2
theorem Rl.setOwn (R : Rl K W P G σ H) (i : Nat) {d : D} {p : Addr} {o : HO} (pr : Priv W H P p o) (r : RO K W o d) (hn : ∀ i e, gg G i = some (.own e) → σ[i]? ≠ some (some (.ref p))) : Rl K W P (gset G i (some (.own d))) (σ.set i (some (.ref p))) H := by
  have key : ∀ {j : Nat} {x : SC}, gg (gset G i (some (.own d))) j = some x → (j = i ∧ i < G.length ∧ x = .own d) ∨ (j ≠ i ∧ gg G j = some x) := fun {j x} e => by
    by_cases hj : j = i
    · have hl : i < G.length := by have := gg_lt e; rw [gset_len] at this; omega
      rw [hj, gg_set_self _ _ _ hl] at e; cases e; exact .inl ⟨hj, hl, rfl⟩
    · rw [gg_set_ne _ _ _ _ hj] at e; exact .inr ⟨hj, e⟩
  have oth : ∀ {j : Nat}, j ≠ i → (σ.set i (some (V.ref p)))[j]? = σ[j]? := fun {j} h => List.getElem?_set_ne (Ne.symm h)
  have slf : i < G.length → (σ.set i (some (V.ref p)))[i]? = some (some (V.ref p)) := fun h => List.getElem?_set_self (by rw [← R.len]; exact h)
  refine ⟨by rw [gset_len, List.length_set]; exact R.len, R.le, R.src, R.prot, fun j x e => ?_, fun j x e => ?_, fun j k x y n h1 h2 => ?_, R.pnt⟩
  · rcases key e with ⟨_, _, e'⟩ | ⟨hj, e'⟩
    · cases e'
    · rw [oth hj]; exact R.dat j x e'
  · rcases key e with ⟨hj, hl, e'⟩ | ⟨hj, e'⟩
    · cases e'; subst hj
      exact ⟨p, o, slf hl, pr, r⟩
    · rw [oth hj]; exact R.own j x e'
  · rcases key h1 with ⟨hj, hl, _⟩ | ⟨hj, e1⟩
    · rcases key h2 with ⟨hk, _, _⟩ | ⟨hk, e2⟩
      · exact absurd (hj.trans hk.symm) n
      · subst hj; rw [slf hl, oth hk]; exact fun z => hn k y e2 z.symm
    · rcases key h2 with ⟨hk, hl, _⟩ | ⟨hk, e2⟩
      · subst hk; rw [slf hl, oth hj]; exact hn j x e1
      · rw [oth hj, oth hk]; exact R.sep j k x y n e1 e2
/-- a value comes to rest in a slot -/
def rest1 (G : Gm) (sv : SV) (k : SC → Gm → Prop) : Prop := match sv with
  | .dat d => k (.dat d) G
  | .new d => k (.own d) G
  | .bor i => match gg G i with | some (.own d) => k (.dat d) (gset G i (some (.dat d))) | some (.dat d) => k (.dat d) G | none => False
theorem Rl.rest (R : Rl K W P G σ H) {sv : SV} {v : V} {i : Nat} {k : SC → Gm → Prop} (r : RV K W P G σ H sv v) (t : rest1 G sv k) : ∃ W' c G', W.le W' ∧ Rl K W' P (gset G' i (some c)) (σ.set i (some v)) H ∧ k c G' := by
  cases sv with
  | dat d => exact ⟨W, .dat d, G, .refl W, R.setDat i r, t⟩
  | new d =>
    obtain ⟨p, o, rfl, pr, ro, hn⟩ := r
    exact ⟨W, .own d, G, .refl W, R.setOwn i pr ro hn, t⟩
  | bor j =>
    have t : LD.frz G (SV.bor j) fun d G1 => k (.dat d) G1 := t
    obtain ⟨W', d, G', l, R', r', q⟩ := R.frz r t
    exact ⟨W', .dat d, G', l, R'.setDat i r', q⟩
abbrev DG := SV → Gm → (Gm → Prop) → Prop
abbrev DGs := List D → Gm → (Gm → Prop) → Prop
/-- but for the slots vs all stand as before -/
def But (vs : List Nat) (σ σ' : St) : Prop := σ'.length = σ.length ∧ ∀ j, j ∉ vs → σ'[j]? = σ[j]?
theorem But.refl (vs : List Nat) (σ : St) : But vs σ σ := ⟨rfl, fun _ _ => rfl⟩
theorem But.trans {vs : List Nat} {a b c : St} (h : But vs a b) (g : But vs b c) : But vs a c := ⟨g.1.trans h.1, fun j hj => (g.2 j hj).trans (h.2 j hj)⟩
theorem But.set {vs : List Nat} {σ : St} {i : Nat} (h : i ∈ vs) (x : Option V) : But vs σ (σ.set i x) := ⟨List.length_set, fun j hj => List.getElem?_set_ne (show i ≠ j from fun e => hj (by rw [← e]; exact h))⟩
def canG (K : PySem.W.Frag) (vs : List Nat) (t : DG) : TG := fun v σ H Qs => ∃ W P G sv Q, Rl K W P G σ H ∧ RV K W P G σ H sv v ∧ t sv G Q ∧ ∀ W' G' σ' H', W.le W' → Rl K W' P G' σ' H' → But vs σ σ' → Q G' → Qs σ' H'
def canGs (K : PySem.W.Frag) (ws : List Nat) (t : DGs) : TGs := fun vs σ H Qs => ∃ W P G ds Q, Rl K W P G σ H ∧ RpL K W ds vs ∧ t ds G Q ∧ ∀ W' G' σ' H', W.le W' → Rl K W' P G' σ' H' → But ws σ σ' → Q G' → Qs σ' H'
theorem PG.imp {t u : TG} (h : PG X e t) (i : ∀ v σ H Q, u v σ H Q → t v σ H Q) : PG X e u := ⟨fun pins s σ H v x Q I r q => h.run pins s σ H v x Q I r (i v σ H Q q)⟩
theorem PGs.imp {es : List Expr} {t u : TGs} (h : PGs X es t) (i : ∀ v σ H Q, u v σ H Q → t v σ H Q) : PGs X es u := ⟨fun pins s σ H v x Q I r q => h.run pins s σ H v x Q I r (i v σ H Q q)⟩
def dgName (i : Nat) : DG := fun sv G Q => rest1 G sv fun c G1 => Q (gset G1 i (some c))
theorem dg_name {x : Str} {ws : List Nat} (i : Nat) (hN : X.N.Nodup) (hw : i ∈ ws := by decide) (hi : X.N[i]? = some x := by rfl) (hx : Loc X.env.scope x := by first | exact Or.inl rfl | exact Or.inr rfl) (hf : X.fn x = true ∨ X.env.scope.names.lookup x = some .local := by first | exact .inl rfl | exact .inr rfl) : PG X (.Name x pos) (canG X.K ws (dgName i)) := by
  refine PG.imp (pg_name hN hi hx hf) ?_
  rintro v σ H Qs ⟨W, P, G, sv, Q, R, r, t, k⟩
  obtain ⟨W', c, G', l, R', q⟩ := R.rest (i := i) r t
  exact k W' _ _ H l R' (But.set hw _) q
def dgNil : DGs := fun ds G Q => ds = [] ∧ Q G
def dgCons (t : DG) (u : DGs) : DGs := fun ds G Q => match ds with
  | d :: r => t (.dat d) G fun G1 => u r G1 Q
  | [] => False
theorem dgs_nil {ws : List Nat} : PGs X [] (canGs X.K ws dgNil) := by
  refine PGs.imp pgs_nil ?_
  rintro vs σ H Qs ⟨W, P, G, ds, Q, R, r, ⟨e, t⟩, k⟩
  subst e
  exact ⟨r, k W G σ H (.refl W) R (.refl _ _) t⟩
theorem dgs_cons {es : List Expr} {t : DG} {u : DGs} {ws : List Nat} (h1 : PG X e (canG X.K ws t)) (h2 : PGs X es (canGs X.K ws u)) (hs : (assignEach (e :: es) X.env).map (·.2) = assign e X.env :: (assignEach es X.env).map (·.2) := by rfl) : PGs X (e :: es) (canGs X.K ws (dgCons t u)) := by
  refine PGs.imp (pgs_cons h1 h2 hs) ?_
  rintro vs σ H Qs ⟨W, P, G, ds, Q, R, r, t, k⟩
  cases ds with
  | nil => exact False.elim t
  | cons d r' =>
    obtain ⟨v, w, rfl, h1, h2⟩ := r
    exact ⟨v, w, rfl, W, P, G, .dat d, _, R, h1, t, fun W1 G1 σ1 H1 l R1 b1 q => ⟨W1, P, G1, r', Q, R1, RpL.mono l _ _ h2, q, fun W2 G2 σ2 H2 l2 R2 b2 q2 => k W2 G2 σ2 H2 (l.trans l2) R2 (b1.trans b2) q2⟩⟩
/-- a, b = a tuple -/
def dgTup (n : Nat) (t : DGs) : DG := fun sv G Q => match sv with
  | .dat (.tup ds) => ds.length = n ∧ t ds G Q
  | _ => False
theorem dg_tup {es : List Expr} {k : Nat} {t : DGs} {n : Nat} {ws : List Nat} (h : PGs X es (canGs X.K ws t)) (hc : X.calm = true := by rfl) (hn : (assignEach es X.env).length = n := by rfl) (hst : (assignEach es X.env).findIdx? (·.1) = none := by rfl) : PG X (.Tuple es k pos) (canG X.K ws (dgTup n t)) := by
  refine PG.imp (pg_tup hc h hn hst) ?_
  rintro v σ H Qs ⟨W, P, G, sv, Q, R, r, t, k⟩
  cases sv <;> first | exact False.elim t | skip
  rename_i d
  cases d <;> first | exact False.elim t | skip
  obtain ⟨a, xs, rfl, e, r⟩ := r
  exact ⟨a, xs, rfl, .of (R.le _ _ e), by rw [r.length]; exact t.1, W, P, G, _, Q, R, r, t.2, k⟩
def dAsg (t : DE) (g : DG) : DS := fun E G => t G fun sv G1 => g sv G1 E.nx
theorem asg_ok {t : DE} {g : DG} {D : Ends} {ws : List Nat} (h : canS K (dAsg t g) D σ H) : tAsg (can K t) (canG K ws g) D σ H := by
  obtain ⟨W, P, G, E, R, t, k⟩ := h
  exact ⟨W, P, G, _, R, t, fun W1 sv G1 v H1 l1 R1 r1 q => ⟨W1, P, G1, sv, _, R1, r1, q, fun W2 G2 σ2 H2 l2 R2 _ q2 => k.nx W2 G2 σ2 H2 (l1.trans l2) R2 q2⟩⟩
theorem ds_asg {tg : Expr} {t : DE} {g : DG} {ws : List Nat} (he : PE X e (can X.K t)) (hg : PG X tg (canG X.K ws g)) (hs : swapsWithSole [tg] e pos.line X.env = pure false := by rfl) (hw : swappedStores [tg] e X.env = pure none := by rfl)
    (h1 : (assignEach [tg] X.env).map (·.2) = [assign tg X.env] := by rfl) : PS X (.Assign [tg] e pos) (canS X.K (dAsg t g)) := PS.imp (ps_asg he hg hs hw h1) fun _ _ _ h => asg_ok h
theorem ds_set {x : Str} (i : Nat) {t : DE} {pos' : Pos} (hN : X.N.Nodup) (he : PE X e (can X.K t)) (hi : X.N[i]? = some x := by rfl) (hx : Loc X.env.scope x := by first | exact Or.inl rfl | exact Or.inr rfl)
    (hs : swapsWith e (some (.Name x pos')) pos.line X.env = pure false := by rfl) (hf : X.fn x = true ∨ X.env.scope.names.lookup x = some .local := by first | exact .inl rfl | exact .inr rfl) :
    PS X (.Assign [.Name x pos'] e pos) (canS X.K (dAsg t (dgName i))) := by
  refine PS.imp (ps_set hN hi hx he hs hf) fun D σ H h => ?_
  obtain ⟨W, P, G, Q, R, t, k⟩ := asg_ok (ws := [i]) h
  refine ⟨W, P, G, Q, R, t, fun W1 sv G1 v H1 l1 R1 r1 q => ?_⟩
  obtain ⟨W2, P2, G2, sv2, Q2, R2, r2, t2, k2⟩ := k W1 sv G1 v H1 l1 R1 r1 q
  obtain ⟨W', c, G', l, R', q⟩ := R2.rest (i := i) r2 t2
  exact k2 W' _ _ H1 l R' (But.set (by simp) _) q
/-- a, b = x, y -/
def dPar (i j : Nat) (t : DA) : DS := fun E G => t G fun ds G1 => match ds with
  | a :: b :: r => r = [] ∧ E.nx (gset (gset G1 i (some (.dat a))) j (some (.dat b)))
  | _ => False
theorem ds_par {x y : Str} {a b : Expr} (i j : Nat) {t : DA} {px py pt : Pos} {kt k2 pt2} (hN : X.N.Nodup) (ha : PA X [a, b] (canA X.K t)) (hc : X.calm = true := by rfl) (hi : X.N[i]? = some x := by rfl) (hj : X.N[j]? = some y := by rfl) (hij : i ≠ j := by decide)
    (hx : X.env.scope.names.lookup x = some .local := by rfl) (hy : X.env.scope.names.lookup y = some .local := by rfl)
    (hw : swappedStores [.Tuple [.Name x px, .Name y py] kt pt] (.Tuple [a, b] k2 pt2) X.env = pure (some [x, y]) := by rfl)
    (hs : swapsWithSole [.Tuple [.Name x px, .Name y py] kt pt] (.Tuple [a, b] k2 pt2) pos.line X.env = pure false := by rfl) :
    PS X (.Assign [.Tuple [.Name x px, .Name y py] kt pt] (.Tuple [a, b] k2 pt2) pos) (canS X.K (dPar i j t)) := by
  refine PS.imp (ps_par hc hN hi hj hij hx hy ha hw hs) ?_
  rintro D σ H ⟨W, P, G, E, R, t, k⟩
  refine ⟨W, P, G, _, R, t, fun W1 ds G1 vs H1 l R1 r1 q => ?_⟩
  cases ds with
  | nil => exact False.elim q
  | cons a r => cases r with
    | nil => exact False.elim q
    | cons b r =>
      obtain ⟨e, q⟩ := q
      subst e
      obtain ⟨v, r, rfl, h1, w, r', rfl, h2, h3⟩ := r1
      obtain rfl : r' = [] := h3
      exact ⟨v, w, rfl, k.nx W1 _ _ H1 l ((R1.setDat i h1).setDat j h2) q⟩
/-- name op= e -/
def dAug (i : Nat) (dr : D2) (t : DE) : DS := fun E G => match gg G i with
  | some (.dat a) => t G fun sv G1 => see G1 sv fun b => flatD a = true ∧ dr a b fun r => rest1 G1 r fun c G2 => E.nx (gset G2 i (some c))
  | _ => False
theorem ds_aug {x : Str} {op : Operator} {dr : D2} {pos' : Pos} (i : Nat) {t : DE} (hN : X.N.Nodup) (ho : OpR X (inplaceOp op) (canO X.K dr)) (he : PE X e (can X.K t)) (hi : X.N[i]? = some x := by rfl) (hx : Loc X.env.scope x := by first | exact Or.inl rfl | exact Or.inr rfl)
    (hf : X.fn x = true ∨ X.env.scope.names.lookup x = some .local := by first | exact .inl rfl | exact .inr rfl) : PS X (.AugAssign (.Name x pos') op e pos) (canS X.K (dAug i dr t)) := by
  refine PS.imp (ps_aug hN hi hx he (ti := canO X.K dr) ho hf) ?_
  rintro D σ H ⟨W, P, G, E, R, tt, k⟩
  have tt : (match gg G i with | some (.dat a) => t G fun sv G1 => see G1 sv fun b => flatD a = true ∧ dr a b fun r => rest1 G1 r fun c G2 => E.nx (gset G2 i (some c)) | _ => False) := tt
  split at tt
  · rename_i a e
    obtain ⟨v, h1, h2⟩ := R.dat i a e
    refine ⟨v, h1, can_one R tt fun W1 G1 sa y H1 l R1 s1 q => ?_⟩
    obtain ⟨d, n, fl, q⟩ := R1.see s1 q
    refine ⟨W1, P, G1, σ, a, d, _, R1, R1.rn (Rp.mono l _ _ h2), n, q, fun W2 sv z H2 l2 R2 r2 q2 => ?_⟩
    obtain ⟨W3, c, G3, l3, R3, q3⟩ := R2.rest (i := i) r2 q2
    exact k.nx W3 _ _ H2 ((l.trans l2).trans l3) R3 q3
  · exact tt.elim
def dIAdd : D2 := fun a b Q => match a, b with | .int i, .int j => Q (.dat (.int (i + j))) | _, _ => False
theorem od_iadd : OpR X (inplaceOp .Add) (canO X.K dIAdd) := by
  refine OpR.imp (iop_add (X := X)) ?_
  rintro x y H Qv ⟨W, P, G, σ, a, b, Q, R, ha, hb, t, r⟩
  cases a <;> first | exact False.elim t | skip
  rename_i i
  obtain rfl : x = .int i := ha
  cases b <;> first | exact False.elim t | skip
  rename_i j
  obtain rfl : y = .int j := hb
  exact ⟨i, j, rfl, rfl, r.int R t⟩
theorem od_isub : OpR X (inplaceOp .Sub) (canO X.K dSub) := by
  refine OpR.imp (iop_sub (X := X)) ?_
  rintro x y H Qv ⟨W, P, G, σ, a, b, Q, R, ha, hb, t, r⟩
  cases a <;> first | exact False.elim t | skip
  rename_i i
  obtain rfl : x = .int i := ha
  cases b <;> first | exact False.elim t | skip
  rename_i j
  obtain rfl : y = .int j := hb
  exact ⟨i, j, rfl, rfl, r.int R t⟩
end

/-! ### what is walked -/
def Walks (K : PySem.W.Frag) (W0 : Wd) (J : It) (ds : List D) : Prop := ∀ W P G σ H i, W0.le W → Rl K W P G σ H →
  (∀ d, ds[i]? = some d → J.go i H ∧ ∀ x H', J.yld i H x H' → ∃ W', W.le W' ∧ Rl K W' P G σ H' ∧ Rp K W' d x) ∧ (ds.length ≤ i → J.stop i H)
abbrev DI := Gm → (List D → Gm → Prop) → Prop
def canI (K : PySem.W.Frag) (t : DI) : TI := fun σ H R => ∃ W P G Q, Rl K W P G σ H ∧ t G Q ∧ ∀ W' ds G' J H', W.le W' → Rl K W' P G' σ H' → Walks K W' J ds → Q ds G' → R J H'
section
variable {X : Cx} {K : PySem.W.Frag} {W : Wd} {P : Hp} {G : Gm} {σ : St} {H : Hp} {e a b tg iter : Expr} {pos : Pos}
theorem PI.imp {t u : TI} (h : PI X tg e t) (i : ∀ σ H R, u σ H R → t σ H R) : PI X tg e u := ⟨fun pins s σ H R I q => h.run pins s σ H R I (i σ H R q)⟩
theorem walks_list {p : Addr} {xs : List V} {ds : List D} (e : W.F p = some (.lst xs)) (r : RpL K W ds xs) : Walks K W (Itl K p) ds := by
  intro W' P G σ H i l R
  have e' : H p = some (.lst xs) := R.le _ _ (l.f _ _ e)
  refine ⟨fun d hd => ?_, fun hi => ⟨xs, .of e', by rw [r.length]; exact hi⟩⟩
  obtain ⟨v, hv, rv⟩ := r.get hd
  refine ⟨⟨xs, v, .of e', hv⟩, fun x H' ⟨h1, h2⟩ => ?_⟩
  subst h1
  have := h2 xs (.of e')
  rw [hv] at this; cases this
  exact ⟨W', .refl W', R, Rp.mono l _ _ rv⟩
theorem walks_tup {p : Addr} {xs : List V} {ds : List D} (e : W.F p = some (.tup xs)) (r : RpL K W ds xs) : Walks K W (Itt K p) ds := by
  intro W' P G σ H i l R
  have e' : H p = some (.tup xs) := R.le _ _ (l.f _ _ e)
  refine ⟨fun d hd => ?_, fun hi => ⟨xs, .of e', by rw [r.length]; exact hi⟩⟩
  obtain ⟨v, hv, rv⟩ := r.get hd
  refine ⟨⟨xs, v, .of e', hv⟩, fun x H' ⟨h1, h2⟩ => ?_⟩
  subst h1
  have := h2 xs (.of e')
  rw [hv] at this; cases this
  exact ⟨W', .refl W', R, Rp.mono l _ _ rv⟩
def rangeD (lo : Int) : Nat → List D
  | 0 => []
  | n + 1 => .int lo :: rangeD (lo + 1) n
theorem rangeD_get : ∀ (n : Nat) (lo : Int) (i : Nat), (rangeD lo n)[i]? = if i < n then some (.int (lo + i)) else none
  | 0, lo, i => by simp [rangeD]
  | n + 1, lo, 0 => by simp [rangeD]
  | n + 1, lo, i + 1 => by
    show (rangeD (lo + 1) n)[i]? = _
    rw [rangeD_get n]
    by_cases h : i < n
    · rw [if_pos h, if_pos (by omega)]; congr 2; omega
    · rw [if_neg h, if_neg (by omega)]
theorem rangeD_len : ∀ (n : Nat) (lo : Int), (rangeD lo n).length = n
  | 0, _ => rfl
  | n + 1, lo => congrArg Nat.succ (rangeD_len n (lo + 1))
theorem walks_range (lo : Int) (n : Nat) : Walks K W (Itr lo n) (rangeD lo n) := by
  intro W' P G σ H i l R
  refine ⟨fun d hd => ?_, fun hi => by rw [rangeD_len] at hi; exact hi⟩
  rw [rangeD_get] at hd
  by_cases h : i < n
  · rw [if_pos h] at hd; cases hd
    refine ⟨h, fun x H' ⟨h1, h2⟩ => ?_⟩
    subst h1 h2
    exact ⟨W', .refl W', R, rfl⟩
  · rw [if_neg h] at hd; cases hd
def enumD : Int → List D → List D
  | _, [] => []
  | i, d :: r => .tup [.int i, d] :: enumD (i + 1) r
theorem enumD_get : ∀ (ds : List D) (k : Int) (i : Nat), (enumD k ds)[i]? = (ds[i]?).map fun d => .tup [.int (k + i), d]
  | [], _, _ => by simp [enumD]
  | d :: r, k, 0 => by simp [enumD]
  | d :: r, k, i + 1 => by
    show (enumD (k + 1) r)[i]? = _
    rw [enumD_get r]
    show _ = (r[i]?).map _
    congr 1; funext x; congr 3; omega
theorem enumD_len : ∀ (ds : List D) (k : Int), (enumD k ds).length = ds.length
  | [], _ => rfl
  | d :: r, k => congrArg Nat.succ (enumD_len r (k + 1))
def zipD : List D → List D → List D
  | a :: r, b :: s => .tup [a, b] :: zipD r s
  | _, _ => []
theorem zipD_get : ∀ (ds es : List D) (i : Nat) (d : D), (zipD ds es)[i]? = some d → ∃ a b, ds[i]? = some a ∧ es[i]? = some b ∧ d = .tup [a, b]
  | a :: r, b :: s, 0, d, h => by cases h; exact ⟨a, b, rfl, rfl, rfl⟩
  | a :: r, b :: s, i + 1, d, h => zipD_get r s i d h
  | [], _, _, _, h => by simp [zipD] at h
  | _ :: _, [], _, _, h => by simp [zipD] at h
theorem zipD_end : ∀ (ds es : List D) (i : Nat), (zipD ds es).length ≤ i → ds.length ≤ i ∨ es.length ≤ i
  | a :: r, b :: s, 0, h => by simp [zipD] at h
  | a :: r, b :: s, i + 1, h => by
    have := zipD_end r s i (by simpa [zipD] using h)
    simpa using this
  | [], _, _, _ => .inl (Nat.zero_le _)
  | _ :: _, [], _, _ => .inr (Nat.zero_le _)
/-- a list, or a tuple, or the script -/
def asL (d : D) (k : List D → Prop) : Prop := match d with
  | .lst ds => k ds
  | .tup ds => k ds
  | .scr ns => k (ns.map D.int)
  | _ => False
def dWalk (t : DE) : DI := fun G Q => t G fun sv G1 => frz G1 sv fun d G2 => asL d fun ds => Q ds G2
def iAny (K : PySem.W.Frag) (tl : TE) : TI := fun σ H R => tl σ H fun x H1 => ∃ a, x = .ref a ∧ (((∃ xs, SqL K H1 a xs) ∧ R (Itl K a) H1) ∨ ((∃ xs, SqT K H1 a xs) ∧ R (Itt K a) H1))
theorem pi_any {tl : TE} (hl : PE X e tl) : PI X tg e (iAny X.K tl) := by
  refine ⟨fun pins s σ H R I h => thn (hl.run pins s σ H _ I h) fun v s1 ⟨x, H1, I1, r1, p, ex, q1⟩ => ?_⟩
  subst ex
  cases r1
  have I2 : ∀ o : Obj, Inv X pins σ H1 { s1 with heap := s1.heap.push o } := fun o => I1.kept (t' := s1.toks) fun b u z => Heap.get?_push_of_some _ z
  have new : ∀ b ∈ [s1.heap.objs.size], FpOk X pins H1 b := fun b hb => by
    obtain rfl := List.mem_singleton.mp hb
    exact I1.fpOk (Nat.le_refl _) (I1.hok.fresh (Nat.le_refl _))
  rcases q1 with ⟨⟨xs, hq⟩, q⟩ | ⟨⟨xs, hq⟩, q⟩
  · obtain ⟨its, _, pl, _⟩ := I1.list hq
    exact wpAny_pyIter_list pl.isList ⟨s1.heap.objs.size, _, _, _, H1, rfl, I2 _, turn_list p _, ⟨_, Heap.get?_push_size _ rfl, rfl, rfl⟩, new, q⟩
  · obtain ⟨its, _, pl, _⟩ := I1.tuple hq
    exact wpAny_pyIter_tuple (show s1.heap.IsTuple p its.toArray from pl) ⟨s1.heap.objs.size, _, _, _, H1, rfl, I2 _, turn_tuple p _, ⟨_, Heap.get?_push_size _ rfl, rfl, rfl⟩, new, q⟩
theorem walks_scr {p : Addr} {ns : List Int} (e : SqL K W.F p (ns.map V.int)) : Walks K W (Itl K p) (ns.map D.int) := by
  intro W' P G σ H i l R
  have e' : SqL K H p (ns.map V.int) := R.sqL (sqL_le l e)
  refine ⟨fun d hd => ?_, fun hi => ⟨_, e', by rw [List.length_map] at hi ⊢; exact hi⟩⟩
  rw [List.getElem?_map] at hd
  obtain ⟨n, hn, rfl⟩ := Option.map_eq_some_iff.mp hd
  have hv : (ns.map V.int)[i]? = some (.int n) := by rw [List.getElem?_map, hn]; rfl
  refine ⟨⟨_, .int n, e', hv⟩, fun x H' ⟨h1, h2⟩ => ?_⟩
  subst h1
  have := h2 _ e'
  rw [hv] at this; cases this
  exact ⟨W', .refl W', R, rfl⟩
theorem asL_ok (R : Rl K W P G σ H) {d : D} {x : V} {k : List D → Prop} (r : Rp K W d x) (t : asL d k) : ∃ p xs ds, x = .ref p ∧ k ds ∧ RpL K W ds xs ∧ ((SqL K W.F p xs ∧ Walks K W (Itl K p) ds) ∨ (SqT K W.F p xs ∧ Walks K W (Itt K p) ds)) := by
  cases d <;> first | exact False.elim t | skip
  · obtain ⟨p, rfl, s⟩ := r
    exact ⟨p, _, _, rfl, t, RpL.ofInts _, .inl ⟨s, walks_scr s⟩⟩
  · obtain ⟨p, xs, rfl, s, r⟩ := r
    exact ⟨p, xs, _, rfl, t, r, .inr ⟨.of s, walks_tup s r⟩⟩
  · obtain ⟨p, xs, rfl, s, r⟩ := r
    exact ⟨p, xs, _, rfl, t, r, .inl ⟨.of s, walks_list s r⟩⟩
theorem di_walk {t : DE} (h : PE X e (can X.K t)) : PI X tg e (canI X.K (dWalk t)) := by
  refine PI.imp (pi_any h) ?_
  rintro σ H R0 ⟨W, P, G, Q, R, t, k⟩
  refine ⟨W, P, G, _, R, t, fun W1 sv G1 v H1 l1 R1 r1 q1 => ?_⟩
  obtain ⟨W2, d, G2, l2, R2, r2, q2⟩ := R1.frz r1 q1
  obtain ⟨p, xs, ds, rfl, q, _, w⟩ := asL_ok R2 r2 q2
  refine ⟨p, rfl, ?_⟩
  rcases w with ⟨s, w⟩ | ⟨s, w⟩
  · exact .inl ⟨⟨xs, R2.sqL s⟩, k W2 ds G2 _ H1 (l1.trans l2) R2 w q⟩
  · exact .inr ⟨⟨xs, R2.sqT s⟩, k W2 ds G2 _ H1 (l1.trans l2) R2 w q⟩
def dRng1 (t : DA) : DI := fun G Q => t G fun ds G1 => match ds with
  | .int j :: _ => (-(2 ^ 62) ≤ j ∧ j < 2 ^ 62) ∧ ds.length = 1 ∧ Q (rangeD 0 j.toNat) G1
  | _ => False
def dRng2 (t : DA) : DI := fun G Q => t G fun ds G1 => match ds with
  | .int i :: .int j :: _ => (-(2 ^ 62) ≤ i ∧ i < 2 ^ 62 ∧ -(2 ^ 62) ≤ j ∧ j < 2 ^ 62) ∧ ds.length = 2 ∧ Q (rangeD i (j - i).toNat) G1
  | _ => False
theorem di_range1 {t : DA} {p : Pos} (hm : X.mg "range" = none) (ha : PA X [a] (canA X.K t)) (hg : Gl X "range" := by rfl) (hs : starEach [a] X.env = [(false, eval a X.env)] := by rfl) : PI X tg (.Call (.Name "range" p) [a] [] pos) (canI X.K (dRng1 t)) := by
  refine PI.imp (pi_range1 hg hm ha hs) ?_
  rintro σ H R0 ⟨W, P, G, Q, R, t, k⟩
  refine ⟨W, P, G, _, R, t, fun W1 ds G1 vs H1 l1 R1 r1 q1 => ?_⟩
  cases ds with
  | nil => exact False.elim q1
  | cons d r =>
    cases d <;> first | exact False.elim q1 | skip
    rename_i j
    obtain ⟨⟨h1, h2⟩, hl, q⟩ := q1
    obtain ⟨v, w, rfl, rfl, r2⟩ := r1
    have : r = [] := List.length_eq_zero_iff.mp (Nat.succ.inj hl)
    subst this
    obtain rfl : w = [] := r2
    exact ⟨j, rfl, h1, h2, k W1 _ G1 _ H1 l1 R1 (walks_range 0 _) q⟩
theorem di_range2 {t : DA} {p : Pos} (hm : X.mg "range" = none) (ha : PA X [a, b] (canA X.K t)) (hg : Gl X "range" := by rfl) (hs : starEach [a, b] X.env = [(false, eval a X.env), (false, eval b X.env)] := by rfl) (hs2 : starEach [b] X.env = [(false, eval b X.env)] := by rfl) :
    PI X tg (.Call (.Name "range" p) [a, b] [] pos) (canI X.K (dRng2 t)) := by
  refine PI.imp (pi_range2 hg hm ha hs hs2) ?_
  rintro σ H R0 ⟨W, P, G, Q, R, t, k⟩
  refine ⟨W, P, G, _, R, t, fun W1 ds G1 vs H1 l1 R1 r1 q1 => ?_⟩
  cases ds with
  | nil => exact False.elim q1
  | cons d r =>
    cases d <;> first | exact False.elim q1 | skip
    rename_i i
    cases r with
    | nil => exact False.elim q1
    | cons d r =>
      cases d <;> first | exact False.elim q1 | skip
      rename_i j
      obtain ⟨hh, hl, q⟩ := q1
      obtain ⟨v, w, rfl, rfl, v2, w2, rfl, rfl, r2⟩ := r1
      have : r = [] := List.length_eq_zero_iff.mp (Nat.succ.inj (Nat.succ.inj hl))
      subst this
      obtain rfl : w2 = [] := r2
      exact ⟨i, j, rfl, hh, k W1 _ G1 _ H1 l1 R1 (walks_range i _) q⟩
def dEnum (t : DA) : DI := fun G Q => t G fun ds G1 => match ds with
  | d :: r => r = [] ∧ asLs d fun es => Q (enumD 0 es) G1
  | _ => False
where asLs (d : D) (k : List D → Prop) : Prop := match d with
  | .lst ds => k ds
  | .scr ns => k (ns.map D.int)
  | _ => False
theorem asLs_ok {d : D} {x : V} {k : List D → Prop} (r : Rp K W d x) (t : dEnum.asLs d k) : ∃ p xs ds, x = .ref p ∧ k ds ∧ RpL K W ds xs ∧ SqL K W.F p xs := by
  cases d <;> first | exact False.elim t | skip
  · obtain ⟨p, rfl, s⟩ := r
    exact ⟨p, _, _, rfl, t, RpL.ofInts _, s⟩
  · obtain ⟨p, xs, rfl, s, r⟩ := r
    exact ⟨p, xs, _, rfl, t, r, .of s⟩
theorem walks_enum {p : Addr} {xs : List V} {ds : List D} (e : SqL K W.F p xs) (r : RpL K W ds xs) : Walks K W (Ite K p) (enumD 0 ds) := by
  intro W' P G σ H i l R
  have e' : SqL K H p xs := R.sqL (sqL_le l e)
  refine ⟨fun d hd => ?_, fun hi => ⟨xs, e', by rw [r.length]; rw [enumD_len] at hi; exact hi⟩⟩
  rw [enumD_get] at hd
  obtain ⟨x0, hx, rfl⟩ := Option.map_eq_some_iff.mp hd
  obtain ⟨v, hv, rv⟩ := r.get hx
  refine ⟨⟨xs, v, e', hv⟩, fun x H' ⟨T, y, h1, h2, h3, h4⟩ => ?_⟩
  subst h1 h3
  have := h4 xs e'
  rw [hv] at this; cases this
  obtain ⟨W2, l2, R2, r2⟩ := R.allocT (ds := [.int (i : Nat), x0]) h2 ⟨_, _, rfl, rfl, _, _, rfl, Rp.mono l _ _ rv, rfl⟩
  exact ⟨W2, l2, R2, by rw [show (0 : Int) + (i : Nat) = (i : Nat) by omega]; exact r2⟩
theorem di_enum {t : DA} {p : Pos} {elts : List Expr} {kk : Nat} {tpos : Pos} (hm : X.mg "enumerate" = none) (ha : PA X [e] (canA X.K t)) (hg : Gl X "enumerate" := by rfl) (hs : starEach [e] X.env = [(false, eval e X.env)] := by rfl) : PI X (.Tuple elts kk tpos) (.Call (.Name "enumerate" p) [e] [] pos) (canI X.K (dEnum t)) := by
  refine PI.imp (pi_enum hg hm ha hs) ?_
  rintro σ H R0 ⟨W, P, G, Q, R, t, k⟩
  refine ⟨W, P, G, _, R, t, fun W1 ds G1 vs H1 l1 R1 r1 q1 => ?_⟩
  cases ds with
  | nil => exact False.elim q1
  | cons d r =>
    obtain ⟨e, q⟩ := q1
    subst e
    obtain ⟨v, w, rfl, r1, r2⟩ := r1
    obtain rfl : w = [] := r2
    obtain ⟨p, xs, ds, rfl, q, rr, s⟩ := asLs_ok r1 q
    exact ⟨p, xs, rfl, R1.sqL s, k W1 _ G1 _ H1 l1 R1 (walks_enum s rr) q⟩
def dZip (t : DA) : DI := fun G Q => t G fun ds G1 => match ds with
  | d :: e :: r => r = [] ∧ dEnum.asLs d fun es => dEnum.asLs e fun fs => Q (zipD es fs) G1
  | _ => False
theorem walks_zip {p q : Addr} {xs ys : List V} {ds es : List D} (e : SqL K W.F p xs) (r : RpL K W ds xs) (e2 : SqL K W.F q ys) (r2 : RpL K W es ys) : Walks K W (Itz K p q) (zipD ds es) := by
  intro W' P G σ H i l R
  have e' : SqL K H p xs := R.sqL (sqL_le l e)
  have e2' : SqL K H q ys := R.sqL (sqL_le l e2)
  refine ⟨fun d hd => ?_, fun hi => ⟨xs, ys, e', e2', by rw [r.length, r2.length]; exact zipD_end ds es i hi⟩⟩
  obtain ⟨x0, y0, hx, hy, rfl⟩ := zipD_get ds es i d hd
  obtain ⟨v, hv, rv⟩ := r.get hx
  obtain ⟨w, hw, rw'⟩ := r2.get hy
  refine ⟨⟨xs, ys, v, w, e', e2', hv, hw⟩, fun x H' ⟨T, y, z, h1, h2, h3, h4, h5⟩ => ?_⟩
  subst h1 h3
  have a1 := h4 xs e'
  have a2 := h5 ys e2'
  rw [hv] at a1; cases a1
  rw [hw] at a2; cases a2
  exact R.allocT (ds := [x0, y0]) h2 ⟨_, _, rfl, Rp.mono l _ _ rv, _, _, rfl, Rp.mono l _ _ rw', rfl⟩
theorem di_zip {t : DA} {p : Pos} {e2 : Expr} {elts : List Expr} {kk : Nat} {tpos : Pos} (hm : X.mg "zip" = none) (ha : PA X [e, e2] (canA X.K t)) (hg : Gl X "zip" := by rfl) (hs : starEach [e, e2] X.env = (false, eval e X.env) :: starEach [e2] X.env := by rfl) (hpl : (backTo pos (starEach [e2] X.env)).any (·.1) = false := by rfl) :
    PI X (.Tuple elts kk tpos) (.Call (.Name "zip" p) [e, e2] [] pos) (canI X.K (dZip t)) := by
  refine PI.imp (pi_zip hg hm ha hs hpl) ?_
  rintro σ H R0 ⟨W, P, G, Q, R, t, k⟩
  refine ⟨W, P, G, _, R, t, fun W1 ds G1 vs H1 l1 R1 r1 q1 => ?_⟩
  cases ds with
  | nil => exact False.elim q1
  | cons d r =>
    cases r with
    | nil => exact False.elim q1
    | cons e r =>
      obtain ⟨e0, q⟩ := q1
      subst e0
      obtain ⟨v, w, rfl, r1, v2, w2, rfl, r2, r3⟩ := r1
      obtain rfl : w2 = [] := r3
      obtain ⟨p, xs, ds, rfl, q, rr, s⟩ := asLs_ok r1 q
      obtain ⟨p2, ys, es, rfl, q, rr2, s2⟩ := asLs_ok r2 q
      exact ⟨p, p2, xs, ys, rfl, R1.sqL s, R1.sqL s2, k W1 _ G1 _ H1 l1 R1 (walks_zip s rr s2 rr2) q⟩
/-! ### for, while -/
def forL (g : DG) (tb : DS) (E : DEnds) : List D → Gm → Prop
  | [], G => E.nx G
  | d :: r, G => g (.dat d) G fun G1 => tb { E with nx := forL g tb E r, ct := forL g tb E r, bk := E.nx } G1
def dFor (t : DI) (g : DG) (tb : DS) : DS := fun E G => t G fun ds G1 => forL g tb E ds G1
/-- what a for asks of the walk J -/
def ForB (g : TG) (tb : TS) (D : Ends) (σ : St) (J : It) (H1 : Hp) : Prop := ∃ W : Nat → Nat → St → Hp → Prop, (∃ m, W 0 m σ H1) ∧ ∀ i m σ H, W i m σ H →
  (J.stop i H ∧ D.nx σ H) ∨ (J.go i H ∧ ∃ N : St → Hp → Prop, (∀ σ' H', N σ' H' → ∃ m', m' < m ∧ W (i + 1) m' σ' H') ∧ ∀ x H', J.yld i H x H' → g x σ H' fun σ2 H2 => tb { D with nx := N, ct := N, bk := D.nx } σ2 H2)
theorem for_J {g : DG} {tb : DS} {ws : List Nat} {E : DEnds} {W1 : Wd} {G1 : Gm} {H1 : Hp} {J : It} {ds : List D} {D : Ends} (R1 : Rl K W1 P G1 σ H1) (w : Walks K W1 J ds) (q : forL g tb E ds G1) (k : EndsOk K W1 P E D) : ForB (canG K ws g) (canS K tb) D σ J H1 := by
  refine ⟨fun i m σ H => ∃ W2 G2, W1.le W2 ∧ Rl K W2 P G2 σ H ∧ i + m = ds.length ∧ forL g tb E (ds.drop i) G2, ⟨ds.length, W1, G1, .refl W1, R1, by omega, q⟩, ?_⟩
  rintro i m σ H ⟨W2, G2, l2, R2, hm, q2⟩
  obtain ⟨w1, w2⟩ := w W2 P G2 σ H i l2 R2
  by_cases hi : i < ds.length
  · obtain ⟨hgo, hy⟩ := w1 ds[i] (List.getElem?_eq_getElem hi)
    rw [List.drop_eq_getElem_cons hi] at q2
    refine .inr ⟨hgo, fun σ' H' => ∃ W3 G3, W1.le W3 ∧ Rl K W3 P G3 σ' H' ∧ forL g tb E (ds.drop (i + 1)) G3, fun σ' H' ⟨W3, G3, l3, R3, q3⟩ => ⟨m - 1, by omega, W3, G3, l3, R3, by omega, q3⟩, fun x H' hx => ?_⟩
    obtain ⟨W3, l3, R3, r3⟩ := hy x H' hx
    refine ⟨W3, P, G2, .dat ds[i], _, R3, r3, q2, fun W4 G4 σ4 H4 l4 R4 _ q4 => ?_⟩
    have l5 : W1.le W4 := (l2.trans l3).trans l4
    exact ⟨W4, P, G4, _, R4, q4, ⟨fun W6 G6 σ6 H6 l6 R6 q6 => ⟨W6, G6, l5.trans l6, R6, q6⟩, fun W6 G6 σ6 H6 l6 R6 q6 => k.nx W6 G6 σ6 H6 (l5.trans l6) R6 q6,
      fun W6 G6 σ6 H6 l6 R6 q6 => ⟨W6, G6, l5.trans l6, R6, q6⟩, fun W6 sv n v H6 l6 => k.rt W6 sv n v H6 (l5.trans l6)⟩⟩
  · rw [List.drop_eq_nil_of_le (by omega)] at q2
    exact .inl ⟨w2 (by omega), k.nx W2 G2 σ H l2 R2 q2⟩
theorem ds_for {body : List Stmt} {t : DI} {g : DG} {tb : DS} {ws : List Nat} (hp : PassesOwn (model X.prog X.w) X.A X.env X.xe) (hi : PI X tg iter (canI X.K t)) (hg : PG X tg (canG X.K ws g)) (hb : PSs X body (canS X.K tb)) (hc : X.calm = true := by rfl)
    (hs : ∀ x, foldedSetIterable iter X.env x = pure x := by intro _; rfl) : PS X (.For tg iter body [] pos) (canS X.K (dFor t g tb)) := by
  refine PS.imp (ps_for hp hc hi hg hb hs) ?_
  rintro D σ H ⟨W, P, G, E, R, t, k⟩
  exact ⟨W, P, G, _, R, t, fun W1 ds G1 J H1 l1 R1 w q => for_J R1 w q (k.le l1)⟩
def whN (c : DT) (tb : DS) (E : DEnds) : Nat → Gm → Prop
  | 0, _ => False
  | n + 1, G => c G fun b G1 => if b = true then tb { E with nx := whN c tb E n, ct := whN c tb E n, bk := E.nx } G1 else E.nx G1
def dWhile (c : DT) (tb : DS) : DS := fun E G => ∃ n, whN c tb E n G
theorem ds_while {c : Expr} {body : List Stmt} {tc : DT} {tb : DS} (hp : PassesOwn (model X.prog X.w) X.A X.env X.xe) (hc : PT X c (canT X.K tc)) (hb : PSs X body (canS X.K tb)) : PS X (.While c body [] pos) (canS X.K (dWhile tc tb)) := by
  refine PS.imp (ps_while hp hc hb) ?_
  rintro D σ H ⟨W, P, G, E, R, ⟨n, t⟩, k⟩
  refine ⟨fun m σ H => ∃ W2 G2, W.le W2 ∧ Rl X.K W2 P G2 σ H ∧ whN tc tb E m G2, ⟨n, W, G, .refl W, R, t⟩, ?_⟩
  rintro m σ H ⟨W2, G2, l2, R2, q2⟩
  cases m with
  | zero => exact False.elim q2
  | succ m =>
    refine ⟨W2, P, G2, _, R2, q2, fun W3 b G3 H3 l3 R3 q3 => ?_⟩
    cases b with
    | true =>
      rw [if_pos rfl] at q3 ⊢
      refine ⟨fun σ' H' => ∃ W4 G4, W.le W4 ∧ Rl X.K W4 P G4 σ' H' ∧ whN tc tb E m G4, fun σ' H' ⟨W4, G4, l4, R4, q4⟩ => ⟨m, Nat.lt_succ_self _, W4, G4, l4, R4, q4⟩, ?_⟩
      have l5 : W.le W3 := l2.trans l3
      exact ⟨W3, P, G3, _, R3, q3, ⟨fun W6 G6 σ6 H6 l6 R6 q6 => ⟨W6, G6, l5.trans l6, R6, q6⟩, fun W6 G6 σ6 H6 l6 R6 q6 => k.nx W6 G6 σ6 H6 (l5.trans l6) R6 q6,
        fun W6 G6 σ6 H6 l6 R6 q6 => ⟨W6, G6, l5.trans l6, R6, q6⟩, fun W6 sv n v H6 l6 => k.rt W6 sv n v H6 (l5.trans l6)⟩⟩
    | false =>
      rw [if_neg Bool.false_ne_true] at q3 ⊢
      exact k.nx W3 G3 σ H3 (l2.trans l3) R3 q3
end

/-! ### comprehensions -/
def wipeG : List Nat → Gm → Gm
  | [], G => G
  | i :: vs, G => gset (wipeG vs G) i none
def datO : Option SC → Option SC
  | some (.dat d) => some (.dat d)
  | _ => none
/-- the block's own slots as they stood ahead of it -/
def backG : List Nat → Gm → Gm → Gm
  | [], _, G => G
  | i :: vs, G0, G => gset (backG vs G0 G) i (datO (gg G0 i))
theorem wipeG_len : ∀ (vs : List Nat) (G : Gm), (wipeG vs G).length = G.length
  | [], _ => rfl
  | i :: vs, G => by rw [wipeG, gset_len, wipeG_len vs G]
theorem backG_len : ∀ (vs : List Nat) (G0 G : Gm), (backG vs G0 G).length = G.length
  | [], _, _ => rfl
  | i :: vs, G0, G => by rw [backG, gset_len, backG_len vs G0 G]
theorem wipeG_c : ∀ (vs : List Nat) (G : Gm), (wipeG vs G).c = G.c
  | [], _ => rfl
  | i :: vs, G => by rw [wipeG]; exact wipeG_c vs G
theorem backG_c : ∀ (vs : List Nat) (G0 G : Gm), (backG vs G0 G).c = G.c
  | [], _, _ => rfl
  | i :: vs, G0, G => by rw [backG]; exact backG_c vs G0 G
theorem gg_none {G : Gm} {n : Nat} (h : G.length ≤ n) : gg G n = none := by
  cases e : gg G n with
  | none => rfl
  | some x => exact absurd (gg_lt e) (by omega)
theorem gg_wipe : ∀ (vs : List Nat) (G : Gm) (j : Nat), gg (wipeG vs G) j = if j ∈ vs then none else gg G j
  | [], _, _ => by simp [wipeG]
  | i :: vs, G, j => by
    rw [wipeG]
    by_cases h : j = i
    · subst h
      rw [if_pos List.mem_cons_self]
      by_cases hl : j < (wipeG vs G).length
      · exact gg_set_self _ _ _ hl
      · exact gg_none (by rw [gset_len]; omega)
    · rw [gg_set_ne _ _ _ _ h, gg_wipe vs G j]
      simp [h]
theorem gg_back : ∀ (vs : List Nat) (G0 G : Gm) (j : Nat), G.length = G0.length → gg (backG vs G0 G) j = if j ∈ vs then datO (gg G0 j) else gg G j
  | [], _, _, _, _ => by simp [backG]
  | i :: vs, G0, G, j, hl => by
    rw [backG]
    by_cases h : j = i
    · subst h
      rw [if_pos List.mem_cons_self]
      by_cases hj : j < (backG vs G0 G).length
      · exact gg_set_self _ _ _ hj
      · rw [gg_none (by rw [gset_len]; omega), gg_none (G := G0) (by rw [← hl, ← backG_len vs G0 G]; omega)]; rfl
    · rw [gg_set_ne _ _ _ _ h, gg_back vs G0 G j hl]
      simp [h]
theorem wipe_get : ∀ (vs : List Nat) (σ : St) (j : Nat), (wipe σ vs)[j]? = if j ∈ vs then (σ[j]?).map (fun _ => none) else σ[j]?
  | [], _, _ => by simp [wipe]
  | i :: vs, σ, j => by
    rw [wipe]
    by_cases h : j = i
    · subst h
      rw [if_pos List.mem_cons_self]
      by_cases hl : j < (wipe σ vs).length
      · rw [List.getElem?_set_self hl, List.getElem?_eq_getElem (by rw [wipe_length] at hl; exact hl)]; rfl
      · rw [List.getElem?_eq_none (by rw [List.length_set]; omega), List.getElem?_eq_none (by rw [wipe_length] at hl; omega)]; rfl
    · rw [List.getElem?_set_ne (Ne.symm h), wipe_get vs σ j]
      simp [h]
theorem But.wipe {vs : List Nat} {σ σ' : St} (h : But vs σ σ') : L2.wipe σ' vs = L2.wipe σ vs := by
  apply List.ext_getElem?
  intro j
  rw [wipe_get, wipe_get]
  by_cases hj : j ∈ vs
  · rw [if_pos hj, if_pos hj]
    by_cases hl : j < σ.length
    · rw [List.getElem?_eq_getElem hl, List.getElem?_eq_getElem (by rw [h.1]; exact hl)]; rfl
    · rw [List.getElem?_eq_none (l := σ) (by omega), List.getElem?_eq_none (l := σ') (by rw [h.1]; omega)]
  · rw [if_neg hj, if_neg hj, h.2 j hj]
theorem But.of_wipe {vs : List Nat} {σ σ' : St} (h : But vs (L2.wipe σ vs) σ') : L2.wipe σ' vs = L2.wipe σ vs := by
  rw [h.wipe]
  apply List.ext_getElem?
  intro j
  rw [wipe_get, wipe_get]
  by_cases hj : j ∈ vs
  · rw [if_pos hj, if_pos hj]; cases σ[j]? <;> rfl
  · rw [if_neg hj, if_neg hj]
section
variable {X : Cx} {K : PySem.W.Frag} {W : Wd} {P : Hp} {G G0 : Gm} {σ : St} {H : Hp} {e a b tg iter elt : Expr} {pos : Pos}
theorem Rl.wipe (R : Rl K W P G σ H) (vs : List Nat) : Rl K W P (wipeG vs G) (L2.wipe σ vs) H := by
  have key : ∀ {j : Nat} {x : SC}, gg (wipeG vs G) j = some x → j ∉ vs ∧ gg G j = some x := fun {j x} e => by
    rw [gg_wipe] at e
    by_cases h : j ∈ vs
    · rw [if_pos h] at e; cases e
    · rw [if_neg h] at e; exact ⟨h, e⟩
  have oth : ∀ {j : Nat}, j ∉ vs → (L2.wipe σ vs)[j]? = σ[j]? := fun {j} h => by rw [wipe_get, if_neg h]
  refine ⟨by rw [wipeG_len, wipe_length]; exact R.len, R.le, by rw [wipeG_c]; exact R.src, R.prot, fun i d e => ?_, fun i d e => ?_, fun i j d e n h1 h2 => ?_, R.pnt⟩
  · obtain ⟨h, e⟩ := key e; rw [oth h]; exact R.dat i d e
  · obtain ⟨h, e⟩ := key e; rw [oth h]; exact R.own i d e
  · obtain ⟨a1, e1⟩ := key h1; obtain ⟨a2, e2⟩ := key h2
    rw [oth a1, oth a2]; exact R.sep i j d e n e1 e2
/-- behind the block -/
theorem Rl.back {W0 : Wd} {P0 H0 : Hp} {vs : List Nat} (R : Rl K W P (wipeG vs G) (L2.wipe σ vs) H) (l : W0.le W) (R0 : Rl K W0 P0 G0 σ H0) : Rl K W P (backG vs G0 G) σ H := by
  have hl : G.length = G0.length := by
    have h1 := R.len
    rw [wipeG_len, wipe_length] at h1
    exact h1.trans R0.len.symm
  have key : ∀ {j : Nat} {x : SC}, gg (backG vs G0 G) j = some x → (j ∈ vs ∧ ∃ d, x = .dat d ∧ gg G0 j = some (.dat d)) ∨ (j ∉ vs ∧ gg (wipeG vs G) j = some x) := fun {j x} e => by
    rw [gg_back _ _ _ _ hl] at e
    by_cases h : j ∈ vs
    · rw [if_pos h] at e
      cases q : gg G0 j with
      | none => rw [q] at e; cases e
      | some y =>
        rw [q] at e
        cases y with
        | own d => cases e
        | dat d => cases e; exact .inl ⟨h, d, rfl, rfl⟩
    · rw [if_neg h] at e; exact .inr ⟨h, by rw [gg_wipe, if_neg h]; exact e⟩
  have oth : ∀ {j : Nat}, j ∉ vs → (L2.wipe σ vs)[j]? = σ[j]? := fun {j} h => by rw [wipe_get, if_neg h]
  refine ⟨by rw [backG_len, hl]; exact R0.len, R.le, by have := R.src; rw [wipeG_c] at this; rw [backG_c]; exact this, R.prot, fun i d e => ?_, fun i d e => ?_, fun i j d e n h1 h2 => ?_, R.pnt⟩
  · rcases key e with ⟨_, d', e1, e2⟩ | ⟨h, e1⟩
    · cases e1
      obtain ⟨v, h1, h2⟩ := R0.dat i d e2
      exact ⟨v, h1, Rp.mono l _ _ h2⟩
    · rw [← oth h]; exact R.dat i d e1
  · rcases key e with ⟨_, d', e1, _⟩ | ⟨h, e1⟩
    · cases e1
    · rw [← oth h]; exact R.own i d e1
  · rcases key h1 with ⟨_, d', e1, _⟩ | ⟨a1, e1⟩
    · cases e1
    · rcases key h2 with ⟨_, d', e2, _⟩ | ⟨a2, e2⟩
      · cases e2
      · rw [← oth a1, ← oth a2]; exact R.sep i j d e n e1 e2
theorem pnt_upd {p : Addr} {o : HO} (h : ∀ p xs, P p ≠ some (.tup xs)) (no : ∀ xs, o ≠ .tup xs) : ∀ q xs, upd P p o q ≠ some (.tup xs) := fun q xs e => by
  by_cases hq : q = p
  · subst hq; rw [upd_same] at e; exact no xs (Option.some.inj e)
  · rw [upd_ne hq] at e; exact h q xs e
/-- a new object as one of the others' -/
theorem Rl.guard (R : Rl K W P G σ H) {p : Addr} {o : HO} (hp : H p = none) (no : ∀ xs, o ≠ .tup xs := by intro _ z; cases z) : P p = none ∧ W.F p = none ∧ Rl K W (upd P p o) G σ (upd H p o) := by
  have nF : W.F p = none := by
    cases e : W.F p with
    | none => rfl
    | some u => rw [R.le _ _ e] at hp; cases hp
  have nP : P p = none := by
    cases e : P p with
    | none => rfl
    | some u => rw [(R.prot _ _ e).1] at hp; cases hp
  have old : ∀ b u, H b = some u → upd H p o b = some u := fun b u e => by rw [upd_ne (ne_of_none e hp)]; exact e
  refine ⟨nP, nF, R.len, fun b u e => old b u (R.le b u e), fun a h => ?_, fun q u e => ?_, R.dat, fun i x e => ?_, R.sep, pnt_upd R.pnt no⟩
  · obtain ⟨h1, h2, x, y, z, e, h3⟩ := R.src a h
    exact ⟨h1, by rw [upd_ne (ne_of_none e hp)]; exact h2, x, y, z, old _ _ e, h3⟩
  · by_cases hq : q = p
    · subst hq; rw [upd_same] at e ⊢; exact ⟨e, nF⟩
    · rw [upd_ne hq] at e
      obtain ⟨h1, h2⟩ := R.prot q u e
      exact ⟨old _ _ h1, h2⟩
  · obtain ⟨q, u, h1, h2, h3⟩ := R.own i x e
    exact ⟨q, u, h1, ⟨old _ _ h2.at_, h2.f, h2.s, by rw [upd_ne (ne_of_none h2.at_ hp)]; exact h2.n⟩, h3⟩
theorem Rl.reguard {p : Addr} {o o' : HO} (R : Rl K W (upd P p o) G σ H) (no : ∀ xs, o' ≠ .tup xs := by intro _ z; cases z) : H p = some o ∧ Rl K W (upd P p o') G σ (upd H p o') := by
  obtain ⟨hp, nF⟩ := R.prot p o upd_same
  refine ⟨hp, R.len, fun b u e => ?_, fun a h => ?_, fun q u e => ?_, R.dat, fun i x e => ?_, R.sep, fun q xs e => ?_⟩
  · rw [upd_ne (fun z => by rw [z, nF] at e; cases e)]; exact R.le b u e
  · obtain ⟨h1, h2, x, y, z, e, h3⟩ := R.src a h
    have na : a ≠ p := fun q => by subst q; rw [upd_same] at h2; cases h2
    rw [upd_ne na] at h2
    exact ⟨h1, by rw [upd_ne na]; exact h2, x, y, z, by rw [upd_ne na]; exact e, h3⟩
  · by_cases hq : q = p
    · subst hq; rw [upd_same] at e ⊢; exact ⟨e, nF⟩
    · rw [upd_ne hq] at e ⊢
      exact R.prot q u (by rw [upd_ne hq]; exact e)
  · obtain ⟨q, u, h1, h2, h3⟩ := R.own i x e
    have nq : q ≠ p := fun z => by have := h2.n; rw [z, upd_same] at this; cases this
    refine ⟨q, u, h1, ⟨by rw [upd_ne nq]; exact h2.at_, h2.f, h2.s, ?_⟩, h3⟩
    have := h2.n
    rw [upd_ne nq] at this ⊢; exact this
  · by_cases hq : q = p
    · subst hq; rw [upd_same] at e; exact no xs (Option.some.inj e)
    · rw [upd_ne hq] at e; exact R.pnt q xs (by rw [upd_ne hq]; exact e)
theorem Rl.unguard {p : Addr} {o : HO} {d : D} (nP : P p = none) (r : RO K W o d) (R : Rl K W (upd P p o) G σ H) : Rl K W P G σ H ∧ RV K W P G σ H (.new d) (.ref p) := by
  obtain ⟨hp, nF⟩ := R.prot p o upd_same
  have nS : ¬ W.S p := fun h => by have := (R.src p h).2.1; rw [upd_same] at this; cases this
  have sub : ∀ q, upd P p o q = none → P q = none := fun q e => by
    by_cases hq : q = p
    · subst hq; exact nP
    · rw [upd_ne hq] at e; exact e
  refine ⟨⟨R.len, R.le, fun a h => ?_, fun q u e => R.prot q u ?_, R.dat, fun i x e => ?_, R.sep, fun q xs e => R.pnt q xs (by rw [upd_ne (fun z => by rw [z, nP] at e; cases e)]; exact e)⟩, p, o, rfl, ⟨hp, nF, nS, nP⟩, r, fun i e h1 h2 => ?_⟩
  · obtain ⟨h1, h2, h3⟩ := R.src a h
    exact ⟨h1, sub a h2, h3⟩
  · rw [upd_ne (fun z => by rw [z, nP] at e; cases e)]; exact e
  · obtain ⟨q, u, h1, h2, h3⟩ := R.own i x e
    exact ⟨q, u, h1, ⟨h2.at_, h2.f, h2.s, sub q h2.n⟩, h3⟩
  · obtain ⟨q, u, h3, h4, _⟩ := R.own i e h1
    rw [h2] at h3; cases h3
    have := h4.n
    rw [upd_same] at this; cases this
/-- a clause's tests -/
def dYes : DT := fun G Q => Q true G
theorem dts_nil : PTs X [] (canT X.K dYes) := ⟨fun pins s σ H Qv I ⟨W, P, G, Q, R, t, k⟩ => pts_nil.run pins s σ H Qv I (k W true G H (.refl W) R t)⟩
theorem dts_one {c : Expr} {t : DT} (h : PT X c (canT X.K t)) : PTs X [c] (canT X.K t) := pts_one h
/-- turn by turn, the new list grown -/
def lcL (vs : List Nat) (g : DG) (tt : DT) (te : DE) (Qe : List D → Gm → Prop) : List D → List D → Gm → Prop
  | [], acc, G => Qe acc G
  | d :: r, acc, G => g (.dat d) G fun G1 => tt G1 fun b G2 => if b = true then te G2 fun sv G3 => frz G3 sv fun y G4 => lcL vs g tt te Qe r (acc ++ [y]) (wipeG vs G4) else lcL vs g tt te Qe r acc (wipeG vs G2)
def dLc (vs : List Nat) (t : DI) (g : DG) (tt : DT) (te : DE) : DE := fun G Q => t G fun ds G1 => ds.length ≤ sizeLine ∧ lcL vs g tt te (fun acc G2 => Q (.new (.lst acc)) (backG vs G1 G2)) ds [] (wipeG vs G1)
theorem sl_ext : ∀ {A B : List (Option SC)}, A.length = B.length → (∀ j, ggl A j = ggl B j) → A = B := by
  intro A
  induction A with
  | nil => intro B h _; exact (List.length_eq_zero_iff.mp h.symm).symm
  | cons x r ih =>
    intro B h f
    cases B with
    | nil => cases h
    | cons y s =>
      have : x = y := f 0
      rw [this, ih (Nat.succ.inj h) fun j => f (j + 1)]
theorem gm_ext {A B : Gm} (c : A.c = B.c) (h : A.length = B.length) (f : ∀ j, gg A j = gg B j) : A = B := by
  obtain ⟨a, n⟩ := A
  obtain ⟨b, m⟩ := B
  cases (c : n = m)
  rw [sl_ext (A := a) (B := b) h f]
theorem wipeG_wipe (vs : List Nat) (G : Gm) : wipeG vs (wipeG vs G) = wipeG vs G := by
  refine gm_ext (by rw [wipeG_c]) (by rw [wipeG_len]) fun j => ?_
  rw [gg_wipe, gg_wipe]
  by_cases h : j ∈ vs
  · rw [if_pos h, if_pos h]
  · rw [if_neg h]
/-- what a comprehension asks of the walk J -/
def LcB (g : TG) (tt : TT) (te : TE) (vs : List Nat) (σ : St) (Q : VK) (J : It) (H1 : Hp) : Prop := ∀ D, H1 D = none → ∃ W : Nat → Nat → Hp → Prop, (∃ m, W 0 m (upd H1 D (.lst []))) ∧ ∀ i m H, W i m H →
  (J.stop i H ∧ Q (.ref D) H) ∨ (J.go i H ∧ ∃ Nx : Hp → Prop, (∀ H', Nx H' → ∃ m', m' < m ∧ W (i + 1) m' H') ∧ ∀ x H', J.yld i H x H' → g x (L2.wipe σ vs) H' fun σ2 H2 => L2.wipe σ2 vs = L2.wipe σ vs ∧ tt σ2 H2 fun b H3 =>
    if b = true then te σ2 H3 fun y H4 => ∃ acc, H4 D = some (.lst acc) ∧ acc.length < sizeLine ∧ Nx (upd H4 D (.lst (acc ++ [y]))) else Nx H3)
theorem lc_J {vs : List Nat} {g : DG} {tt : DT} {te : DE} {Q : DQ} {Qv : VK} {W1 : Wd} {G1 : Gm} {H1 : Hp} {J : It} {ds : List D} (R1 : Rl K W1 P G1 σ H1) (w : Walks K W1 J ds) (hz : ds.length ≤ sizeLine)
    (q : lcL vs g tt te (fun acc G2 => Q (.new (.lst acc)) (backG vs G1 G2)) ds [] (wipeG vs G1)) (k : ∀ W' sv G' v H', W1.le W' → Rl K W' P G' σ H' → RV K W' P G' σ H' sv v → Q sv G' → Qv v H') :
    LcB (canG K vs g) (canT K tt) (can K te) vs σ Qv J H1 := by
  intro D hD
  obtain ⟨nP, nF, Rg⟩ := R1.guard (o := .lst []) hD
  have Rw := Rg.wipe vs
  refine ⟨fun i m H => ∃ W2 G2 accD accV, W1.le W2 ∧ Rl K W2 (upd P D (.lst accV)) (wipeG vs G2) (L2.wipe σ vs) H ∧ RpL K W2 accD accV ∧ accV.length ≤ i ∧ i + m = ds.length ∧
    lcL vs g tt te (fun acc G2 => Q (.new (.lst acc)) (backG vs G1 G2)) (ds.drop i) accD (wipeG vs G2), ⟨ds.length, W1, G1, [], [], .refl W1, Rw, rfl, Nat.le_refl _, by omega, q⟩, ?_⟩
  rintro i m H ⟨W2, G2, accD, accV, l2, R2, ra, hal, hm, q2⟩
  obtain ⟨w1, w2⟩ := w W2 _ _ _ H i l2 R2
  by_cases hi : i < ds.length
  · obtain ⟨hgo, hy⟩ := w1 ds[i] (List.getElem?_eq_getElem hi)
    rw [List.drop_eq_getElem_cons hi] at q2
    refine .inr ⟨hgo, fun H' => ∃ W3 G3 accD accV, W1.le W3 ∧ Rl K W3 (upd P D (.lst accV)) (wipeG vs G3) (L2.wipe σ vs) H' ∧ RpL K W3 accD accV ∧ accV.length ≤ i + 1 ∧
      lcL vs g tt te (fun acc G2 => Q (.new (.lst acc)) (backG vs G1 G2)) (ds.drop (i + 1)) accD (wipeG vs G3), fun H' ⟨W3, G3, aD, aV, l3, R3, r3, h3, q3⟩ => ⟨m - 1, by omega, W3, G3, aD, aV, l3, R3, r3, h3, by omega, q3⟩, fun x H' hx => ?_⟩
    obtain ⟨W3, l3, R3, r3⟩ := hy x H' hx
    refine ⟨W3, _, wipeG vs G2, .dat ds[i], _, R3, r3, q2, fun W4 G4 σ4 H4 l4 R4 b4 q4 => ?_⟩
    have ew : L2.wipe σ4 vs = L2.wipe σ vs := b4.of_wipe
    refine ⟨ew, W4, _, G4, _, R4, q4, fun W5 b G5 H5 l5 R5 q5 => ?_⟩
    have l45 : W1.le W5 := ((l2.trans l3).trans l4).trans l5
    cases b with
    | false =>
      rw [if_neg Bool.false_ne_true] at q5
      refine iteF ?_
      have R6 := R5.wipe vs
      rw [ew] at R6
      exact ⟨W5, G5, accD, accV, l45, R6, RpL.mono ((l3.trans l4).trans l5) _ _ ra, by omega, q5⟩
    | true =>
      rw [if_pos rfl] at q5
      refine iteT ?_
      refine ⟨W5, _, G5, _, R5, q5, fun W6 sv G6 y H6 l6 R6 r6 q6 => ?_⟩
      obtain ⟨W7, d, G7, l7, R7, r7, q7⟩ := R6.frz r6 q6
      obtain ⟨hD7, R8⟩ := R7.reguard (o' := .lst (accV ++ [y]))
      have R9 := R8.wipe vs
      rw [ew] at R9
      refine ⟨accV, hD7, by omega, W7, G7, accD ++ [d], accV ++ [y], (l45.trans l6).trans l7, R9, RpL.append (RpL.mono ((((l3.trans l4).trans l5).trans l6).trans l7) _ _ ra) ⟨y, [], rfl, r7, rfl⟩, by rw [List.length_append]; simpa using Nat.succ_le_succ hal, q7⟩
  · rw [List.drop_eq_nil_of_le (by omega)] at q2
    refine .inl ⟨w2 (by omega), ?_⟩
    obtain ⟨R4, r4⟩ := R2.unguard (o := HO.lst accV) (d := .lst accD) nP ra
    have R5 := R4.back l2 R1
    obtain ⟨p, o, e1, pr, ro, _⟩ := r4
    have hl : G2.length = G1.length := by
      have h1 := R4.len
      rw [wipeG_len, wipe_length] at h1
      exact h1.trans R1.len.symm
    have ebk : backG vs G1 (wipeG vs G2) = backG vs G1 G2 := by
      refine gm_ext (by rw [backG_c, backG_c, wipeG_c]) (by rw [backG_len, backG_len, wipeG_len]) fun j => ?_
      rw [gg_back _ _ _ _ (by rw [wipeG_len]; exact hl), gg_back _ _ _ _ hl, gg_wipe]
      by_cases h : j ∈ vs
      · rw [if_pos h, if_pos h]
      · rw [if_neg h, if_neg h, if_neg h]
    have q2 : Q (.new (.lst accD)) (backG vs G1 (wipeG vs G2)) := q2
    rw [ebk] at q2
    refine k W2 (.new (.lst accD)) _ _ H l2 R5 ⟨p, o, e1, pr, ro, fun i e h1 h2 => ?_⟩ q2
    obtain ⟨p', o', h3, h4, _⟩ := R5.own i e h1
    rw [h2] at h3; cases h3
    cases e1
    -- the new list is no slot's own: it was not there ahead of the block
    rw [gg_back _ _ _ _ hl] at h1
    by_cases hv : i ∈ vs
    · rw [if_pos hv] at h1
      cases q : gg G1 i with
      | none => rw [q] at h1; cases h1
      | some y => rw [q] at h1; cases y <;> cases h1
    · rw [if_neg hv] at h1
      obtain ⟨q, u, h5, h6, _⟩ := R2.own i e (by rw [gg_wipe, if_neg hv]; exact h1)
      rw [wipe_get, if_neg hv, h2] at h5; cases h5
      have := h6.n
      rw [upd_same] at this; cases this
theorem lc_ok {vs : List Nat} {t : DI} {g : DG} {tt : DT} {te : DE} {Qv : VK} (h : can K (dLc vs t g tt te) σ H Qv) : tLc (canI K t) (canG K vs g) (canT K tt) (can K te) vs σ H Qv := by
  obtain ⟨W, P, G, Q, R, t, k⟩ := h
  exact ⟨W, P, G, _, R, t, fun W1 ds G1 J H1 l1 R1 w ⟨hz, q⟩ => lc_J R1 w hz q fun W' sv G' v H' l => k W' sv G' v H' (l1.trans l)⟩
/-- a list comprehension, one clause -/
theorem de_lc {ifs : List Expr} {scope : Scope} {own : List (Str × Nat)} {t : DI} {g : DG} {tt : DT} {te : DE} (hN : X.N.Nodup) (hi : PI X tg iter (canI X.K t)) (ok : BlkOk X.N X.env.scope scope own)
    (hg : ∀ (s : Shared) (H : Hp) (C : Addr) (cl : List (Str × Addr)) (fp : List Addr), PG (X.blk s H scope (compEnvC scope cl C X.env) fp) tg (canG X.K (own.map (·.2)) g))
    (ht : ∀ (s : Shared) (H : Hp) (C : Addr) (cl : List (Str × Addr)) (fp : List Addr), PTs (X.blk s H scope (compEnvC scope cl C X.env) fp) ifs (canT X.K tt))
    (he : ∀ (s : Shared) (H : Hp) (C : Addr) (cl : List (Str × Addr)) (fp : List Addr), PE (X.blk s H scope (compEnvC scope cl C X.env) fp) elt (can X.K te)) (hc : X.calm = true := by rfl) (hs : ∀ x, foldedSetIterable iter X.env x = pure x := by intro _; rfl) :
    PE X (.ListComp elt [⟨tg, iter, ifs, 0⟩] scope pos) (can X.K (dLc (own.map (·.2)) t g tt te)) := PE.imp (pe_lc hc hN hi ok hg ht he hs) fun _ _ _ => lc_ok
/-- name = [..] on one line -/
theorem ds_setLc {y : Str} {py spos : Pos} (i : Nat) {ifs : List Expr} {scope : Scope} {own : List (Str × Nat)} {t : DI} {g : DG} {tt : DT} {te : DE} (hN : X.N.Nodup) (hi : PI X tg iter (canI X.K t)) (ok : BlkOk X.N X.env.scope scope own)
    (hg : ∀ (s : Shared) (H : Hp) (C : Addr) (cl : List (Str × Addr)) (fp : List Addr), PG (X.blk s H scope (compEnvC scope cl C X.env) fp) tg (canG X.K (own.map (·.2)) g))
    (ht : ∀ (s : Shared) (H : Hp) (C : Addr) (cl : List (Str × Addr)) (fp : List Addr), PTs (X.blk s H scope (compEnvC scope cl C X.env) fp) ifs (canT X.K tt))
    (he : ∀ (s : Shared) (H : Hp) (C : Addr) (cl : List (Str × Addr)) (fp : List Addr), PE (X.blk s H scope (compEnvC scope cl C X.env) fp) elt (can X.K te))
    (hsw : swapsWith (.ListComp elt [⟨tg, iter, ifs, 0⟩] scope pos) (some (.Name y py)) spos.line X.env = pure true) (hy : X.N[i]? = some y := by rfl) (hyl : X.env.scope.names.lookup y = some .local := by rfl) (hc : X.calm = true := by rfl) (hs : ∀ x, foldedSetIterable iter X.env x = pure x := by intro _; rfl) :
    PS X (.Assign [.Name y py] (.ListComp elt [⟨tg, iter, ifs, 0⟩] scope pos) spos) (canS X.K (dAsg (dLc (own.map (·.2)) t g tt te) (dgName i))) := by
  refine PS.imp (ps_setLc hc hN hy hyl hsw hi ok hg ht he hs) fun D σ H h => ?_
  obtain ⟨W, P, G, Q, R, t, k⟩ := asg_ok (ws := [i]) h
  have hh : can X.K (dLc (own.map (·.2)) _ g tt te) σ H fun v H1 => D.nx (σ.set i (some v)) H1 := ⟨W, P, G, Q, R, t, fun W1 sv G1 v H1 l1 R1 r1 q => by
    obtain ⟨W2, P2, G2, sv2, Q2, R2, r2, t2, k2⟩ := k W1 sv G1 v H1 l1 R1 r1 q
    obtain ⟨W', c, G', l, R', q⟩ := R2.rest (i := i) r2 t2
    exact k2 W' _ _ H1 l R' (But.set (by simp) _) q⟩
  exact lc_ok hh
end

/-! ### built-in functions -/
def canB (K : PySem.W.Frag) (t : D1) : List V → Hp → VK → Prop := fun vs H Qv => ∃ W P G σ v d Q, vs = [v] ∧ Rl K W P G σ H ∧ RN K W H d v ∧ t d Q ∧ Rs K W P G σ Q Qv
def canC (K : PySem.W.Frag) (t : List D → (SV → Prop) → Prop) : List V → Hp → VK → Prop := fun vs H Qv => ∃ W P G σ ds Q, Rl K W P G σ H ∧ RpL K W ds vs ∧ t ds Q ∧ Rs K W P G σ Q Qv
section
variable {X : Cx} {K : PySem.W.Frag} {W : Wd} {P : Hp} {G : Gm} {σ : St} {H : Hp} {e : Expr} {es : List Expr} {pos p : Pos} {x : Str} {id T : String}
theorem b1_ok {t : D1} {ta : DE} {Qv : VK} (h : can K (dUn t ta) σ H Qv) : tCB (canB K t) (tCons (can K ta) tNil) σ H Qv := by
  obtain ⟨W, P, G, Q, R, t, k⟩ := h
  refine can_one R t fun W1 G1 sa v H1 l R1 s1 q => ?_
  obtain ⟨d, n, q⟩ := R1.see s1 q
  exact ⟨W1, P, G1, σ, v, d, fun r => Q r G1, rfl, R1, n, q, fun W3 sv u H3 l3 R3 r3 q3 => k W3 sv G1 u H3 (l.trans l3) R3 r3 q3⟩
theorem de_b1 {t : D1} {ta : DE} (hc : CallR X (.builtin id) (canB X.K t)) (hm : X.mg x = none) (hv : bootBuiltins x = some (.builtin id)) (he : PE X e (can X.K ta)) (hg : Gl X x := by rfl) (hn : x ≠ "__name__" := by decide) (hdb : (x == ("__debug__" : Str)) = false := by decide)
    (hs : starEach (e :: []) X.env = (false, eval e X.env) :: starEach [] X.env := by rfl) (hpl : (backTo pos (starEach [] X.env)).any (·.1) = false := by rfl) : PE X (.Call (.Name x p) [e] [] pos) (can X.K (dUn t ta)) :=
  PE.imp (pe_callB hc hg hm hv (pa_cons he pa_nil hs) hn hdb hs hpl) fun _ _ _ => b1_ok
theorem de_t1 {t : D1} {ta : DE} (hc : CallR X (.type T) (canB X.K t)) (hm : X.mg x = none) (hv : bootBuiltins x = some (.type T)) (he : PE X e (can X.K ta)) (hg : Gl X x := by rfl) (hn : x ≠ "__name__" := by decide) (hdb : (x == ("__debug__" : Str)) = false := by decide)
    (hs : starEach (e :: []) X.env = (false, eval e X.env) :: starEach [] X.env := by rfl) (hpl : (backTo pos (starEach [] X.env)).any (·.1) = false := by rfl) : PE X (.Call (.Name x p) [e] [] pos) (can X.K (dUn t ta)) :=
  PE.imp (pe_callTy hc hg hm hv (pa_cons he pa_nil hs) hn hdb hs hpl) fun _ _ _ => b1_ok
def dBn (t : List D → (SV → Prop) → Prop) (ta : DA) : DE := fun G Q => ta G fun ds G1 => t ds fun r => Q r G1
theorem bn_ok {t : List D → (SV → Prop) → Prop} {ta : DA} {Qv : VK} (h : can K (dBn t ta) σ H Qv) : tCB (canC K t) (canA K ta) σ H Qv := by
  obtain ⟨W, P, G, Q, R, t, k⟩ := h
  exact ⟨W, P, G, _, R, t, fun W1 ds G1 vs H1 l1 R1 r1 q => ⟨W1, P, G1, σ, ds, fun r => Q r G1, R1, r1, q, fun W3 sv u H3 l3 R3 r3 q3 => k W3 sv G1 u H3 (l1.trans l3) R3 r3 q3⟩⟩
theorem de_bn {t : List D → (SV → Prop) → Prop} {ta : DA} (hc : CallR X (.builtin id) (canC X.K t)) (hm : X.mg x = none) (hv : bootBuiltins x = some (.builtin id)) (ha : PA X (e :: es) (canA X.K ta)) (hg : Gl X x := by rfl) (hn : x ≠ "__name__" := by decide) (hdb : (x == ("__debug__" : Str)) = false := by decide)
    (hs : starEach (e :: es) X.env = (false, eval e X.env) :: starEach es X.env := by rfl) (hpl : (backTo pos (starEach es X.env)).any (·.1) = false := by rfl) : PE X (.Call (.Name x p) (e :: es) [] pos) (can X.K (dBn t ta)) :=
  PE.imp (pe_callB hc hg hm hv ha hn hdb hs hpl) fun _ _ _ => bn_ok
/-! one by one -/
def dAbs : D1
  | .int i, Q => Q (.dat (.int (if i < 0 then -i else i)))
  | _, _ => False
theorem cd_abs : CallR X (.builtin "abs") (canB X.K dAbs) := by
  refine CallR.imp (call_abs (X := X)) ?_
  rintro vs H Qv ⟨W, P, G, σ, v, d, Q, rfl, R, n, t, r⟩
  cases d <;> first | exact False.elim t | skip
  obtain rfl : v = .int _ := n
  exact ⟨_, rfl, r.int R t⟩
def dLen : D1
  | .lst ds, Q => Q (.dat (.int ds.length))
  | .tup ds, Q => Q (.dat (.int ds.length))
  | .scr ns, Q => Q (.dat (.int ns.length))
  | .str z, Q => z.length ≤ sizeLine ∧ Q (.dat (.int z.length))
  | _, _ => False
theorem cd_len : CallR X (.builtin "len") (canB X.K dLen) := by
  refine CallR.imp (CallR.or (call_len_seq (X := X)) call_len_str) ?_
  rintro vs H Qv ⟨W, P, G, σ, v, d, Q, rfl, R, n, t, r⟩
  cases d <;> first | exact False.elim t | skip
  · obtain rfl : v = .str _ := n
    exact .inr ⟨_, rfl, t.1, r.int R t.2⟩
  · obtain ⟨p, rfl, s⟩ := n
    exact .inl ⟨p, _, rfl, .inl s, by rw [List.length_map]; exact r.int R t⟩
  · obtain ⟨p, xs, rfl, s, q⟩ := n
    exact .inl ⟨p, xs, rfl, .inr (.of s), by rw [q.length]; exact r.int R t⟩
  · obtain ⟨p, xs, rfl, s, q⟩ := n
    exact .inl ⟨p, xs, rfl, .inl (.of s), by rw [q.length]; exact r.int R t⟩
def dInt : D1
  | .int i, Q => Q (.dat (.int i))
  | .bl b, Q => Q (.dat (.int (if b then 1 else 0)))
  | _, _ => False
theorem cd_int : CallR X (.type "int") (canB X.K dInt) := by
  refine CallR.imp (call_int1 (X := X)) ?_
  rintro vs H Qv ⟨W, P, G, σ, v, d, Q, rfl, R, n, t, r⟩
  cases d <;> first | exact False.elim t | skip
  · obtain rfl : v = .bl _ := n
    exact .inr ⟨_, rfl, r.int R t⟩
  · obtain rfl : v = .int _ := n
    exact .inl ⟨_, rfl, r.int R t⟩
def intsOf : List D → Option (List Int)
  | [] => some []
  | .int i :: r => match intsOf r with | some ns => some (i :: ns) | none => none
  | _ :: _ => none
theorem intsOf_eq : ∀ {ds : List D} {ns : List Int}, intsOf ds = some ns → ds = ns.map D.int
  | [], _, h => by cases h; rfl
  | d :: ds, ns, h => by
    cases d <;> first | (cases h; done) | skip
    rename_i i
    have h : (match intsOf ds with | some ns => some (i :: ns) | none => none) = some ns := h
    cases e : intsOf ds with
    | none => rw [e] at h; cases h
    | some ms =>
      rw [e] at h; cases h
      rw [intsOf_eq e]; rfl
theorem intsOf_map : ∀ ns : List Int, intsOf (ns.map D.int) = some ns
  | [] => rfl
  | n :: ns => by show (match intsOf (ns.map D.int) with | some ns => some (n :: ns) | none => none) = _; rw [intsOf_map ns]
theorem intsOf_fn {α : Type} (f : α → Int) (xs : List α) : intsOf (xs.map fun x => D.int (f x)) = some (xs.map f) := by
  rw [← intsOf_map (xs.map f), List.map_map]; rfl
/-- the ints of a list -/
def ofInts (d : D) (k : List Int → Prop) : Prop := match d with
  | .lst ds => match intsOf ds with | some ns => k ns | none => False
  | .scr ns => k ns
  | _ => False
theorem ofInts_ok {d : D} {v : V} {k : List Int → Prop} (n : RN K W H d v) (t : ofInts d k) : ∃ p ns, v = .ref p ∧ SqL K H p (ns.map V.int) ∧ k ns := by
  cases d <;> first | exact False.elim t | skip
  · obtain ⟨p, rfl, s⟩ := n
    exact ⟨p, _, rfl, s, t⟩
  · rename_i ds
    obtain ⟨p, xs, rfl, s, q⟩ := n
    have t : (match intsOf ds with | some ns => k ns | none => False) := t
    cases e : intsOf ds with
    | none => rw [e] at t; exact t.elim
    | some ns =>
      rw [e] at t
      rw [intsOf_eq e] at q
      rw [RpL.ints q] at s
      exact ⟨p, ns, rfl, .of s, t⟩
def dSum : D1 := fun d Q => ofInts d fun ns => Q (.dat (.int ns.sum))
theorem cd_sum (hc : X.calm = true) : CallR X (.builtin "sum") (canB X.K dSum) := by
  refine CallR.imp (cr_sum hc) ?_
  rintro vs H Qv ⟨W, P, G, σ, v, d, Q, rfl, R, n, t, r⟩
  obtain ⟨p, ns, rfl, s, q⟩ := ofInts_ok n t
  exact ⟨p, ns, rfl, s, r.int R q⟩
def dMaxL : D1 := fun d Q => ofInts d fun ns => 0 < ns.length ∧ ∀ m, m ∈ ns → (∀ y, y ∈ ns → y ≤ m) → Q (.dat (.int m))
def dMinL : D1 := fun d Q => ofInts d fun ns => 0 < ns.length ∧ ∀ m, m ∈ ns → (∀ y, y ∈ ns → m ≤ y) → Q (.dat (.int m))
theorem cd_maxL (hc : X.calm = true) : CallR X (.builtin "max") (canB X.K dMaxL) := by
  refine CallR.imp (cr_max hc) ?_
  rintro vs H Qv ⟨W, P, G, σ, v, d, Q, rfl, R, n, t, r⟩
  obtain ⟨p, ns, rfl, s, h, q⟩ := ofInts_ok n t
  exact ⟨p, ns, rfl, s, h, fun m h1 h2 => r.int R (q m h1 h2)⟩
theorem cd_minL (hc : X.calm = true) : CallR X (.builtin "min") (canB X.K dMinL) := by
  refine CallR.imp (cr_min hc) ?_
  rintro vs H Qv ⟨W, P, G, σ, v, d, Q, rfl, R, n, t, r⟩
  obtain ⟨p, ns, rfl, s, h, q⟩ := ofInts_ok n t
  exact ⟨p, ns, rfl, s, h, fun m h1 h2 => r.int R (q m h1 h2)⟩
def blsOf : List D → Option (List Bool)
  | [] => some []
  | .bl i :: r => match blsOf r with | some ns => some (i :: ns) | none => none
  | _ :: _ => none
theorem blsOf_eq : ∀ {ds : List D} {ns : List Bool}, blsOf ds = some ns → ds = ns.map D.bl
  | [], _, h => by cases h; rfl
  | d :: ds, ns, h => by
    cases d <;> first | (cases h; done) | skip
    rename_i i
    have h : (match blsOf ds with | some ns => some (i :: ns) | none => none) = some ns := h
    cases e : blsOf ds with
    | none => rw [e] at h; cases h
    | some ms =>
      rw [e] at h; cases h
      rw [blsOf_eq e]; rfl
theorem blsOf_map : ∀ ns : List Bool, blsOf (ns.map D.bl) = some ns
  | [] => rfl
  | n :: ns => by show (match blsOf (ns.map D.bl) with | some ns => some (n :: ns) | none => none) = _; rw [blsOf_map ns]
theorem blsOf_fn {α : Type} (f : α → Bool) (xs : List α) : blsOf (xs.map fun x => D.bl (f x)) = some (xs.map f) := by
  rw [← blsOf_map (xs.map f), List.map_map]; rfl
def ofBls (d : D) (k : List Bool → Prop) : Prop := match d with
  | .lst ds => match blsOf ds with | some ns => k ns | none => False
  | _ => False
theorem ofBls_ok {d : D} {v : V} {k : List Bool → Prop} (n : RN K W H d v) (t : ofBls d k) : ∃ p ns, v = .ref p ∧ SqL K H p (ns.map V.bl) ∧ k ns := by
  cases d <;> first | exact False.elim t | skip
  rename_i ds
  obtain ⟨p, xs, rfl, s, q⟩ := n
  have t : (match blsOf ds with | some ns => k ns | none => False) := t
  cases e : blsOf ds with
  | none => rw [e] at t; exact t.elim
  | some ns =>
    rw [e] at t
    rw [blsOf_eq e] at q
    rw [RpL.bls q] at s
    exact ⟨p, ns, rfl, .of s, t⟩
def dAll : D1 := fun d Q => ofBls d fun ns => Q (.dat (.bl (ns.all fun b => b)))
def dAny : D1 := fun d Q => ofBls d fun ns => Q (.dat (.bl (ns.any fun b => b)))
theorem cd_all (hc : X.calm = true) : CallR X (.builtin "all") (canB X.K dAll) := by
  refine CallR.imp (cr_all hc) ?_
  rintro vs H Qv ⟨W, P, G, σ, v, d, Q, rfl, R, n, t, r⟩
  obtain ⟨p, ns, rfl, s, q⟩ := ofBls_ok n t
  exact ⟨p, ns, rfl, s, r.bl R q⟩
theorem cd_any (hc : X.calm = true) : CallR X (.builtin "any") (canB X.K dAny) := by
  refine CallR.imp (cr_any hc) ?_
  rintro vs H Qv ⟨W, P, G, σ, v, d, Q, rfl, R, n, t, r⟩
  obtain ⟨p, ns, rfl, s, q⟩ := ofBls_ok n t
  exact ⟨p, ns, rfl, s, r.bl R q⟩
def dList : D1
  | .lst ds, Q => Q (.new (.lst ds))
  | .tup ds, Q => Q (.new (.lst ds))
  | .scr ns, Q => Q (.new (.lst (ns.map D.int)))
  | _, _ => False
theorem cd_list : CallR X (.type "list") (canB X.K dList) := by
  refine CallR.imp (call_list_of (X := X)) ?_
  rintro vs H Qv ⟨W, P, G, σ, v, d, Q, rfl, R, n, t, r⟩
  cases d <;> first | exact False.elim t | skip
  · obtain ⟨p, rfl, s⟩ := n
    exact ⟨p, _, rfl, .inl s, fun l hl => r.new R hl (o := .lst _) (d := .lst _) (RpL.ofInts _) t⟩
  · obtain ⟨p, xs, rfl, s, q⟩ := n
    exact ⟨p, _, rfl, .inr (.of s), fun l hl => r.new R hl (o := .lst _) (d := .lst _) q t⟩
  · obtain ⟨p, xs, rfl, s, q⟩ := n
    exact ⟨p, _, rfl, .inl (.of s), fun l hl => r.new R hl (o := .lst _) (d := .lst _) q t⟩
def dTuple : D1
  | .lst ds, Q => Q (.dat (.tup ds))
  | _, _ => False
theorem cd_tuple : CallR X (.type "tuple") (canB X.K dTuple) := by
  refine CallR.imp (call_tuple_of (X := X)) ?_
  rintro vs H Qv ⟨W, P, G, σ, v, d, Q, rfl, R, n, t, r⟩
  cases d <;> first | exact False.elim t | skip
  obtain ⟨p, xs, rfl, s, q⟩ := n
  exact ⟨p, _, rfl, .inl ⟨.of s, fun l hl => r.newT R hl q t⟩⟩
/-- repr: the text that data show -/
def shownD (d : D) : Str := (toPy d).shown
def dRepr : D1 := fun d Q => Pd 20 d ∧ (toPy d).showable = true ∧ (shownD d).length ≤ sizeLine ∧ Q (.dat (.str (shownD d)))
/-- what a text of a value needs: all that it reads, none of it read within itself -/
def Txts (X : Cx) (s : Shared) (u : Value) (p : PyData) : Prop := ∃ as bs, Reads s.heap u p as ∧ ReadAtMost s.heap p.depth bs ∧ ReprK X.prog X.w bs s.heap p.depth u p.shown
def TxtsAll (X : Cx) (s : Shared) (us : List Value) (ps : List PyData) : Prop := ∃ as bs, ReadsAll s.heap us ps as ∧ ReadAtMost s.heap (PyData.depthAll ps) bs ∧ ReprAllK X.prog X.w bs s.heap (PyData.depthAll ps) us (PyData.shownAll ps)
section
variable {pins : List (Addr × Obj)} {s : Shared} {σ' : St}
theorem txts_all {n : Nat} (I : Inv X pins σ' H s) (one : ∀ {d : D} {v : V} {u : Value}, Pd n d → Rp X.K ⟨H, W.S⟩ d v → RelV v u → (toPy d).showable = true → (toPy d).shown.length ≤ sizeLine → Txts X s u (toPy d)) :
    ∀ {ds : List D} {xs : List V} {us : List Value}, (∀ d ∈ ds, Pd n d) → RpL X.K ⟨H, W.S⟩ ds xs → Vals xs us → PyData.showableAll (toPys ds) = true → (∀ t ∈ PyData.shownAll (toPys ds), t.length ≤ sizeLine) → TxtsAll X s us (toPys ds)
  | [], _, us, _, h, r, _, _ => by
    obtain rfl : _ = [] := h
    cases r
    exact ⟨[], [], .nil, fun _ z => (by cases z), .nil⟩
  | d :: ds, _, us, hp, h, r, hs, hl => by
    obtain ⟨v, xs, rfl, h1, h2⟩ := h
    cases r with
    | cons r1 r2 =>
      simp only [toPys, PyData.showableAll, Bool.and_eq_true] at hs
      simp only [toPys, PyData.shownAll, List.mem_cons, forall_eq_or_imp] at hl
      obtain ⟨as1, bs1, q1, q2, q3⟩ := one (hp d List.mem_cons_self) h1 r1 hs.1 hl.1
      obtain ⟨as2, bs2, p1, p2, p3⟩ := txts_all I one (fun x hx => hp x (List.mem_cons_of_mem _ hx)) h2 r2 hs.2 hl.2
      have w1 : (toPy d).depth ≤ PyData.depthAll (toPys (d :: ds)) := by simp only [toPys, PyData.depthAll]; omega
      have w2 : PyData.depthAll (toPys ds) ≤ PyData.depthAll (toPys (d :: ds)) := by simp only [toPys, PyData.depthAll]; omega
      refine ⟨_, bs1 ++ bs2, ReadsAll.cons q1 p1, (q2.mono w1).append (p2.mono w2), ?_⟩
      exact ReprAllK.cons ((q3.more fun b z => List.mem_append.mpr (.inl z)).level_le w1) (p3.more_le (fun b z => List.mem_append.mpr (.inr z)) w2)
theorem key_txts (I : Inv X pins σ' H s) {k : Key} {u : Value} (h : keyIs k u = true) (hs : (keyPy k).showable = true) (hl : (keyPy k).shown.length ≤ sizeLine) : Txts X s u (keyPy k) := by
  rcases keyIs_shape h with ⟨i, t, rfl, rfl⟩ | ⟨x, t, rfl, rfl⟩
  · refine ⟨_, [], Reads.int i t, fun _ z => (by cases z), ?_⟩
    unfold keyPy; simp only [PyData.shown]
    exact ReprK.of_is (ReprIs.int t (by simpa [keyPy, PyData.showable] using hs)) _ _ _
  · refine ⟨_, [], Reads.str x t, fun _ z => (by cases z), ?_⟩
    unfold keyPy; simp only [PyData.shown]
    exact ReprK.of_is (ReprIs.str x t (by simpa only [keyPy, PyData.shown] using hl)) _ _ _
/-- the keys and the values of a dict's entries -/
theorem pairs_txts {n : Nat} (I : Inv X pins σ' H s) (one : ∀ {d : D} {v : V} {u : Value}, Pd n d → Rp X.K ⟨H, W.S⟩ d v → RelV v u → (toPy d).showable = true → (toPy d).shown.length ≤ sizeLine → Txts X s u (toPy d)) :
    ∀ {es : List (Key × D)} {kvs : List (Key × V)} {vs : List (Key × Value)} {en : List DictEntry}, (∀ e ∈ es, Pd n e.2) → RpK X.K ⟨H, W.S⟩ es kvs → KV kvs vs → Pairs (mixKind X.prog X.w) en vs → PyData.showableKv (toKv es) = true → (∀ t ∈ PyData.shownKv (toKv es), t.length ≤ sizeLine) →
      TxtsAll X s (en.map (·.key)) ((toKv es).map (·.1)) ∧ TxtsAll X s (en.map (·.val)) ((toKv es).map (·.2))
  | [], _, _, _, _, h, r, p, _, _ => by
    obtain rfl : _ = [] := h
    cases r
    cases p
    exact ⟨⟨[], [], .nil, fun _ z => (by cases z), .nil⟩, ⟨[], [], .nil, fun _ z => (by cases z), .nil⟩⟩
  | (k, d) :: es, _, _, _, hp, h, r, p, hs, hl => by
    obtain ⟨v, xs, rfl, h1, h2⟩ := h
    cases r with
    | cons r1 r2 =>
      cases p with
      | cons p1 p2 p3 =>
        rename_i q en e vs
        obtain ⟨e1, e2⟩ := r1
        rw [toKv_cons] at hs hl ⊢
        simp only [PyData.showableKv, Bool.and_eq_true] at hs
        simp only [PyData.shownKv, List.mem_cons, forall_eq_or_imp] at hl
        have l1 : (keyPy k).shown.length ≤ sizeLine := by have := hl.1; rw [strLen_append, strLen_append] at this; omega
        have l2 : (toPy d).shown.length ≤ sizeLine := by have := hl.1; rw [strLen_append, strLen_append] at this; omega
        obtain ⟨t1, t2⟩ := pairs_txts I one (fun x hx => hp x (List.mem_cons_of_mem _ hx)) h2 r2 p3 hs.2 hl.2
        have e1 : k = q.1 := e1
        have a1 : Txts X s e.key (keyPy k) := key_txts I (by rw [e1]; exact p1) hs.1.1 l1
        have a2 : Txts X s e.val (toPy d) := one (hp (k, d) List.mem_cons_self) h1 (by rw [p2]; exact e2) hs.1.2 l2
        have glue : ∀ {u : Value} {us : List Value} {p : PyData} {ps : List PyData}, Txts X s u p → TxtsAll X s us ps → TxtsAll X s (u :: us) (p :: ps) := fun {u us p ps} ⟨as1, bs1, q1, q2, q3⟩ ⟨as2, bs2, g1, g2, g3⟩ => by
          have w1 : p.depth ≤ PyData.depthAll (p :: ps) := by simp only [PyData.depthAll]; omega
          have w2 : PyData.depthAll ps ≤ PyData.depthAll (p :: ps) := by simp only [PyData.depthAll]; omega
          refine ⟨_, bs1 ++ bs2, ReadsAll.cons q1 g1, (q2.mono w1).append (g2.mono w2), ?_⟩
          exact ReprAllK.cons ((q3.more fun b z => List.mem_append.mpr (.inl z)).level_le w1) (g3.more_le (fun b z => List.mem_append.mpr (.inr z)) w2)
        exact ⟨glue a1 t1, glue a2 t2⟩
/-- all a text's making asks, of a list, a tuple, a dict: by their kinds -/
theorem txts_of (I : Inv X pins σ' H s) : ∀ (n : Nat) {d : D} {v : V} {u : Value}, Pd n d → Rp X.K ⟨H, W.S⟩ d v → RelV v u → (toPy d).showable = true → (toPy d).shown.length ≤ sizeLine → Txts X s u (toPy d) := by
  have base : ∀ {d : D} {v : V} {u : Value}, Pd 0 d → Rp X.K ⟨H, W.S⟩ d v → RelV v u → (toPy d).showable = true → (toPy d).shown.length ≤ sizeLine → Txts X s u (toPy d) := fun {d v u} hp h r hs hl => by
    cases d <;> first | exact False.elim hp | skip
    · obtain rfl : v = .non := h
      cases r
      exact ⟨_, [], Reads.none, fun _ z => (by cases z), by simp only [toPy, PyData.shown]; exact ReprK.of_is ReprIs.none _ _ _⟩
    · rename_i b
      obtain rfl : v = .bl b := h
      cases r
      exact ⟨_, [], Reads.bool b, fun _ z => (by cases z), by simp only [toPy, PyData.shown]; exact ReprK.of_is (ReprIs.bool b) _ _ _⟩
    · rename_i i
      obtain rfl : v = .int i := h
      obtain ⟨t, rfl⟩ := r
      exact ⟨_, [], Reads.int i t, fun _ z => (by cases z), by simp only [toPy, PyData.shown]; exact ReprK.of_is (ReprIs.int t (by simpa [toPy, PyData.showable] using hs)) _ _ _⟩
    · rename_i x
      obtain rfl : v = .str x := h
      obtain ⟨t, rfl⟩ := r
      exact ⟨_, [], Reads.str x t, fun _ z => (by cases z), by simp only [toPy, PyData.shown]; exact ReprK.of_is (ReprIs.str x t (by simpa only [toPy, PyData.shown] using hl)) _ _ _⟩
  intro n
  induction n with
  | zero => exact fun hp h r hs hl => base hp h r hs hl
  | succ n ih =>
    intro d v u hp h r hs hl
    cases d with
    | tup ds =>
      obtain ⟨a, xs, rfl, e, rl⟩ := h
      cases r
      obtain ⟨its, rv, ⟨o, ho, hc, m, hd⟩, _⟩ := I.tuple (.of e)
      simp only [toPy, PyData.showable] at hs
      simp only [toPy, PyData.shown] at hl
      obtain ⟨as, bs, q1, q2, q3⟩ := txts_all I (fun a b c d e => ih a b c d e) hp rl rv hs fun t ht => Nat.le_trans (tupleText_mem_le ht) hl
      have rd : Reads s.heap (.ref a) (.tuple (toPys ds)) as := Reads.tuple ho hc hd q1
      have na : a ∉ bs := not_mem_of_deeper rd (by simp only [PyData.depth]; omega) q2
      refine ⟨as, a :: bs, by simp only [toPy]; exact rd, by simp only [toPy]; exact ReadAtMost.cons rd (by simp only [PyData.depth]; omega) q2, ?_⟩
      simp only [toPy, PyData.depth, PyData.shown]
      exact ReprK.tuple ho hc hd na q3
    | lst ds =>
      obtain ⟨a, xs, rfl, e, rl⟩ := h
      cases r
      obtain ⟨its, rv, ⟨o, m, ho, hc, _, hd⟩, _⟩ := I.list (.of e)
      simp only [toPy, PyData.showable] at hs
      simp only [toPy, PyData.shown] at hl
      obtain ⟨as, bs, q1, q2, q3⟩ := txts_all I (fun a b c d e => ih a b c d e) hp rl rv hs fun t ht => Nat.le_trans (listText_mem_le ht) hl
      have rd : Reads s.heap (.ref a) (.list (toPys ds)) (a :: as) := Reads.list ho hc hd q1
      have na : a ∉ bs := not_mem_of_deeper rd (by simp only [PyData.depth]; omega) q2
      refine ⟨a :: as, a :: bs, by simp only [toPy]; exact rd, by simp only [toPy]; exact ReadAtMost.cons rd (by simp only [PyData.depth]; omega) q2, ?_⟩
      simp only [toPy, PyData.depth, PyData.shown]
      cases its with
      | nil =>
        have hn : toPys ds = [] := by
          have := q3.length_eq
          cases z : toPys ds with
          | nil => rfl
          | cons p ps => rw [z] at this; simp [PyData.shownAll] at this
        rw [hn]
        simp only [PyData.shownAll, listText_nil]
        exact ReprK.listEmpty ho hc hd
      | cons x l => exact ReprK.list ho hc hd na (by simpa using q3.length_eq) fun i y ey => q3.item i y (by simpa using ey)
    | dK es =>
      obtain ⟨a, kvs, rfl, e, rk⟩ := h
      cases r
      obtain ⟨_, hsy, vs, kv, o, en, ep, ho, ⟨hc, _, _⟩, hd, _, pr, _⟩ := dk_rd I.hok e
      simp only [toPy, PyData.showable] at hs
      simp only [toPy, PyData.shown] at hl
      obtain ⟨⟨as1, bs1, q1, q2, q3⟩, ⟨as2, bs2, p1, p2, p3⟩⟩ := pairs_txts I (fun a b c d e => ih a b c d e) hp rk kv pr hs fun t ht => Nat.le_trans (dictText_mem_le ht) hl
      have rd : Reads s.heap (.ref a) (.dict (toKv es)) (a :: as1 ++ as2) := Reads.dict ho hc hd q1 p1
      have w1 := PyData.depthAll_keys_le (toKv es)
      have w2 := PyData.depthAll_vals_le (toKv es)
      have low := (q2.mono w1).append (p2.mono w2)
      have na : a ∉ bs1 ++ bs2 := not_mem_of_deeper rd (by simp only [PyData.depth]; omega) low
      refine ⟨_, a :: (bs1 ++ bs2), by simp only [toPy]; exact rd, by simp only [toPy]; exact ReadAtMost.cons rd (by simp only [PyData.depth]; omega) low, ?_⟩
      simp only [toPy, PyData.depth, PyData.shown, PyData.shownKv_eq]
      refine ReprK.dict ho hc hd hsy na (ReprEntriesK.of_two en.toList _ _ (q3.more_le (fun b z => List.mem_append.mpr (.inl z)) w1) (p3.more_le (fun b z => List.mem_append.mpr (.inr z)) w2))
    | _ => first | exact False.elim hp | exact base hp h r hs hl
end
theorem PD_depth {n : Nat} : ∀ {d : D}, Pd n d → (toPy d).depth ≤ n + 1 := by
  have al : ∀ {m : Nat} {ps : List PyData}, (∀ p ∈ ps, p.depth ≤ m) → PyData.depthAll ps ≤ m := fun {m ps} h => by
    induction ps with
    | nil => simp [PyData.depthAll]
    | cons p ps ih =>
      have h1 := h p List.mem_cons_self
      have h2 := ih fun x hx => h x (List.mem_cons_of_mem _ hx)
      simp only [PyData.depthAll]; omega
  have kv : ∀ {m : Nat} {es : List (Key × D)}, (∀ e ∈ es, (toPy e.2).depth ≤ m + 1) → PyData.depthKv (toKv es) ≤ m + 1 := fun {m es} h => by
    induction es with
    | nil => simp [toKv, PyData.depthKv]
    | cons e es ih =>
      obtain ⟨k, d⟩ := e
      have h1 := h (k, d) List.mem_cons_self
      have h2 := ih fun x hx => h x (List.mem_cons_of_mem _ hx)
      have h3 : (keyPy k).depth ≤ m + 1 := by cases k <;> simp [keyPy, PyData.depth]
      rw [toKv_cons]
      simp only [PyData.depthKv]
      simp only at h1
      omega
  induction n with
  | zero => intro d p; cases d <;> first | exact False.elim p | simp [toPy, PyData.depth]
  | succ n ih =>
    intro d p
    cases d with
    | tup ds =>
      have := al (m := n + 1) (ps := toPys ds) (by rw [toPys_map]; intro q hq; obtain ⟨d, hd, rfl⟩ := List.mem_map.mp hq; exact ih (p d hd))
      simp only [toPy, PyData.depth]; omega
    | lst ds =>
      have := al (m := n + 1) (ps := toPys ds) (by rw [toPys_map]; intro q hq; obtain ⟨d, hd, rfl⟩ := List.mem_map.mp hq; exact ih (p d hd))
      simp only [toPy, PyData.depth]; omega
    | dK es =>
      have := kv (m := n) fun e he => ih (p e he)
      simp only [toPy, PyData.depth]; omega
    | _ => first | exact False.elim p | simp [toPy, PyData.depth]
/-- of a value as all stands now -/
def canN (K : PySem.W.Frag) (t : D1) : List V → Hp → VK → Prop := fun vs H Qv => ∃ W P G σ v d Q, vs = [v] ∧ Rl K W P G σ H ∧ Rp K (nowW W H) d v ∧ t d Q ∧ Rs K W P G σ Q Qv
theorem cd_reprN (gd : X.A.guards = some []) (hu : X.A.units + 64 < cLine) : CallR X (.builtin "repr") (canN X.K dRepr) := by
  intro pins s σ' H vs us Qv I rv ⟨W, P, G, σ, v, d, Q, e, R, n, ⟨pl, sh, ln, t⟩, r⟩
  subst e
  obtain ⟨u, rfl, ru⟩ := vals1 rv
  have q := r.str R t
  have dep := PD_depth pl
  have rp : Rp X.K ⟨H, W.S⟩ d v := n
  have fin : ∀ (h' : Heap) (t : Tok) (tk : Nat), (∀ b o, s.heap.get? b = some o → h'.get? b = some o) → EP X pins σ' Qv (Value.str (toPy d).shown t) { s with heap := h', toks := tk } := fun h' t tk hk => ⟨.str _, H, I.kept hk, ⟨t, rfl⟩, q⟩
  have nest : ∀ {d : D} {v : V} {u : Value}, Pd 19 d → Rp X.K ⟨H, W.S⟩ d v → RelV v u → (toPy d).showable = true → (toPy d).shown.length ≤ sizeLine → Txts X s u (toPy d) := fun a b c d e => txts_of I 19 a b c d e
  have hl : (toPy d).shown.length ≤ sizeLine := ln
  cases d with
  | non => obtain rfl : v = .non := n; cases ru; exact PySem.P.repr_of_none (fin s.heap _ _ fun _ _ e => e)
  | bl b => obtain rfl : v = .bl b := n; cases ru; exact PySem.P.repr_of_bool (fin s.heap _ _ fun _ _ e => e)
  | int i => obtain rfl : v = .int i := n; obtain ⟨t, rfl⟩ := ru; exact PySem.P.repr_of_int (by simpa [toPy, PyData.showable] using sh) (fin s.heap _ _ fun _ _ e => e)
  | str z => obtain rfl : v = .str z := n; obtain ⟨t, rfl⟩ := ru; exact PySem.P.repr_of_str (fin s.heap _ _ fun _ _ e => e) ln
  | tup ds =>
    obtain ⟨a, xs, rfl, e, rl⟩ := rp
    cases ru
    obtain ⟨its, rv, ⟨o, ho, hc, m, hd⟩, _⟩ := I.tuple (.of e)
    simp only [toPy, PyData.showable] at sh
    simp only [toPy, PyData.shown] at hl fin
    simp only [toPy, PyData.depth] at dep
    obtain ⟨as, bs, q1, q2, q3⟩ := txts_all I nest pl rl rv sh fun t ht => Nat.le_trans (tupleText_mem_le ht) hl
    have na : a ∉ bs := not_mem_of_deeper (Reads.tuple ho hc hd q1) (by simp only [PyData.depth]; omega) q2
    have cl : ∀ b ∈ a :: bs, Clear [] b := fun b _ => Clear.nil b
    exact call_repr_slot (by omega) ⟨o, ho, hc⟩ F.slot_tuple_repr (call_tuple_reprK ho hc hd na q3 (show X.A.in1.guards = some [] from gd) cl (by show X.A.units + 1 + _ < cLine; omega) (fun _ _ e => e) (fun h' t tk hk => ⟨_, _, rfl, fin h' t tk hk⟩) hl)
  | lst ds =>
    obtain ⟨a, xs, rfl, e, rl⟩ := rp
    cases ru
    obtain ⟨its, rv, ⟨o, m, ho, hc, _, hd⟩, _⟩ := I.list (.of e)
    simp only [toPy, PyData.showable] at sh
    simp only [toPy, PyData.shown] at hl fin
    simp only [toPy, PyData.depth] at dep
    obtain ⟨as, bs, q1, q2, q3⟩ := txts_all I nest pl rl rv sh fun t ht => Nat.le_trans (listText_mem_le ht) hl
    have na : a ∉ bs := not_mem_of_deeper (Reads.list ho hc hd q1) (by simp only [PyData.depth]; omega) q2
    have cl : ∀ b ∈ a :: bs, Clear [] b := fun b _ => Clear.nil b
    cases its with
    | nil =>
      have hn : toPys ds = [] := by
        have := q3.length_eq
        cases z : toPys ds with
        | nil => rfl
        | cons p ps => rw [z] at this; simp [PyData.shownAll] at this
      rw [hn] at fin
      simp only [PyData.shownAll, listText_nil] at fin
      exact call_repr_slot (by omega) ⟨o, ho, hc⟩ F.slot_list_repr.toG (call_list_repr_empty ⟨o, ho, hc⟩ ho hd ⟨_, _, rfl, fin s.heap _ _ fun _ _ e => e⟩)
    | cons x l =>
      exact call_repr_slot (by omega) ⟨o, ho, hc⟩ F.slot_list_repr.toG (call_list_reprK ho hc hd na (by simpa using q3.length_eq) (fun i y ey => q3.item i y (by simpa using ey)) (show X.A.in1.guards = some [] from gd) cl (by show X.A.units + 1 + _ < cLine; omega) (fun _ _ e => e) (fun h' t tk hk => ⟨_, _, rfl, fin h' t tk hk⟩) hl)
  | dK es =>
    obtain ⟨a, kvs, rfl, e, rk⟩ := rp
    cases ru
    obtain ⟨_, hsy, vs, kv, o, en, ep, ho, ⟨hc, _, _⟩, hd, _, pr, _⟩ := dk_rd I.hok e
    simp only [toPy, PyData.showable] at sh
    simp only [toPy, PyData.shown] at hl fin
    simp only [toPy, PyData.depth] at dep
    obtain ⟨⟨as1, bs1, q1, q2, q3⟩, ⟨as2, bs2, p1, p2, p3⟩⟩ := pairs_txts I nest pl rk kv pr sh fun t ht => Nat.le_trans (dictText_mem_le ht) hl
    have w1 := PyData.depthAll_keys_le (toKv es)
    have w2 := PyData.depthAll_vals_le (toKv es)
    have na : a ∉ bs1 ++ bs2 := not_mem_of_deeper (Reads.dict ho hc hd q1 p1) (by simp only [PyData.depth]; omega) ((q2.mono w1).append (p2.mono w2))
    have cl : ∀ b ∈ a :: (bs1 ++ bs2), Clear [] b := fun b _ => Clear.nil b
    rw [PyData.shownKv_eq] at fin hl
    exact call_repr_slot (by omega) ⟨o, ho, hc⟩ F.slot_dict_repr (call_dict_reprK ho hc hd hsy na (ReprEntriesK.of_two en.toList _ _ (q3.more_le (fun b z => List.mem_append.mpr (.inl z)) w1) (p3.more_le (fun b z => List.mem_append.mpr (.inr z)) w2)) (show X.A.in1.guards = some [] from gd) cl (by show X.A.units + 1 + _ < cLine; omega) (fun _ _ e => e) (fun h' t tk hk => ⟨_, _, rfl, fin h' t tk hk⟩) hl)
  | _ => exact False.elim pl
theorem cd_repr (gd : X.A.guards = some []) (hu : X.A.units + 64 < cLine) : CallR X (.builtin "repr") (canB X.K dRepr) :=
  CallR.imp (cd_reprN gd hu) fun _ _ _ ⟨W, P, G, σ, v, d, Q, e, R, n, t, r⟩ => ⟨W, P, G, σ, v, d, Q, e, R, R.rnow n, t, r⟩
/-- sorted: of ints; of pairs of ints -/
def prsOf : List D → Option (List (Int × Int))
  | [] => some []
  | .tup [.int i, .int j] :: r => match prsOf r with | some ns => some ((i, j) :: ns) | none => none
  | _ :: _ => none
def prD (p : Int × Int) : D := .tup [.int p.1, .int p.2]
theorem prsOf_cons {d : D} {ds : List D} {ps : List (Int × Int)} (h : prsOf (d :: ds) = some ps) : ∃ p r, d = prD p ∧ prsOf ds = some r ∧ ps = p :: r := by
  unfold prsOf at h
  split at h
  · rename_i e; cases e
  · rename_i _ i j r' e
    cases e
    cases q : prsOf ds with
    | none => rw [q] at h; cases h
    | some ms => rw [q] at h; cases h; exact ⟨(i, j), ms, rfl, rfl, rfl⟩
  · cases h
theorem prsOf_eq : ∀ {ds : List D} {ps : List (Int × Int)}, prsOf ds = some ps → ds = ps.map prD
  | [], _, h => by cases h; rfl
  | d :: ds, ps, h => by
    obtain ⟨p, r, rfl, h2, rfl⟩ := prsOf_cons h
    rw [prsOf_eq h2]; rfl
theorem prsOf_map : ∀ ps : List (Int × Int), prsOf (ps.map prD) = some ps
  | [] => rfl
  | p :: ps => by show (match prsOf (ps.map prD) with | some ns => some ((p.1, p.2) :: ns) | none => none) = _; rw [prsOf_map ps]
/-- ascending, equal ones allowed -/
def prLe (a b : Int × Int) : Prop := a.1 < b.1 ∨ (a.1 = b.1 ∧ a.2 ≤ b.2)
def dSorted : D1 := fun d Q => match d with
  | .lst ds => match prsOf ds with
    | some ps => ∀ qs : List (Int × Int), qs.Perm ps → qs.Pairwise prLe → Q (.new (.lst (qs.map prD)))
    | none => match intsOf ds with
      | some ns => ∀ ms : List Int, ms.Perm ns → ms.Pairwise (· ≤ ·) → Q (.new (.lst (ms.map D.int)))
      | none => False
  | _ => False
def prAt (H : Hp) : V → Int × Int
  | .ref t => match H t with | some (.tup [.int i, .int j]) => (i, j) | _ => (0, 0)
  | _ => (0, 0)
theorem prs_at (R : Rl K W P G σ H) : ∀ {ps : List (Int × Int)} {xs : List V}, RpL K W (ps.map prD) xs → xs.map (prAt H) = ps ∧ ∀ x ∈ xs, Rp K W (prD (prAt H x)) x ∧ ∃ t, x = .ref t ∧ H t = some (.tup [.int (prAt H x).1, .int (prAt H x).2])
  | [], _, h => by obtain rfl : _ = [] := h; exact ⟨rfl, fun _ h => (by cases h)⟩
  | p :: ps, _, h => by
    obtain ⟨v, r, rfl, h1, h2⟩ := h
    obtain ⟨e1, e2⟩ := prs_at R h2
    have h1c := h1
    obtain ⟨t, ys, rfl, hF, a, b, e, ha, c, d, e', hb, hc⟩ := h1
    obtain rfl : a = .int p.1 := ha
    obtain rfl : c = .int p.2 := hb
    obtain rfl : d = [] := hc
    subst e' e
    have hH := R.le _ _ hF
    have hp : prAt H (.ref t) = p := by show (match H t with | some (.tup [.int i, .int j]) => (i, j) | _ => (0, 0)) = p; rw [hH]
    refine ⟨by rw [List.map_cons, e1, hp], fun x hx => ?_⟩
    rcases List.mem_cons.mp hx with rfl | hx
    · rw [hp]; exact ⟨h1c, t, rfl, hH⟩
    · exact e2 x hx
theorem rpl_of {f : V → D} : ∀ {xs : List V}, (∀ x ∈ xs, Rp K W (f x) x) → RpL K W (xs.map f) xs
  | [], _ => rfl
  | x :: xs, h => ⟨x, xs, rfl, h x List.mem_cons_self, rpl_of fun y hy => h y (List.mem_cons_of_mem _ hy)⟩
theorem cd_sorted : CallR X (.builtin "sorted") (canB X.K dSorted) := by
  refine CallR.imp (CallR.or (cr_sortedPO (X := X)) cr_sortedI) ?_
  rintro vs H Qv ⟨W, P, G, σ, v, d, Q, rfl, R, n, t, r⟩
  cases d <;> first | exact False.elim t | skip
  rename_i ds
  obtain ⟨p, xs, rfl, s, q⟩ := n
  have t : (match prsOf ds with
    | some ps => ∀ qs : List (Int × Int), qs.Perm ps → qs.Pairwise prLe → Q (.new (.lst (qs.map prD)))
    | none => match intsOf ds with
      | some ns => ∀ ms : List Int, ms.Perm ns → ms.Pairwise (· ≤ ·) → Q (.new (.lst (ms.map D.int)))
      | none => False) := t
  cases e : prsOf ds with
  | some ps =>
    rw [e] at t
    rw [prsOf_eq e] at q
    obtain ⟨e1, e2⟩ := prs_at R q
    refine .inl ⟨p, xs, prAt H, rfl, .of s, fun x hx => (e2 x hx).2, fun ys l hs hst hl => ?_⟩
    have hm : ∀ y ∈ ys, y ∈ xs := fun y hy => hst.perm.mem_iff.mp hy
    refine r.new R hl (o := .lst ys) (d := .lst ((ys.map (prAt H)).map prD)) ?_ (t _ (by rw [← e1]; exact hst.perm.map _) ?_)
    · show RpL X.K W _ ys
      rw [List.map_map]
      exact rpl_of fun y hy => (e2 y (hm y hy)).1
    · refine List.pairwise_map.mpr (List.Pairwise.imp (fun {a b} h => ?_) hs)
      have := SrtO.lexB_no.mp h
      unfold prLe
      omega
  | none =>
    rw [e] at t
    simp only at t
    cases e2 : intsOf ds with
    | none => rw [e2] at t; exact t.elim
    | some ns =>
      rw [e2] at t
      rw [intsOf_eq e2] at q
      rw [RpL.ints q] at s
      exact .inr ⟨p, ns, rfl, .of s, fun ms l h1 h2 hl => r.new R hl (o := .lst _) (d := .lst (ms.map D.int)) (RpL.ofInts ms) (t ms h1 h2)⟩
/-! of two values -/
def on2 (t : Int → Int → Prop) : List D → Prop
  | .int i :: .int j :: r => r = [] ∧ t i j
  | _ => False
def dMax2 : List D → (SV → Prop) → Prop := fun ds Q => on2 (fun i j => Q (.dat (.int (if j > i then j else i)))) ds
def dMin2 : List D → (SV → Prop) → Prop := fun ds Q => on2 (fun i j => Q (.dat (.int (if j < i then j else i)))) ds
theorem two_ints {t : Int → Int → Prop} {ds : List D} {vs : List V} (h : RpL K W ds vs) (q : on2 t ds) : ∃ i j, vs = [.int i, .int j] ∧ t i j := by
  cases ds with
  | nil => exact False.elim q
  | cons a ds =>
    cases a <;> first | exact False.elim q | skip
    cases ds with
    | nil => exact False.elim q
    | cons b ds =>
      cases b <;> first | exact False.elim q | skip
      obtain ⟨e, q⟩ := q
      subst e
      obtain ⟨v, r, rfl, h1, w, r2, rfl, h2, h3⟩ := h
      obtain rfl : v = .int _ := h1
      obtain rfl : w = .int _ := h2
      obtain rfl : r2 = [] := h3
      exact ⟨_, _, rfl, q⟩
theorem cd_max2 (hc : X.calm = true) : CallR X (.builtin "max") (canC X.K dMax2) := by
  refine CallR.imp (call_max2 hc) ?_
  rintro vs H Qv ⟨W, P, G, σ, ds, Q, R, n, t, r⟩
  obtain ⟨i, j, rfl, q⟩ := two_ints n t
  exact ⟨i, j, rfl, r.int R q⟩
theorem cd_min2 (hc : X.calm = true) : CallR X (.builtin "min") (canC X.K dMin2) := by
  refine CallR.imp (call_min2 hc) ?_
  rintro vs H Qv ⟨W, P, G, σ, ds, Q, R, n, t, r⟩
  obtain ⟨i, j, rfl, q⟩ := two_ints n t
  exact ⟨i, j, rfl, r.int R q⟩
theorem call_divmodW : CallR X (.builtin "divmod") (fun xs H Q => ∃ i j, xs = [.int i, .int j] ∧ (0 < j ∧ j.natAbs.log2 < 9000) ∧ ∀ p, H p = none → Q (.ref p) (upd H p (.tup [.int (i / j), .int (i % j)]))) := by
  intro pins s σ H xs us Q I r h
  obtain ⟨i, j, rfl, ⟨h1, h2⟩, q⟩ := h
  obtain ⟨u, w', rfl, ⟨t, rfl⟩, ⟨t', rfl⟩⟩ := vals2 r
  refine divmod_int (by omega) ?_ (.inl (PyProof.noPylong_of_log2 h2))
  rw [Int.fdiv_eq_ediv_of_nonneg i (by omega), Int.fmod_eq_emod_of_nonneg i (by omega)]
  have hn : H s.heap.objs.size = none := I.hok.fresh (Nat.le_refl _)
  refine ⟨.ref s.heap.objs.size, _, ?_, rfl, q _ hn⟩
  refine I.laid (fun b o e => Heap.get?_push_of_some _ e) (Nat.le_refl _) ⟨by simp only [List.length_cons, List.length_nil]; rw [sizeLine_eq]; decide, [.int (i / j) s.toks, .int (i % j) (s.toks + 1)], .cons ⟨_, rfl⟩ (.cons ⟨_, rfl⟩ .nil), ?_⟩
  exact ⟨_, Heap.get?_push_size s.heap rfl, rfl, 0, rfl⟩
def dDivmod : List D → (SV → Prop) → Prop := fun ds Q => on2 (fun i j => (0 < j ∧ j.natAbs.log2 < 9000) ∧ Q (.dat (.tup [.int (i / j), .int (i % j)]))) ds
theorem cd_divmod : CallR X (.builtin "divmod") (canC X.K dDivmod) := by
  refine CallR.imp (call_divmodW (X := X)) ?_
  rintro vs H Qv ⟨W, P, G, σ, ds, Q, R, n, t, r⟩
  obtain ⟨i, j, rfl, h, q⟩ := two_ints n t
  exact ⟨i, j, rfl, h, fun p hp => r.newT R hp (ds := [.int (i / j), .int (i % j)]) ⟨_, _, rfl, rfl, _, _, rfl, rfl, rfl⟩ q⟩
/-- isinstance against a built-in class -/
def clsD : D → Option String
  | .non => some "NoneType"
  | .bl _ => some "bool"
  | .int _ => some "int"
  | .str _ => some "str"
  | .tup _ => some "tuple"
  | .lst _ => some "list"
  | .dK _ => some "dict"
  | _ => none
theorem clsD_ty {d : D} {v : V} {T : String} (e : clsD d = some T) (h : Rp K W d v) (R : Rl K W P G σ H) : TyX K H v (.type T) := by
  cases d <;> first | (cases e; done) | skip
  · obtain rfl : v = .non := h; cases e; exact .base .non
  · obtain rfl : v = .bl _ := h; cases e; exact .base (.bl _)
  · obtain rfl : v = .int _ := h; cases e; exact .base (.int _)
  · obtain rfl : v = .str _ := h; cases e; exact .base (.str _)
  · obtain ⟨a, xs, rfl, s, _⟩ := h; cases e; exact .base (.tup (R.le _ _ s))
  · obtain ⟨a, xs, rfl, s, _⟩ := h; cases e; exact .base (.lst (R.le _ _ s))
  · obtain ⟨a, xs, rfl, s, _⟩ := h; cases e
    rcases R.rdL s with s | ⟨_, s⟩
    · exact .base (.dK s)
    · exact .fDict s
/-- a class T is of a class U -/
def kits : List String := ["int", "bool", "str", "list", "tuple", "dict"]
def isT (T U : String) : Bool := T == U || (T == "bool" && U == "int")
theorem kit_all : ∀ T ∈ "NoneType" :: kits, ∀ U ∈ kits, ∀ K, PySem.W.kitOne K (.type T) (.type U) = some (isT T U) := by
  intro T hT U hU K
  refine kit_ty ?_
  revert T U
  decide +kernel
def dIsi : List D → (SV → Prop) → Prop
  | d :: .ty U :: r, Q => r = [] ∧ U ∈ kits ∧ match clsD d with | some T => Q (.dat (.bl (isT T U))) | none => False
  | _, _ => False
theorem clsD_in {d : D} {T : String} (e : clsD d = some T) : T ∈ "NoneType" :: kits := by
  cases d <;> first | (cases e; done) | (cases e; decide)
theorem cd_isi : CallR X (.builtin "isinstance") (canC X.K dIsi) := by
  refine CallR.imp (call_isi (X := X)) ?_
  rintro vs H Qv ⟨W, P, G, σ, ds, Q, R, n, t, r⟩
  cases ds with
  | nil => exact False.elim t
  | cons a ds =>
    cases ds with
    | nil => exact False.elim t
    | cons b ds =>
      cases b <;> first | exact False.elim t | skip
      rename_i U
      obtain ⟨e, hU, q⟩ := t
      subst e
      obtain ⟨v, r', rfl, h1, w, r2, rfl, h2, h3⟩ := n
      obtain rfl : w = .ty U := h2
      obtain rfl : r2 = [] := h3
      cases ec : clsD a with
      | none => rw [ec] at q; exact q.elim
      | some T =>
        rw [ec] at q
        exact ⟨v, .ty U, .type T, .type U, _, rfl, .ty U, clsD_ty ec h1 R, kit_all T (clsD_in ec) U hU _, r.bl R q⟩
end

/-! ### a def of the text, from its derivation and the plain law -/
def startG (n : Nat) (N : List Str) (ds : List D) : Gm := ⟨ds.map (fun d => some (.dat d)) ++ List.replicate (N.length - ds.length) none, n⟩
def defE (Q : SV → Nat → Prop) : DEnds := { nx := fun G => Q (.dat .non) G.c, rt := Q }
theorem ggl_get : ∀ (L : List (Option SC)) (i : Nat) (x : SC), ggl L i = some x ↔ L[i]? = some (some x)
  | [], i, x => by simp [ggl]
  | y :: r, 0, x => by simp [ggl]
  | y :: r, i + 1, x => by rw [List.getElem?_cons_succ]; exact ggl_get r i x
theorem start_dat {n : Nat} {N : List Str} {ds : List D} {i : Nat} {x : SC} (h : gg (startG n N ds) i = some x) : ∃ d, x = .dat d ∧ ds[i]? = some d := by
  have h : (ds.map (fun d => some (SC.dat d)) ++ List.replicate (N.length - ds.length) none)[i]? = some (some x) := (ggl_get _ _ _).mp h
  by_cases hi : i < ds.length
  · rw [List.getElem?_append_left (by rw [List.length_map]; exact hi), List.getElem?_map] at h
    rw [List.getElem?_eq_getElem hi] at h ⊢
    cases h; exact ⟨_, rfl, rfl⟩
  · rw [List.getElem?_append_right (by rw [List.length_map]; omega)] at h
    rw [List.getElem?_replicate] at h
    split at h <;> cases h
theorem Rl.start {K : PySem.W.Frag} {W : Wd} {P : Hp} {n : Nat} {H : Hp} {ds : List D} {vs : List V} (R : Rl K W P ⟨[], n⟩ [] H) (r : RpL K W ds vs) (N : List Str) : Rl K W P (startG n N ds) (L2.start N vs) H := by
  refine ⟨?_, R.le, R.src, R.prot, fun i d e => ?_, fun i d e => ?_, fun i j d e _ h1 _ => ?_, R.pnt⟩
  · show (ds.map _ ++ List.replicate _ none).length = (vs.map some ++ List.replicate _ none).length
    simp only [List.length_append, List.length_map, List.length_replicate, r.length]
  · obtain ⟨d', e1, e2⟩ := start_dat e
    cases e1
    obtain ⟨v, h1, h2⟩ := r.get e2
    refine ⟨v, ?_, h2⟩
    have hl := (List.getElem?_eq_some_iff.mp h1).1
    show (vs.map some ++ List.replicate _ none)[i]? = _
    rw [List.getElem?_append_left (by rw [List.length_map]; exact hl), List.getElem?_map, h1]; rfl
  · obtain ⟨_, e1, _⟩ := start_dat e; cases e1
  · obtain ⟨_, e1, _⟩ := start_dat h1; cases e1
theorem fd_of {P : Program} {w : World} {K : PySem.W.Frag} {mg : Str → Option Value} {base : Heap} {k : Nat} {f : Addr} {x qual : Str} {st : Stmt} {dd : List D} {fd : FuncData} {N ps : List Str} {S : DSp} {t : DS}
    (F : FunT K x qual st dd f fd) (C : FnScope N ps (defScope st))
    (der : ∀ (cdv : Value) (A : Around) (outer : List Env) (s : Shared) (H : Hp), (A.deeper (envOfC qual (defScope st) s.heap.objs.size f cdv)).guards = some [] → Room k (A.deeper (envOfC qual (defScope st) s.heap.objs.size f cdv)) →
      PSs (cxOf CX0 P w K mg base N qual (defScope st) f cdv A outer s H E0).nox (defBody st) (canS K t))
    (len : ∀ n ds Q, S n ds Q → ds.length = ps.length) (law : ∀ n ds Q, S n ds Q → t (defE Q) (startG n N ds)) : FnD P w K mg base (k + 1) f fd ps S := by
  refine fg_of F C (fun vs H Q E h => ?_) fun cdv A outer s H vs Q gd hr h => ?_
  · obtain ⟨W, P0, n, ds, Qd, _, _, r, q, _⟩ := h
    rw [r.length]; exact len _ _ _ q
  · obtain ⟨W, P0, n, ds, Qd, R, _, r, q, kk⟩ := h
    refine ⟨_, der cdv A outer s H gd hr, W, P0, startG n N ds, defE Qd, R.start r N, law _ _ _ q, fun W' G σ H' l R' q => ?_, fun _ _ _ _ _ _ q => q.elim, fun _ _ _ _ _ _ q => q.elim, fun W' sv m v H' l R' rv q => ?_⟩
    · exact kk W' (.dat .non) G.c .non H' l R'.bare rfl q
    · exact kk W' sv m v H' l R' rv q
/-! ### sources -/
section
variable {X : Cx} {K : PySem.W.Frag} {W : Wd} {P : Hp} {G : Gm} {σ : St} {H : Hp} {e a : Expr} {pos : Pos}
/-- a new list becomes a source -/
def dSrcE (t : DE) : DE := fun G Q => t G fun sv G1 => ∃ x y z : Int, sv = .new (.lst [.int x, .int y, .int z]) ∧ 0 ≤ y ∧ y < 10 ^ 50 ∧ 0 ≤ z ∧ z ≤ G1.c ∧ Q (.dat .src) G1
theorem ints3 {x y z : Int} {xs : List V} (h : RpL K W [.int x, .int y, .int z] xs) : xs = [.int x, .int y, .int z] := by
  obtain ⟨a, r, rfl, h1, h⟩ := h
  obtain ⟨b, r, rfl, h2, h⟩ := h
  obtain ⟨c, r, rfl, h3, h⟩ := h
  cases h1; cases h2; cases h3; cases h; rfl
theorem de_src {t : DE} (h : PE X e (can X.K t)) : PE X e (can X.K (dSrcE t)) := by
  refine PE.imp h fun σ H Qv h => ?_
  obtain ⟨W, P, G, Q, R, t, k⟩ := h
  refine ⟨W, P, G, _, R, t, fun W1 sv G1 v H1 l1 R1 r1 q1 => ?_⟩
  obtain ⟨x, y, z, rfl, y1, y2, z1, z2, q⟩ := q1
  obtain ⟨p, o, rfl, pr, ro, hn⟩ := r1
  cases o <;> try exact False.elim ro
  rename_i xs
  have e1 := ints3 ro
  subst e1
  have l2 : W1.le ⟨W1.F, fun a => W1.S a ∨ a = p⟩ := ⟨fun _ _ e => e, fun _ h => .inl h⟩
  refine k ⟨W1.F, fun a => W1.S a ∨ a = p⟩ (.dat .src) G1 _ H1 (l1.trans l2) ⟨R1.len, R1.le, fun a h => ?_, R1.prot, fun i d e => ?_, fun i d e => ?_, R1.sep, R1.pnt⟩ ⟨p, rfl, .inr rfl⟩ q
  · rcases h with h | rfl
    · exact R1.src a h
    · exact ⟨pr.f, pr.n, x, y, z, pr.at_, y1, y2, z1, z2⟩
  · obtain ⟨v, h1, h2⟩ := R1.dat i d e
    exact ⟨v, h1, Rp.mono l2 _ _ h2⟩
  · obtain ⟨q, o, h1, h2, h3⟩ := R1.own i d e
    refine ⟨q, o, h1, ⟨h2.at_, h2.f, fun z => ?_, h2.n⟩, h3.mono l2⟩
    rcases z with z | rfl
    · exact h2.s z
    · exact hn i d e h1
/-- to read a source -/
def dSrcIx (i k : Nat) : DE := fun G Q => gg G i = some (.dat .src) ∧ k < 3 ∧ ∀ v : Int, (k = 1 → 0 ≤ v ∧ v < 10 ^ 50) → (k = 2 → 0 ≤ v ∧ v ≤ G.c) → Q (.dat (.int v)) G
theorem Rl.srcAt (R : Rl K W P G σ H) {i : Nat} (h : gg G i = some (.dat .src)) : ∃ a, σ[i]? = some (some (.ref a)) ∧ W.S a := by
  obtain ⟨v, h1, a, rfl, h2⟩ := R.dat i _ h
  exact ⟨a, h1, h2⟩
theorem de_ixSrc {x : Str} {px pk : Pos} {j} (i : Nat) (k : Nat) (hN : X.N[i]? = some x := by rfl) (hv : Vis X.env.scope x := by first | exact Or.inl rfl | exact Or.inr (Or.inl rfl) | exact Or.inr (Or.inr rfl)) (hd : (x == ("__debug__" : Str)) = false := by decide)
    (hcd : (x == ("__classdict__" : Str)) = false := by decide) : PE X (.Subscript (.Name x px) (.Constant (.int (k : Int)) j pk) pos) (can X.K (dSrcIx i k)) := by
  refine PE.imp (pe_ix ix_list (pe_var hN hv hd hcd) pe_int (fun _ _ => rfl)) ?_
  rintro σ H Qv ⟨W, P, G, Q, R, ⟨hg, hk, t⟩, kk⟩
  obtain ⟨a, h1, h2⟩ := R.srcAt hg
  obtain ⟨_, _, x, y, z, h3, y1, y2, z1, z2⟩ := R.src a h2
  have fin : ∀ v : Int, atI [V.int x, .int y, .int z] (k : Int) = some (.int v) → (k = 1 → 0 ≤ v ∧ v < 10 ^ 50) → (k = 2 → 0 ≤ v ∧ v ≤ G.c) → tOp (rIxL X.K) (tVar i) (tC (V.int (k : Int))) σ H Qv := fun v e c1 c2 => ⟨V.ref a, h1, a, _, (k : Int), V.int v, rfl, rfl, .inl (.inl h3), e, kk W (.dat (.int v)) G (.int v) H (.refl W) R rfl (t v c1 c2)⟩
  match k, hk with
  | 0, _ => exact fin x rfl (fun h => by cases h) (fun h => by cases h)
  | 1, _ => exact fin y rfl (fun _ => ⟨y1, y2⟩) (fun h => by cases h)
  | 2, _ => exact fin z rfl (fun h => by cases h) (fun _ => ⟨z1, z2⟩)
theorem Rl.srcSet (R : Rl K W P G σ H) {a : Addr} (h : W.S a) {x y z : Int} (m : Nat) (hm : G.c ≤ m) (y1 : 0 ≤ y) (y2 : y < 10 ^ 50) (z1 : 0 ≤ z) (z2 : z ≤ m) : Rl K W P (G.at m) σ (upd H a (.lst [.int x, .int y, .int z])) := by
  obtain ⟨f, n, _⟩ := R.src a h
  refine ⟨R.len, fun b o e => ?_, fun b hb => ?_, fun p o e => ?_, R.dat, fun i d e => ?_, R.sep, R.pnt⟩
  · rw [upd_ne (fun q => by rw [q, f] at e; cases e)]; exact R.le b o e
  · obtain ⟨f', n', x', y', z', e, a1, a2, a3, a4⟩ := R.src b hb
    refine ⟨f', n', ?_⟩
    by_cases q : b = a
    · subst q; exact ⟨x, y, z, upd_same, y1, y2, z1, z2⟩
    · exact ⟨x', y', z', by rw [upd_ne q]; exact e, a1, a2, a3, Int.le_trans a4 (by exact_mod_cast hm)⟩
  · obtain ⟨h1, h2⟩ := R.prot p o e
    exact ⟨by rw [upd_ne (fun q => by rw [q, n] at e; cases e)]; exact h1, h2⟩
  · obtain ⟨q, o, h1, h2, h3⟩ := R.own i d e
    exact ⟨q, o, h1, ⟨by rw [upd_ne (fun z => h2.s (by rw [z]; exact h))]; exact h2.at_, h2.f, h2.s, h2.n⟩, h3⟩
/-- to write a source -/
def dSrcSet (i k : Nat) (t : DE) : DS := fun E G => t G fun sv G1 => see G1 sv fun d => gg G1 i = some (.dat .src) ∧ match d with
  | .int v => (k = 0 ∧ E.nx G1) ∨ (k = 2 ∧ 0 ≤ v ∧ v ≤ G1.c + 1 ∧ E.nx (G1.at (G1.c + 1)))
  | _ => False
theorem ds_setSrc {x : Str} {px pk pt : Pos} {j} {t : DE} (i : Nat) (k : Nat) (he : PE X e (can X.K t)) (hN : X.N[i]? = some x := by rfl) (hv : Vis X.env.scope x := by first | exact Or.inl rfl | exact Or.inr (Or.inl rfl) | exact Or.inr (Or.inr rfl)) (hd : (x == ("__debug__" : Str)) = false := by decide)
    (hcd : (x == ("__classdict__" : Str)) = false := by decide)
    (hs : swapsWithSole [.Subscript (.Name x px) (.Constant (.int (k : Int)) j pk) pt] e pos.line X.env = pure false := by rfl) (hw : swappedStores [.Subscript (.Name x px) (.Constant (.int (k : Int)) j pk) pt] e X.env = pure none := by rfl)
    (h1 : (assignEach [.Subscript (.Name x px) (.Constant (.int (k : Int)) j pk) pt] X.env).map (·.2) = [assign (.Subscript (.Name x px) (.Constant (.int (k : Int)) j pk) pt) X.env] := by rfl) :
    PS X (.Assign [.Subscript (.Name x px) (.Constant (.int (k : Int)) j pk) pt] e pos) (canS X.K (dSrcSet i k t)) := by
  refine PS.imp (ps_asg he (pg_sub (pe_var hN hv hd hcd) pe_int set_list) hs hw h1) ?_
  rintro D σ H ⟨W, P, G, E, R, t, kk⟩
  refine ⟨W, P, G, _, R, t, fun W1 sv G1 v H1 l1 R1 r1 q1 => ?_⟩
  obtain ⟨W2, l2, R2, s2⟩ := R1.settle r1
  obtain ⟨d, rn, hg, q⟩ := R2.see s2 q1
  cases d <;> try exact False.elim q
  rename_i n
  obtain rfl : v = .int n := rn
  obtain ⟨a, e1, e2⟩ := R2.srcAt hg
  obtain ⟨_, _, x, y, z, h3, y1, y2, z1, z2⟩ := R2.src a e2
  rcases q with ⟨rfl, q⟩ | ⟨rfl, n1, n2, q⟩
  · refine ⟨.ref a, e1, a, _, 0, 0, rfl, rfl, h3, rfl, ?_⟩
    exact kk.nx W2 (G1.at G1.c) σ _ (l1.trans l2) (R2.srcSet (x := n) e2 G1.c (Nat.le_refl _) y1 y2 z1 z2) q
  · refine ⟨.ref a, e1, a, _, 2, 2, rfl, rfl, h3, rfl, ?_⟩
    exact kk.nx W2 (G1.at (G1.c + 1)) σ _ (l1.trans l2) (R2.srcSet (z := n) e2 (G1.c + 1) (Nat.le_succ _) y1 y2 n1 (by exact_mod_cast n2)) q
/-! ### methods of an own list -/
theorem Rl.reown (R : Rl K W P G σ H) {i : Nat} {d d' : D} {p : Addr} {o o' : HO} (e : gg G i = some (.own d)) (h1 : σ[i]? = some (some (.ref p))) (pr : Priv W H P p o) (r : RO K W o' d') : Rl K W P (gset G i (some (.own d'))) σ (upd H p o') := by
  have hl : i < G.length := gg_lt e
  have key : ∀ {j : Nat} {x : SC}, gg (gset G i (some (.own d'))) j = some x → (j = i ∧ x = .own d') ∨ (j ≠ i ∧ gg G j = some x) := fun {j x} q => by
    by_cases hj : j = i
    · rw [hj, gg_set_self _ _ _ hl] at q; cases q; exact .inl ⟨hj, rfl⟩
    · rw [gg_set_ne _ _ _ _ hj] at q; exact .inr ⟨hj, q⟩
  refine ⟨by rw [gset_len]; exact R.len, fun b u q => ?_, fun b hb => ?_, fun q u z => ?_, fun j x q => ?_, fun j x q => ?_, fun j k x y n q1 q2 => ?_, R.pnt⟩
  · rw [upd_ne (fun z => by rw [z, pr.f] at q; cases q)]; exact R.le b u q
  · obtain ⟨f, n, x, y, z, a1, a2⟩ := R.src b hb
    exact ⟨f, n, x, y, z, by rw [upd_ne (fun z => pr.s (by rw [← z]; exact hb))]; exact a1, a2⟩
  · obtain ⟨a1, a2⟩ := R.prot q u z
    exact ⟨by rw [upd_ne (fun y => by rw [y, pr.n] at z; cases z)]; exact a1, a2⟩
  · rcases key q with ⟨_, q⟩ | ⟨_, q⟩
    · cases q
    · exact R.dat j x q
  · rcases key q with ⟨rfl, q'⟩ | ⟨hj, q⟩
    · cases q'; exact ⟨p, o', h1, ⟨upd_same, pr.f, pr.s, pr.n⟩, r⟩
    · obtain ⟨a, u, a1, a2, a3⟩ := R.own j x q
      have na : a ≠ p := fun z => R.sep j i _ _ hj q e (by rw [a1, h1, z])
      exact ⟨a, u, a1, ⟨by rw [upd_ne na]; exact a2.at_, a2.f, a2.s, a2.n⟩, a3⟩
  · have u1 : ∃ z, gg G j = some (.own z) := by
      rcases key q1 with ⟨rfl, _⟩ | ⟨_, q⟩
      · exact ⟨d, e⟩
      · exact ⟨x, q⟩
    have u2 : ∃ z, gg G k = some (.own z) := by
      rcases key q2 with ⟨rfl, _⟩ | ⟨_, q⟩
      · exact ⟨d, e⟩
      · exact ⟨y, q⟩
    obtain ⟨z1, u1⟩ := u1
    obtain ⟨z2, u2⟩ := u2
    exact R.sep j k z1 z2 n u1 u2
def ownL (G : Gm) (i : Nat) (k : List D → Prop) : Prop := match gg G i with | some (.own (.lst ds)) => k ds | _ => False
theorem ownL_of {i : Nat} {k : List D → Prop} (h : ownL G i k) : ∃ ds, gg G i = some (.own (.lst ds)) ∧ k ds := by
  unfold ownL at h
  split at h
  · exact ⟨_, by assumption, h⟩
  · exact h.elim
/-- a method of an own list, over data -/
def dOwnL (i : Nat) (r : List D → List D → (List D → D → Prop) → Prop) (t : DA) : DE := fun G Q => ownL G i (fun _ => True) ∧ t G fun ys G1 => ownL G1 i fun ds => r ds ys fun ds' d => Q (.dat d) (gset G1 i (some (.own (.lst ds'))))
/-- the method of the hand layer does it -/
def MthL (K : PySem.W.Frag) (rV : V → List V → Hp → VK → Prop) (r : List D → List D → (List D → D → Prop) → Prop) : Prop := ∀ (W : Wd) (H : Hp) (p : Addr) (xs us : List V) (ds ys : List D) (k : List D → D → Prop) (Qv : VK), (∀ b o, W.F b = some o → H b = some o) → H p = some (.lst xs) → RpL K W ds xs → RpL K W ys us → r ds ys k →
  (∀ ds' d xs' v, RpL K W ds' xs' → Rp K W d v → k ds' d → Qv v (upd H p (.lst xs'))) → rV (.ref p) us H Qv
variable {es : List Expr} {apos cpos px : Pos} {name x : Str} {id : String} {rV : V → List V → Hp → VK → Prop} {r : List D → List D → (List D → D → Prop) → Prop}
theorem mth_run {i : Nat} {t : DA} (m : MthL K rV r) {Qv : VK} (h : can K (dOwnL i r t) σ H Qv) : ∃ v, σ[i]? = some (some v) ∧ tyV K "list" v H ∧ canA K t σ H fun xs H2 => rV v xs H2 Qv := by
  obtain ⟨W, P, G, Q, R, ⟨h1, h2⟩, kk⟩ := h
  obtain ⟨d0, h1, _⟩ := ownL_of h1
  obtain ⟨p, o, e1, pr, ro⟩ := R.own i _ h1
  cases o <;> try exact False.elim ro
  rename_i xs0
  refine ⟨_, e1, .inl ⟨rfl, xs0, .inl (.inl pr.at_)⟩, W, P, G, _, R, h2, fun W1 ys G1 us H1 l1 R1 r1 q1 => ?_⟩
  obtain ⟨ds, h3, q⟩ := ownL_of q1
  obtain ⟨p', o', e2, pr', ro'⟩ := R1.own i _ h3
  rw [e1] at e2; cases e2
  cases o' <;> try exact False.elim ro'
  rename_i xs
  refine m W1 H1 p xs us ds ys _ Qv R1.le pr'.at_ ro' r1 q fun ds' d xs' v a1 a2 a3 => ?_
  exact kk W1 (.dat d) _ v _ l1 (R1.reown (o' := .lst xs') (d' := .lst ds') h3 e1 pr' a1) a2 a3
theorem de_ml {i : Nat} {t : DA} (slot : Slot "list" name id) (hty : typeOf (.builtin id) = pure (.type "method_descriptor")) (hm : MtR X id rV) (m : MthL X.K rV r) (ha : PA X (e :: es) (canA X.K t))
    (hN : X.N[i]? = some x := by rfl) (hv : Vis X.env.scope x := by first | exact Or.inl rfl | exact Or.inr (Or.inl rfl) | exact Or.inr (Or.inr rfl)) (hd : (x == ("__debug__" : Str)) = false := by decide)
    (hcd : (x == ("__classdict__" : Str)) = false := by decide) (hbase : attributeBase (.Name x px) name X.env (eval (.Name x px) X.env) = eval (.Name x px) X.env := by rfl)
    (hfew : ((backTo cpos (starEach (e :: es) X.env)).all (fun x => !x.1) && (backToKw cpos (keywordEach [] X.env)).all (fun x => x.1.isSome)
      && decide ((e :: es).length + ([] : List Keyword).length + (if ([] : List Keyword).isEmpty then 0 else 1) < 30)) = true := by rfl)
    (hline : (apos.endLine == cpos.line) = true := by rfl) (hs : starEach (e :: es) X.env = (false, eval e X.env) :: starEach es X.env := by rfl) (hplain : (backTo cpos (starEach es X.env)).any (·.1) = false := by rfl) :
    PE X (.Call (.Attribute (.Name x px) name apos) (e :: es) [] cpos) (can X.K (dOwnL i r t)) :=
  PE.imp (pe_bm PySem.F.plainAttrs_list slot hty hm (pe_var hN hv hd hcd) ha hbase hfew hline hs hplain) fun σ H Q h => by
    obtain ⟨v, h1, h2, h3⟩ := mth_run m h
    exact ⟨v, h1, h2, h3⟩
theorem de_ml0 {i : Nat} (slot : Slot "list" name id) (hty : typeOf (.builtin id) = pure (.type "method_descriptor")) (hm : MtR X id rV) (m : MthL X.K rV r)
    (hN : X.N[i]? = some x := by rfl) (hv : Vis X.env.scope x := by first | exact Or.inl rfl | exact Or.inr (Or.inl rfl) | exact Or.inr (Or.inr rfl)) (hd : (x == ("__debug__" : Str)) = false := by decide)
    (hcd : (x == ("__classdict__" : Str)) = false := by decide) (hbase : attributeBase (.Name x px) name X.env (eval (.Name x px) X.env) = eval (.Name x px) X.env := by rfl) (hline : (apos.endLine == cpos.line) = true := by rfl) :
    PE X (.Call (.Attribute (.Name x px) name apos) [] [] cpos) (can X.K (dOwnL i r dNil)) :=
  PE.imp (pe_bm0 PySem.F.plainAttrs_list slot hty hm (pe_var hN hv hd hcd) hbase hline) fun σ H Q h => by
    obtain ⟨v, h1, h2, h3⟩ := mth_run m h
    obtain ⟨W, P, G, q, R, t, k⟩ := h3
    exact ⟨v, h1, h2, k W [] G [] H (.refl W) R rfl t⟩
def mApp : List D → List D → (List D → D → Prop) → Prop := fun ds ys k => match ys with
  | [y] => ds.length < sizeLine ∧ k (ds ++ [y]) .non
  | _ => False
theorem ml_append : MthL K rAppend mApp := fun W H p xs us ds ys k Qv le hp r1 r2 h q => by
  match ys, h with
  | [y], ⟨h1, h2⟩ =>
    obtain ⟨u, r, rfl, ru, rr⟩ := r2
    obtain rfl : r = [] := rr
    exact ⟨p, xs, u, rfl, rfl, hp, by rw [r1.length]; exact h1, q (ds ++ [y]) .non (xs ++ [u]) .non (RpL.append r1 (show RpL K W [y] [u] from ⟨u, [], rfl, ru, rfl⟩)) rfl h2⟩
def mPop : List D → List D → (List D → D → Prop) → Prop := fun ds _ k => match ds.getLast? with
  | some d => k ds.dropLast d
  | none => False
theorem ml_pop : MthL K (fun x vs H Q => vs = [] → rPop x vs H Q) mPop := fun W H p xs us ds ys k Qv le hp r1 r2 h q e => by
  subst e
  unfold mPop at h
  cases e : ds.getLast? with
  | none => rw [e] at h; exact h.elim
  | some d =>
    rw [e] at h
    rw [List.getLast?_eq_getElem?] at e
    obtain ⟨v, h1, h2⟩ := r1.get e
    have h1' : xs[xs.length - 1]? = some v := by rw [r1.length]; exact h1
    refine ⟨p, xs, v, rfl, rfl, hp, h1', q ds.dropLast d _ v ?_ h2 h⟩
    have tk : ∀ {n : Nat} {ds : List D} {xs : List V}, RpL K W ds xs → RpL K W (ds.take n) (xs.take n) := fun {n} => by
      induction n with
      | zero => intro ds xs _; exact rfl
      | succ n ih =>
        intro ds xs r
        cases ds with
        | nil => obtain rfl : xs = [] := r; exact rfl
        | cons a ds => obtain ⟨v, z, rfl, a1, a2⟩ := r; exact ⟨v, z.take n, rfl, a1, ih a2⟩
    rw [List.dropLast_eq_take, List.dropLast_eq_take, ← r1.length]
    exact tk r1
/-- xs.extend(a list) -/
def mExt : List D → List D → (List D → D → Prop) → Prop := fun ds ys k => match ys with
  | [.lst es] => ds.length + es.length ≤ sizeLine ∧ k (ds ++ es) .non
  | _ => False
theorem ml_extend : MthL K rExtend mExt := fun W H p xs us ds ys k Qv le hp r1 r2 h q => by
  match ys, h with
  | [.lst es], ⟨h1, h2⟩ =>
    obtain ⟨u, r, rfl, ⟨b, zs, rfl, s, rz⟩, rr⟩ := r2
    obtain rfl : r = [] := rr
    exact ⟨p, b, xs, zs, rfl, rfl, hp, le _ _ s, by rw [r1.length, rz.length]; exact h1, q (ds ++ es) .non (xs ++ zs) .non (RpL.append r1 rz) rfl h2⟩
/-! x, y = a, b: new objects stay the slots' own -/
theorem Rl.guardP (R : Rl K W P G σ H) {p : Addr} {o : HO} (pr : Priv W H P p o) (hn : ∀ i e, gg G i = some (.own e) → σ[i]? ≠ some (some (.ref p))) (no : ∀ xs, o ≠ .tup xs) : Rl K W (upd P p o) G σ H := by
  refine ⟨R.len, R.le, fun a h => ?_, fun q u e => ?_, R.dat, fun i x e => ?_, R.sep, pnt_upd R.pnt no⟩
  · obtain ⟨h1, h2, h3⟩ := R.src a h
    exact ⟨h1, by rw [upd_ne (show a ≠ p from fun z => pr.s (by rw [← z]; exact h))]; exact h2, h3⟩
  · by_cases hq : q = p
    · subst hq; rw [upd_same] at e; cases e; exact ⟨pr.at_, pr.f⟩
    · rw [upd_ne hq] at e; exact R.prot q u e
  · obtain ⟨q, u, h1, h2, h3⟩ := R.own i x e
    exact ⟨q, u, h1, ⟨h2.at_, h2.f, h2.s, by rw [upd_ne (show q ≠ p from fun z => hn i x e (by rw [← z]; exact h1))]; exact h2.n⟩, h3⟩
def dPar2 (i j : Nat) (ta tb : DE) : DS := fun E G => ta G fun sa G1 => rest1 G1 sa fun ca G2 => tb G2 fun sb G3 => rest1 G3 sb fun cb G4 => E.nx (gset (gset G4 j (some cb)) i (some ca))
theorem ds_par2 {x y : Str} {a b : Expr} (i j : Nat) {ta tb : DE} {px py pt : Pos} {kt k2 pt2} (hN : X.N.Nodup) (ha : PE X a (can X.K ta)) (hb : PE X b (can X.K tb)) (hc : X.calm = true := by rfl) (hi : X.N[i]? = some x := by rfl) (hj : X.N[j]? = some y := by rfl) (hij : i ≠ j := by decide)
    (hx : X.env.scope.names.lookup x = some .local := by rfl) (hy : X.env.scope.names.lookup y = some .local := by rfl)
    (hw : swappedStores [.Tuple [.Name x px, .Name y py] kt pt] (.Tuple [a, b] k2 pt2) X.env = pure (some [x, y]) := by rfl)
    (hs : swapsWithSole [.Tuple [.Name x px, .Name y py] kt pt] (.Tuple [a, b] k2 pt2) pos.line X.env = pure false := by rfl)
    (s1 : starEach [a, b] X.env = (false, eval a X.env) :: starEach [b] X.env := by rfl) (s2 : starEach [b] X.env = (false, eval b X.env) :: starEach [] X.env := by rfl) :
    PS X (.Assign [.Tuple [.Name x px, .Name y py] kt pt] (.Tuple [a, b] k2 pt2) pos) (canS X.K (dPar2 i j ta tb)) := by
  refine PS.imp (ps_par hc hN hi hj hij hx hy (pa_cons ha (pa_cons hb pa_nil s2) s1) hw hs) ?_
  rintro D σ H ⟨W, P, G, E, R, t, k⟩
  have swp : ∀ (v w : V), (σ.set j (some w)).set i (some v) = (σ.set i (some v)).set j (some w) := fun v w => List.set_comm _ _ (Ne.symm hij)
  refine ⟨W, P, G, _, R, t, fun W1 sa G1 v H1 l1 R1 r1 q1 => ?_⟩
  cases sa with
  | dat d =>
    have q1 : tb G1 fun sb G3 => rest1 G3 sb fun cb G4 => E.nx (gset (gset G4 j (some cb)) i (some (.dat d))) := q1
    refine ⟨W1, P, G1, _, R1, q1, fun W2 sb G2 w H2 l2 R2 r2 q2 => ⟨v, w, rfl, ?_⟩⟩
    obtain ⟨W3, c, G3, l3, R3, q3⟩ := R2.rest (i := j) r2 q2
    rw [← swp]
    exact k.nx W3 _ _ H2 ((l1.trans l2).trans l3) (R3.setDat i (Rp.mono (l2.trans l3) _ _ r1)) q3
  | bor n =>
    have q1 : LD.frz G1 (SV.bor n) fun d G2 => tb G2 fun sb G3 => rest1 G3 sb fun cb G4 => E.nx (gset (gset G4 j (some cb)) i (some (.dat d))) := q1
    obtain ⟨Wa, d, Ga, la, Ra, ra, q1⟩ := R1.frz r1 q1
    refine ⟨Wa, P, Ga, _, Ra, q1, fun W2 sb G2 w H2 l2 R2 r2 q2 => ⟨v, w, rfl, ?_⟩⟩
    obtain ⟨W3, c, G3, l3, R3, q3⟩ := R2.rest (i := j) r2 q2
    rw [← swp]
    exact k.nx W3 _ _ H2 (((l1.trans la).trans l2).trans l3) (R3.setDat i (Rp.mono (l2.trans l3) _ _ ra)) q3
  | new d =>
    obtain ⟨p, o, rfl, pr, ro, hn⟩ := r1
    have q1 : tb G1 fun sb G3 => rest1 G3 sb fun cb G4 => E.nx (gset (gset G4 j (some cb)) i (some (.own d))) := q1
    refine ⟨W1, upd P p o, G1, _, R1.guardP pr hn ro.nt, q1, fun W2 sb G2 w H2 l2 R2 r2 q2 => ⟨.ref p, w, rfl, ?_⟩⟩
    obtain ⟨W3, c, G3, l3, R3, q3⟩ := R2.rest (i := j) r2 q2
    obtain ⟨R4, p', o', e, pr4, ro4, hn4⟩ := R3.unguard (d := d) pr.n (ro.mono (l2.trans l3))
    cases e
    rw [← swp]
    exact k.nx W3 _ _ H2 ((l1.trans l2).trans l3) (R4.setOwn i pr4 ro4 hn4) q3

/-! ### slices with a step -/
/-- what a slice of a value is, the step too -/
def SlR3 (X : Cx) (r : V → Option Int → Option Int → Option Int → Hp → VK → Prop) : Prop :=
  ∀ (pins : List (Addr × Obj)) (s : Shared) (σ : St) (H : Hp) (x : V) (v vl vu vs : Value) (lo hi st : Option Int) (sl : Addr) (Q : VK), Inv X pins σ H s → RelV x v → s.heap.IsSliceOf sl vl vu vs → IsPart vl lo → IsPart vu hi → IsPart vs st → r x lo hi st H Q →
    ∃ T id, typeLookup (.type T) "__getitem__" = pure (some (.builtin id)) ∧ s.TypeIs v T ∧ wpAny (model X.prog X.w) X.A (getItem v (.ref sl)) (EP X pins σ Q) X.xe s
theorem SlR3.or {r r' : V → Option Int → Option Int → Option Int → Hp → VK → Prop} (h : SlR3 X r) (h' : SlR3 X r') : SlR3 X (fun x lo hi st H Q => r x lo hi st H Q ∨ r' x lo hi st H Q) := by
  intro pins s σ H x v vl vu vs lo hi st sl Q I rx hs pl pu ps q
  rcases q with q | q
  · exact h pins s σ H x v vl vu vs lo hi st sl Q I rx hs pl pu ps q
  · exact h' pins s σ H x v vl vu vs lo hi st sl Q I rx hs pl pu ps q
theorem SlR3.imp {r r' : V → Option Int → Option Int → Option Int → Hp → VK → Prop} (h : SlR3 X r) (i : ∀ x lo hi st H Q, r' x lo hi st H Q → r x lo hi st H Q) : SlR3 X r' :=
  fun pins s σ H x v vl vu vs lo hi st sl Q I rx hs pl pu ps q => h pins s σ H x v vl vu vs lo hi st sl Q I rx hs pl pu ps (i x lo hi st H Q q)
def tSl3 (r : V → Option Int → Option Int → Option Int → Hp → VK → Prop) (te : TE) (tl th ts : TO) : TE := fun σ H Q => te σ H fun x H1 => tl σ H1 fun l H2 => th σ H2 fun u H3 => ts σ H3 fun c H4 => r x l u c H4 Q
theorem pe_slice3 {r : V → Option Int → Option Int → Option Int → Hp → VK → Prop} {te : TE} {lo hi : Option Expr} {e3 : Expr} {tl th ts : TO} {p2 : Pos} (hr : SlR3 X r) (he : PE X e te) (hl : PO X lo tl) (hu : PO X hi th) (hs : PO X (some e3) ts) : PE X (.Subscript e (.Slice lo hi (some e3) p2) pos) (tSl3 r te tl th ts) := by
  refine ⟨fun pins s σ H Q I h => ?_⟩
  refine Subscript_ (thn (he.run pins s σ H _ I h) fun v s1 ⟨x, H1, I1, r1, q1⟩ => ?_)
  refine wpAny_Slice (thn (hl.run pins s1 σ H1 _ I1 q1) fun vl s2 ⟨l, H2, I2, pl, q2⟩ => thn (hu.run pins s2 σ H2 _ I2 q2) fun vu s3 ⟨u, H3, I3, pu, q3⟩ => thn (hs.run pins s3 σ H3 _ I3 q3) fun vs s4 ⟨c, H4, I4, pc, q4⟩ => ?_)
  have I5 : Inv X pins σ H4 { s4 with heap := s4.heap.push { cls := .type "slice", data := .fields #[vl, vu, vs] } } := I4.kept (t' := s4.toks) fun b ob q => Heap.get?_push_of_some _ q
  obtain ⟨T, id, hT, ht, hg⟩ := hr pins { s4 with heap := s4.heap.push { cls := .type "slice", data := .fields #[vl, vu, vs] } } σ H4 x v vl vu vs l u c s4.heap.objs.size Q I5 r1 (Heap.IsSliceOf.new ..) pl pu pc q4
  show wpAny (model X.prog X.w) X.A (subscriptTail e (.Slice lo hi (some e3) p2) v (.ref s4.heap.objs.size)) (EP X pins σ Q) X.xe { s4 with heap := s4.heap.push { cls := .type "slice", data := .fields #[vl, vu, vs] } }
  exact tail_any (ops := [v, .ref s4.heap.objs.size]) ht hT hg (by with_unfolding_all rfl)
/-- the items at the places of a slice -/
def pickL {α : Type} (xs : List α) (lo hi st : Option Int) : List α := (sliceRange (sliceBounds lo hi st xs.length).1 (sliceBounds lo hi st xs.length).2.1 (sliceBounds lo hi st xs.length).2.2).filterMap fun i => xs[i]?
theorem pick_arr (its : List Value) (lo hi st : Option Int) : slicePick its.toArray lo hi st = (pickL its lo hi st).toArray := by
  unfold slicePick pickL
  rw [List.size_toArray]
  congr 1
  refine congrArg (fun f => List.filterMap f _) ?_
  funext i
  simp
theorem pickL_len {α : Type} (xs : List α) (lo hi st : Option Int) : (pickL xs lo hi st).length ≤ xs.length := by
  have h := slicePick_size_le (xs.map fun _ => Value.none).toArray lo hi st
  rw [pick_arr, List.size_toArray, List.size_toArray, List.length_map] at h
  refine Nat.le_trans (Nat.le_of_eq ?_) h
  unfold pickL
  rw [List.length_map]
  generalize sliceRange _ _ _ = l
  induction l with
  | nil => rfl
  | cons i l ih =>
    rw [List.filterMap_cons, List.filterMap_cons, List.getElem?_map]
    cases xs[i]? with
    | none => exact ih
    | some a => exact congrArg Nat.succ ih
theorem pick_vals {xs : List V} {us : List Value} (r : Vals xs us) (is : List Nat) : Vals (is.filterMap fun i => xs[i]?) (is.filterMap fun i => us[i]?) := by
  have gt : ∀ (i : Nat), (xs[i]? = none ∧ us[i]? = none) ∨ ∃ a b, xs[i]? = some a ∧ us[i]? = some b ∧ RelV a b := by
    intro i
    induction r generalizing i with
    | nil => exact .inl ⟨rfl, rfl⟩
    | cons r t ih => cases i with
      | zero => exact .inr ⟨_, _, rfl, rfl, r⟩
      | succ n => exact ih n
  induction is with
  | nil => exact .nil
  | cons i is ih =>
    rw [List.filterMap_cons, List.filterMap_cons]
    rcases gt i with ⟨h1, h2⟩ | ⟨a, b, h1, h2, h3⟩
    · rw [h1, h2]; exact ih
    · rw [h1, h2]; exact .cons h3 ih
def rSlL3 (K : PySem.W.Frag) : V → Option Int → Option Int → Option Int → Hp → VK → Prop := fun x lo hi st H Q => ∃ a xs, x = .ref a ∧ SqL K H a xs ∧ st ≠ some 0 ∧ ∀ p, H p = none → Q (.ref p) (upd H p (.lst (pickL xs lo hi st)))
theorem sl3_list : SlR3 X (rSlL3 X.K) := by
  intro pins s σ H x v vl vu vs lo hi st sl Q I rx hs pl pu ps h
  obtain ⟨a, xs, rfl, hx, h0, q⟩ := h
  cases rx
  obtain ⟨its, r, ht, hz⟩ := I.list hx
  have hlen := r.length
  refine ⟨"list", _, slot_list_getitem.lookup, ht.isList.typeIs, ?_⟩
  refine wpAny_getItem_list_slice ht.isList hs pl pu ps h0 ?_ (by rw [List.size_toArray] <;> omega)
  rw [pick_arr]
  refine ⟨.ref s.heap.objs.size, _, I.laid (t' := s.toks) (o := .lst (pickL xs lo hi st)) (fun b ob q => Heap.get?_push_of_some _ q) (Nat.le_refl _) ?_, rfl, q _ (I.hok.fresh (Nat.le_refl _))⟩
  refine ⟨Nat.le_trans (pickL_len _ _ _ _) hz, _, 0, ?_, Heap.get?_push_size _ rfl⟩
  have := pick_vals r (sliceRange (sliceBounds lo hi st xs.length).1 (sliceBounds lo hi st xs.length).2.1 (sliceBounds lo hi st xs.length).2.2)
  unfold pickL
  rw [← hlen]
  exact this
end
section
variable {prog : Program} {w : World} {A : Around} {E : Value → Shared → Prop} {s : Shared}
theorem places_rev (n : Nat) : Builtin.Slice.slicePlaces ((n : Int) - 1) (-1) (-1) = n := by
  unfold Builtin.Slice.slicePlaces
  rw [if_neg (by decide)]
  simp only [Int.neg_neg, Int.ediv_one]
  split <;> omega
theorem adjust_rev (n : Nat) : Builtin.Slice.sliceAdjust none none (-1) (n : Int) = ((n : Int) - 1, -1) := rfl
theorem sliceApplied_rev {sl : Addr} {vl vu vs : Value} {n : Nat} {Q : Int × Int × Nat → Shared → Prop} (hs : s.heap.IsSliceOf sl vl vu vs) (pl : IsPart vl none) (pu : IsPart vu none) (ps : IsPart vs (some (-1)))
    (h : Q ((n : Int) - 1, -1, n) s) : wpAny (model prog w) A (Builtin.Slice.sliceApplied (.ref sl) (pure (n : Int))) Q E s := by
  obtain ⟨os, hos, hcs, hds⟩ := id hs
  unfold Builtin.Slice.sliceApplied Builtin.Slice.sliceFields
  refine wpAny_bind (wpAny_bind (wpAny_field hos hds (x := vl) rfl (wpAny_bind (wpAny_field hos hds (x := vu) rfl (wpAny_bind (wpAny_field hos hds (x := vs) rfl (wpAny_pure ?_)))))))
  refine wpAny_bind (HT.slicePart_ ps ?_)
  show wpAny _ _ (if ((-1 : Int) == 0) = true then _ else _) _ _ s
  rw [if_neg (by decide)]
  refine wpAny_bind (HT.slicePart_ pl (wpAny_bind (HT.slicePart_ pu (wpAny_bind (wpAny_pure ?_)))))
  show wpAny _ _ (match Builtin.Slice.sliceAdjust none none (-1) (n : Int) with | (lo, hi) => pure (lo, (-1 : Int), Builtin.Slice.slicePlaces lo hi (-1))) _ _ s
  rw [adjust_rev n]
  show wpAny _ _ (pure (((n : Int) - 1), (-1 : Int), Builtin.Slice.slicePlaces ((n : Int) - 1) (-1) (-1))) _ _ s
  rw [places_rev]
  exact wpAny_pure h
theorem fm_congr {α β : Type} {f g : α → Option β} : ∀ {l : List α}, (∀ a ∈ l, f a = g a) → l.filterMap f = l.filterMap g
  | [], _ => rfl
  | a :: l, h => by rw [List.filterMap_cons, List.filterMap_cons, h a List.mem_cons_self, fm_congr fun x hx => h x (List.mem_cons_of_mem _ hx)]
theorem pick_rev (xs : Array Value) : ((List.range xs.size).filterMap fun (m : Nat) => xs[(((xs.size : Int) - 1) + (m : Int) * (-1)).toNat]?).toArray = xs.toList.reverse.toArray := by
  congr 1
  have e : ∀ m ∈ List.range xs.size, xs[(((xs.size : Int) - 1) + (m : Int) * (-1)).toNat]? = some (xs.toList.reverse.getD m .none) := fun m hm => by
    have hm := List.mem_range.mp hm
    have h1 : (((xs.size : Int) - 1) + (m : Int) * (-1)).toNat = xs.size - 1 - m := by omega
    rw [h1, ← Array.getElem?_toList, List.getD_eq_getElem?_getD, List.getElem?_reverse (by rw [Array.length_toList]; exact hm), Array.length_toList, List.getElem?_eq_getElem (by rw [Array.length_toList]; omega)]
    rfl
  rw [fm_congr (g := fun m => some (xs.toList.reverse.getD m .none)) e, List.filterMap_eq_map']
  refine List.ext_getElem? fun i => ?_
  rw [List.getElem?_map]
  by_cases hi : i < xs.size
  · rw [List.getElem?_range hi, List.getElem?_eq_getElem (by rw [List.length_reverse, Array.length_toList]; exact hi)]
    simp [List.getD_eq_getElem?_getD, hi]
  · rw [List.getElem?_eq_none (by rw [List.length_range]; omega), List.getElem?_eq_none (by rw [List.length_reverse, Array.length_toList]; omega)]
    rfl
theorem getItem_tuple_rev {t sl : Addr} {items : Array Value} {vl vu vs : Value} {Q : Value → Shared → Prop} (ht : IsTup s.heap t items) (hs : s.heap.IsSliceOf sl vl vu vs) (pl : IsPart vl none) (pu : IsPart vu none) (ps : IsPart vs (some (-1)))
    (h : Q (.ref s.heap.objs.size) { s with heap := s.heap.push { cls := .type "tuple", data := .seq items.toList.reverse.toArray } })
    (hsz : items.size ≤ sizeLine) : wpAny (model prog w) A (getItem (.ref t) (.ref sl)) Q E s := by
  have htake : sizeOk (.seq items.toList.reverse.toArray) := by
    show items.toList.reverse.toArray.size ≤ sizeLine
    rw [List.size_toArray, List.length_reverse, Array.length_toList]
    exact hsz
  obtain ⟨os, hos, hcs, hds⟩ := id hs
  have hTs : s.TypeIs (.ref sl) "slice" := ⟨os, hos, hcs⟩
  unfold getItem
  try with_reducible refine wpAny_holding ?_
  first | refine wpAny_bind (wpAny_pure ?_) | skip
  refine wpAny_bind (wpAny_sequenceKey ht.typeIs (by decide) ?_)
  refine wpAny_bind (wpAny_callSpecial?_slot (name := Str.ofString "__getitem__") ht.typeIs PyProof.Rows.slot_tuple_getitem
    (wpAny_call_entry PyProof.Rows.slot_tuple_getitem ht.typeIs entry_tuple_getitem ?_ (args_tuple_getitem _ _)))
  show wpAny _ _ (Builtin.Tuple.tupleItemsOf (.ref t) >>= _) _ _ s
  refine wpAny_bind (tupleItemsOf_ ht ?_)
  refine wpAny_bind (wpAny_typeOf hTs ?_)
  rw [if_pos (by decide)]
  refine wpAny_bind (sliceApplied_rev hs pl pu ps ?_)
  show wpAny _ _ (if ((((items.size : Int) - 1)) == 0 && (-1 : Int) == 1 && items.size == items.size) = true then _ else _) _ _ s
  rw [if_neg (by rw [show ((-1 : Int) == 1) = false from rfl, Bool.and_false, Bool.false_and]; decide), pick_rev]
  first
    | exact wpAny_bind (m := Builtin.Tuple.tupleExact _) (wpAny_newObj_type (wpAny_pure ⟨_, rfl, wpAny_pure h⟩) htake)
    | exact wpAny_bind (m := Builtin.Tuple.tupleExact _) (wpAny_newObj_type (wpAny_bind (wpAny_pure (wpAny_pure ⟨_, rfl, wpAny_pure h⟩))) htake)
    | exact wpAny_bind (wpAny_bind (m := Builtin.Tuple.tupleExact _) (wpAny_newObj_type (wpAny_pure (wpAny_pure ⟨_, rfl, wpAny_pure h⟩)) htake))
    | exact wpAny_bind (wpAny_bind (m := Builtin.Tuple.tupleExact _) (wpAny_newObj_type (wpAny_pure ⟨_, rfl, wpAny_pure h⟩) htake))
end
section
variable {X : Cx} {K : PySem.W.Frag} {W : Wd} {P : Hp} {G : Gm} {σ : St} {H : Hp} {e : Expr} {pos : Pos}
theorem vals_rev : ∀ {xs : List V} {us : List Value}, Vals xs us → Vals xs.reverse us.reverse
  | _, _, .nil => .nil
  | _, _, .cons r t => by
    rw [List.reverse_cons, List.reverse_cons]
    exact (vals_rev t).append (.cons r .nil)
def rSlT3 (K : PySem.W.Frag) : V → Option Int → Option Int → Option Int → Hp → VK → Prop := fun x lo hi st H Q => ∃ a xs, x = .ref a ∧ SqT K H a xs ∧ lo = none ∧ hi = none ∧ st = some (-1) ∧ ∀ p, H p = none → Q (.ref p) (upd H p (.tup xs.reverse))
theorem sl3_tup : SlR3 X (rSlT3 X.K) := by
  intro pins s σ H x v vl vu vs lo hi st sl Q I rx hs pl pu ps h
  obtain ⟨a, xs, rfl, hx, rfl, rfl, rfl, q⟩ := h
  cases rx
  obtain ⟨its, r, ht, hz⟩ := I.tuple hx
  have hlen : its.toArray.size = xs.length := by rw [List.size_toArray]; exact r.length.symm
  refine ⟨"tuple", _, PyProof.Rows.slot_tuple_getitem.lookup, ht.typeIs, ?_⟩
  refine getItem_tuple_rev ht hs pl pu ps ?_ (by rw [hlen]; exact hz)
  refine ⟨.ref s.heap.objs.size, _, I.laid (t' := s.toks) (o := .tup xs.reverse) (fun b ob q => Heap.get?_push_of_some _ q) (Nat.le_refl _) ?_, rfl, q _ (I.hok.fresh (Nat.le_refl _))⟩
  exact ⟨by rw [List.length_reverse]; exact hz, _, vals_rev r, IsTup.new _ _⟩
theorem RpL.rev : ∀ {ds : List D} {xs : List V}, RpL K W ds xs → RpL K W ds.reverse xs.reverse
  | [], _, h => by obtain rfl : _ = [] := h; exact rfl
  | d :: ds, _, h => by
    obtain ⟨v, r, rfl, h1, h2⟩ := h
    rw [List.reverse_cons, List.reverse_cons]
    exact RpL.append (RpL.rev h2) ⟨v, [], rfl, h1, rfl⟩
theorem RpL.pick {ds : List D} {xs : List V} (r : RpL K W ds xs) (lo hi st : Option Int) : RpL K W (pickL ds lo hi st) (pickL xs lo hi st) := by
  have key : ∀ is : List Nat, RpL K W (is.filterMap fun i => ds[i]?) (is.filterMap fun i => xs[i]?) := by
    intro is
    induction is with
    | nil => rfl
    | cons i is ih =>
      rw [List.filterMap_cons, List.filterMap_cons]
      cases e : ds[i]? with
      | none =>
        have : xs[i]? = none := by
          rw [List.getElem?_eq_none_iff] at e ⊢; rw [r.length]; exact e
        rw [this]; exact ih
      | some d =>
        obtain ⟨v, e2, r2⟩ := RpL.get r e
        rw [e2]; exact ⟨v, _, rfl, r2, ih⟩
  unfold pickL
  rw [r.length]
  exact key _
def dSlc3 (a : D) (lo hi st : Option Int) (Q : SV → Prop) : Prop := match a with
  | .lst ds => st ≠ some 0 ∧ Q (.new (.lst (pickL ds lo hi st)))
  | .tup ds => lo = none ∧ hi = none ∧ st = some (-1) ∧ Q (.dat (.tup ds.reverse))
  | _ => False
def dSl3 (ta : DE) (tl th ts : DO) : DE := fun G Q => ta G fun sa G1 => tl G1 fun lo G2 => th G2 fun hi G3 => ts G3 fun st G4 => see G4 sa fun x => dSlc3 x lo hi st fun r => Q r G4
def canS4 (K : PySem.W.Frag) : V → Option Int → Option Int → Option Int → Hp → VK → Prop := fun x lo hi st H Qv => ∃ W P G σ a Q, Rl K W P G σ H ∧ RN K W H a x ∧ dSlc3 a lo hi st Q ∧ Rs K W P G σ Q Qv
theorem sd_sl3 : SlR3 X (canS4 X.K) := by
  refine SlR3.imp (SlR3.or sl3_list sl3_tup) ?_
  rintro x lo hi st H Qv ⟨W, P, G, σ, a, Q, R, ha, t, r⟩
  cases a <;> first | exact False.elim t | skip
  · obtain ⟨p, xs, rfl, s1, r1⟩ := ha
    obtain ⟨h1, h2, h3, t⟩ := t
    exact .inr ⟨p, _, rfl, .of s1, h1, h2, h3, fun q hq => r.newT R hq (RpL.rev r1) t⟩
  · obtain ⟨p, xs, rfl, s1, r1⟩ := ha
    exact .inl ⟨p, _, rfl, .of s1, t.1, fun q hq => r.new R hq (o := .lst _) (d := .lst _) (RpL.pick r1 lo hi st) t.2⟩
theorem de_sl3 {lo hi : Option Expr} {e3 : Expr} {ta : DE} {tl th ts : DO} {p2 : Pos} (he : PE X e (can X.K ta)) (hl : PO X lo (canP X.K tl)) (hh : PO X hi (canP X.K th)) (hs : PO X (some e3) (canP X.K ts)) : PE X (.Subscript e (.Slice lo hi (some e3) p2) pos) (can X.K (dSl3 ta tl th ts)) := by
  refine PE.imp (pe_slice3 sd_sl3 he hl hh hs) ?_
  rintro σ H Qv ⟨W, P, G, Q, R, t, k⟩
  refine can_one R t fun W1 G1 sa x H1 l R1 s1 q => ?_
  refine ⟨W1, P, G1, _, R1, q, fun W2 lo G2 H2 l2 R2 q2 => ⟨W2, P, G2, _, R2, q2, fun W3 hi G3 H3 l3 R3 q3 => ⟨W3, P, G3, _, R3, q3, fun W4 st G4 H4 l4 R4 q4 => ?_⟩⟩⟩
  obtain ⟨d, n, q⟩ := R4.see (s1.mono ((l2.trans l3).trans l4)) q4
  exact ⟨W4, P, G4, σ, d, fun r => Q r G4, R4, n, q, fun W5 sv v H5 l5 R5 r5 q5 => k W5 sv G4 v H5 ((((l.trans l2).trans l3).trans l4).trans l5) R5 r5 q5⟩
/-! list(range(..)) -/
def isI (sv : SV) (k : Int → Prop) : Prop := match sv with
  | .dat (.int i) => k i
  | _ => False
theorem isI_of {sv : SV} {v : V} {k : Int → Prop} (h : RV K W P G σ H sv v) (t : isI sv k) : ∃ b, v = .int b ∧ k b := by
  cases sv <;> first | exact False.elim t | skip
  rename_i d
  cases d <;> first | exact False.elim t | skip
  exact ⟨_, h, t⟩
def dLRg1 (t : DE) : DE := fun G Q => t G fun sv G1 => isI sv fun j => (0 ≤ j ∧ j ≤ 16777216) ∧ Q (.new (.lst (rangeD 0 j.toNat))) G1
theorem rg_rp : ∀ (n : Nat) (lo : Int), RpL K W (rangeD lo n) ((List.range n).map fun i => V.int (lo + (i : Nat)))
  | 0, _ => rfl
  | n + 1, lo => by
    rw [rangeD, List.range_succ_eq_map, List.map_cons, List.map_map]
    refine ⟨.int lo, _, by simp; rfl, rfl, ?_⟩
    have := rg_rp n (lo + 1)
    have e : ((fun i : Nat => V.int (lo + (i : Int))) ∘ Nat.succ) = fun i : Nat => V.int (lo + 1 + (i : Int)) := by
      funext i; show V.int (lo + ((i + 1 : Nat) : Int)) = _; congr 1; omega
    rw [e]; exact this
theorem de_lrg1 {a : Expr} {t : DE} {p p2 pos2 : Pos} (hm : X.mg "list" = none) (hr : X.mg "range" = none) (ha : PE X a (can X.K t)) (hc : X.calm = true := by rfl) (hg : Gl X "list" := by rfl) (hg2 : Gl X "range" := by rfl) (na : starEach [a] X.env = (false, eval a X.env) :: starEach [] X.env := by rfl)
    (nb : starEach [Expr.Call (.Name "range" p2) [a] [] pos2] X.env = (false, eval (Expr.Call (.Name "range" p2) [a] [] pos2) X.env) :: starEach [] X.env := by rfl) : PE X (.Call (.Name "list" p) [.Call (.Name "range" p2) [a] [] pos2] [] pos) (can X.K (dLRg1 t)) := by
  refine PE.imp (pe_listRg hc hg hm (prg_1 hg2 hr ha na) nb) ?_
  rintro σ H Qv ⟨W, P, G, Q, R, t, k⟩
  refine ⟨W, P, G, _, R, t, fun W1 sv G1 v H1 l1 R1 r1 q1 => ?_⟩
  obtain ⟨j, rfl, ⟨j1, j2⟩, q⟩ := isI_of r1 q1
  refine ⟨j, rfl, RgOk.of_le (by omega) j2 (by omega) j1, fun p hp => ?_⟩
  obtain ⟨R2, r2⟩ := R1.alloc (o := .lst (rgV 0 j)) (d := .lst (rangeD 0 j.toNat)) hp (by unfold rgV; rw [show (j - 0).toNat = j.toNat by omega]; exact rg_rp _ _)
  exact k W1 _ G1 _ _ l1 R2 r2 q
/-! {} -/
def dDnK : DE := fun G Q => Q (.new (.dK [])) G
def dDnT : DE := fun G Q => Q (.new (.dT [])) G
theorem de_dnK : PE X (.Dict [] [] pos) (can X.K dDnK) := by
  refine PE.imp pe_dnewK ?_
  rintro σ H Qv ⟨W, P, G, Q, R, t, k⟩
  intro a ha
  obtain ⟨R2, r2⟩ := R.alloc (o := .dK []) (d := .dK []) ha rfl
  exact k W _ G _ _ (.refl W) R2 r2 t
theorem de_dnT : PE X (.Dict [] [] pos) (can X.K dDnT) := by
  refine PE.imp pe_dnewT ?_
  rintro σ H Qv ⟨W, P, G, Q, R, t, k⟩
  intro a ha
  obtain ⟨R2, r2⟩ := R.alloc (o := .dT []) (d := .dT []) ha rfl
  exact k W _ G _ _ (.refl W) R2 r2 t
end
section
variable {X : Cx} {K : PySem.W.Frag} {W : Wd} {P : Hp} {G : Gm} {σ : St} {H : Hp} {e : Expr} {pos : Pos}
/-! ### own dicts -/
def putD {κ : Type} [DecidableEq κ] (es : List (κ × D)) (k : κ) (d : D) : List (κ × D) := if (es.any fun kv => decide (kv.1 = k)) = true then es.map (fun kv => if kv.1 = k then (kv.1, d) else kv) else es ++ [(k, d)]
theorem RpT.keys : ∀ {es : List (List Key × D)} {kvs : List (List Key × V)}, RpT K W es kvs → ∀ k, (kvs.any fun kv => decide (kv.1 = k)) = (es.any fun kv => decide (kv.1 = k))
  | [], _, h, k => by obtain rfl : _ = [] := h; rfl
  | (k', d) :: es, _, h, k => by
    obtain ⟨v, r, rfl, _, h2⟩ := h
    rw [List.any_cons, List.any_cons, RpT.keys h2 k]
theorem RpT.upd {k : List Key} {d : D} {v : V} (rv : Rp K W d v) : ∀ {es : List (List Key × D)} {kvs : List (List Key × V)}, RpT K W es kvs → RpT K W (es.map fun kv => if kv.1 = k then (kv.1, d) else kv) (kvs.map fun kv => if kv.1 = k then (kv.1, v) else kv)
  | [], _, h => by obtain rfl : _ = [] := h; rfl
  | (k', d') :: es, _, h => by
    obtain ⟨v', r, rfl, h1, h2⟩ := h
    rw [List.map_cons, List.map_cons]
    by_cases e : k' = k
    · rw [if_pos e, if_pos e]; exact ⟨v, _, rfl, rv, RpT.upd rv h2⟩
    · rw [if_neg e, if_neg e]; exact ⟨v', _, rfl, h1, RpT.upd rv h2⟩
theorem RpT.snoc {k : List Key} {d : D} {v : V} (rv : Rp K W d v) : ∀ {es : List (List Key × D)} {kvs : List (List Key × V)}, RpT K W es kvs → RpT K W (es ++ [(k, d)]) (kvs ++ [(k, v)])
  | [], _, h => by obtain rfl : _ = [] := h; exact ⟨v, [], rfl, rv, rfl⟩
  | (k', d') :: es, _, h => by obtain ⟨v', r, rfl, h1, h2⟩ := h; exact ⟨v', _, rfl, h1, RpT.snoc rv h2⟩
theorem RpT.len : ∀ {es : List (List Key × D)} {kvs : List (List Key × V)}, RpT K W es kvs → kvs.length = es.length
  | [], _, h => by obtain rfl : _ = [] := h; rfl
  | (k', d') :: es, _, h => by obtain ⟨v', r, rfl, h1, h2⟩ := h; rw [List.length_cons, List.length_cons, RpT.len h2]
theorem RpT.put {k : List Key} {d : D} {v : V} {es : List (List Key × D)} {kvs : List (List Key × V)} (h : RpT K W es kvs) (rv : Rp K W d v) : RpT K W (putD es k d) (putK kvs k v) := by
  unfold putD putK
  rw [h.keys k]
  split
  · exact RpT.upd rv h
  · exact RpT.snoc rv h
theorem RpK.keys : ∀ {es : List (Key × D)} {kvs : List (Key × V)}, RpK K W es kvs → ∀ k, (kvs.any fun kv => decide (kv.1 = k)) = (es.any fun kv => decide (kv.1 = k))
  | [], _, h, k => by obtain rfl : _ = [] := h; rfl
  | (k', d) :: es, _, h, k => by
    obtain ⟨v, r, rfl, _, h2⟩ := h
    rw [List.any_cons, List.any_cons, RpK.keys h2 k]
theorem RpK.upd {k : Key} {d : D} {v : V} (rv : Rp K W d v) : ∀ {es : List (Key × D)} {kvs : List (Key × V)}, RpK K W es kvs → RpK K W (es.map fun kv => if kv.1 = k then (kv.1, d) else kv) (kvs.map fun kv => if kv.1 = k then (kv.1, v) else kv)
  | [], _, h => by obtain rfl : _ = [] := h; rfl
  | (k', d') :: es, _, h => by
    obtain ⟨v', r, rfl, h1, h2⟩ := h
    rw [List.map_cons, List.map_cons]
    by_cases e : k' = k
    · rw [if_pos e, if_pos e]; exact ⟨v, _, rfl, rv, RpK.upd rv h2⟩
    · rw [if_neg e, if_neg e]; exact ⟨v', _, rfl, h1, RpK.upd rv h2⟩
theorem RpK.snoc {k : Key} {d : D} {v : V} (rv : Rp K W d v) : ∀ {es : List (Key × D)} {kvs : List (Key × V)}, RpK K W es kvs → RpK K W (es ++ [(k, d)]) (kvs ++ [(k, v)])
  | [], _, h => by obtain rfl : _ = [] := h; exact ⟨v, [], rfl, rv, rfl⟩
  | (k', d') :: es, _, h => by obtain ⟨v', r, rfl, h1, h2⟩ := h; exact ⟨v', _, rfl, h1, RpK.snoc rv h2⟩
theorem RpK.len : ∀ {es : List (Key × D)} {kvs : List (Key × V)}, RpK K W es kvs → kvs.length = es.length
  | [], _, h => by obtain rfl : _ = [] := h; rfl
  | (k', d') :: es, _, h => by obtain ⟨v', r, rfl, h1, h2⟩ := h; rw [List.length_cons, List.length_cons, RpK.len h2]
theorem RpK.put {k : Key} {d : D} {v : V} {es : List (Key × D)} {kvs : List (Key × V)} (h : RpK K W es kvs) (rv : Rp K W d v) : RpK K W (putD es k d) (putK kvs k v) := by
  unfold putD putK
  rw [h.keys k]
  split
  · exact RpK.upd rv h
  · exact RpK.snoc rv h
def putO (G : Gm) (i : Nat) (b dv : D) (k : D → Prop) : Prop := match gg G i with
  | some (.own (.dT es)) => (match b with | .tup ds => (match keysOf ds with | some ks => es.length < sizeLine ∧ k (.dT (putD es ks dv)) | none => False) | _ => False)
  | some (.own (.dK es)) => (match keyOf b with | some kk => es.length < sizeLine ∧ k (.dK (putD es kk dv)) | none => False)
  | _ => False
def isOwn (G : Gm) (i : Nat) : Prop := match gg G i with
  | some (.own _) => True
  | _ => False
theorem isOwn_of {i : Nat} (h : isOwn G i) : ∃ d, gg G i = some (.own d) := by
  unfold isOwn at h
  split at h
  · exact ⟨_, by assumption⟩
  · exact h.elim
/-- d[k] = v, d an own dict -/
def dPut (i : Nat) (tv tk : DE) : DS := fun E G => tv G fun sv G1 => frz G1 sv fun dv G2 => isOwn G2 i ∧ tk G2 fun sk G3 => frz G3 sk fun b G4 => putO G4 i b dv fun d' => E.nx (gset G4 i (some (.own d')))
theorem ds_put {x : Str} {px pt : Pos} {kx value : Expr} {tv tk : DE} (i : Nat) (hvl : PE X value (can X.K tv)) (hk : PE X kx (can X.K tk)) (hu : X.A.units + 65 < cLine) (hN : X.N[i]? = some x := by rfl)
    (hv : Vis X.env.scope x := by first | exact Or.inl rfl | exact Or.inr (Or.inl rfl) | exact Or.inr (Or.inr rfl)) (hd : (x == ("__debug__" : Str)) = false := by decide)
    (hcd : (x == ("__classdict__" : Str)) = false := by decide)
    (hs : swapsWith value (some (.Subscript (.Name x px) kx pt)) pos.line X.env = pure false := by rfl) :
    PS X (.Assign [.Subscript (.Name x px) kx pt] value pos) (canS X.K (dPut i tv tk)) := by
  refine PS.imp (ps_dput (Nat.lt_of_le_of_lt (by omega) hu) (pe_var hN hv hd hcd) hk hvl hs) ?_
  rintro D σ H ⟨W, P, G, E, R, t, kk⟩
  refine ⟨W, P, G, _, R, t, fun W1 sv G1 v H1 l1 R1 r1 q1 => ?_⟩
  obtain ⟨W2, dv, G2, l2, R2, r2, q2⟩ := R1.frz r1 q1
  obtain ⟨h0, q2⟩ := q2
  obtain ⟨d0, h0⟩ := isOwn_of h0
  obtain ⟨p, o, e1, pr, ro⟩ := R2.own i _ h0
  refine ⟨.ref p, e1, W2, P, G2, _, R2, q2, fun W3 sk G3 y H3 l3 R3 r3 q3 => ?_⟩
  obtain ⟨W4, b, G4, l4, R4, r4, q4⟩ := R3.frz r3 q3
  have rv := Rp.mono (l3.trans l4) _ _ r2
  unfold putO at q4
  split at q4
  · rename_i es e4
    obtain ⟨p', o', e2, pr', ro'⟩ := R4.own i _ e4
    rw [e1] at e2; cases e2
    cases o' <;> try exact False.elim ro'
    rename_i kvs
    cases b <;> try exact False.elim q4
    rename_i ds
    cases hk : keysOf ds with
    | none => simp only [hk] at q4
    | some ks =>
      simp only [hk] at q4
      obtain ⟨a, xs, ey, hx, rx⟩ := R4.rn r4
      have exs := keysOf_eq hk rx
      subst ey exs
      refine ⟨p, _, rfl, DPut.t pr'.at_ hx (by rw [RpT.len ro']; exact q4.1), ?_⟩
      exact kk.nx W4 _ σ _ (((l1.trans l2).trans l3).trans l4) (R4.reown (o' := .dT _) (d' := .dT _) e4 e1 pr' (RpT.put ro' rv)) q4.2
  · rename_i es e4
    obtain ⟨p', o', e2, pr', ro'⟩ := R4.own i _ e4
    rw [e1] at e2; cases e2
    cases o' <;> try exact False.elim ro'
    rename_i kvs
    cases hk : keyOf b with
    | none => simp only [hk] at q4
    | some k =>
      simp only [hk] at q4
      have hy : y = kV k := by
        cases b <;> first | (cases hk; done) | skip
        · obtain rfl : y = .int _ := r4; cases hk; rfl
        · obtain rfl : y = .str _ := r4; cases hk; rfl
      subst hy
      refine ⟨p, _, rfl, DPut.k pr'.at_ (by rw [RpK.len ro']; exact q4.1), ?_⟩
      exact kk.nx W4 _ σ _ (((l1.trans l2).trans l3).trans l4) (R4.reown (o' := .dK _) (d' := .dK _) e4 e1 pr' (RpK.put ro' rv)) q4.2
  · exact q4.elim
/-! {a tuple: v} -/
def tDisp1T (tk tv : TE) : TE := fun σ H Q => ∀ p, H p = none → tk σ (upd H p (.dT [])) fun x H1 => tv σ H1 fun y H2 => H2 p = some (.dT []) ∧ ∃ b ks, x = .ref b ∧ H2 b = some (.tup (ks.map kV)) ∧ Q (.ref p) (upd H2 p (.dT [(ks, y)]))
theorem pe_disp1T {k v : Expr} {tk tv : TE} (hu : X.A.units + 65 < cLine) (hk : PE X k tk) (hv : PE X v tv) : PE X (.Dict [some k] [v] pos) (tDisp1T tk tv) := by
  refine ⟨fun pins s σ H Q I q => ?_⟩
  have hn := I.hok.fresh (Nat.le_refl s.heap.objs.size)
  have I1 := I.laid (a := s.heap.objs.size) (o := .dT []) (h' := s.heap.push { cls := .type "dict", data := .dict #[] }) (t' := s.toks) (fun _ _ q => Heap.get?_push_of_some _ q) (Nat.le_refl _) (dt_empty s.heap I.big)
  have hl : (pairTrees [some k] [v] X.env pos).length = 1 := pairTrees_length [some k] [v] X.env pos rfl rfl
  rw [arm_eval_Dict, zip_pairTrees [some k] [v] X.env pos rfl rfl, dictDisplay_pairs _ (fun z => by rw [z] at hl; cases hl) (by omega)]
  refine wpAny_bind (wpAny_standAt (wpAny_bind ?_))
  unfold subDict
  refine wpAny_bind (wpAny_alloc ?_)
  refine wpAny_bind (wpAny_holding ?_)
  rw [if_pos (by omega)]
  refine wpAny_bind (pairTrees_cons_walk (thn (hk.run pins _ σ _ _ I1 (q _ hn)) fun u s1 ⟨x, H1, I2, rx, q1⟩ => thn (hv.run pins s1 σ H1 _ I2 q1) fun w2 s2 ⟨y, H2, I3, ry, e, b, ks, ex, eb, q2⟩ => pairTrees_nil_walk ?_))
  subst ex
  obtain rfl : u = Value.ref b := rx
  refine wpAny_holding ?_
  obtain ⟨z, hd, xs, rel, dd⟩ := dt_of I3.hok e
  obtain rfl : xs = [] := by cases rel; rfl
  rw [List.forIn_cons]
  refine wpAny_bind (wpAny_bind ?_)
  show wpAny (model X.prog X.w) X.A (do dictSet s.heap.objs.size (Value.ref b) w2; pure (ForInStep.yield PUnit.unit)) _ _ _
  refine wpAny_bind (wpAny_dictSet_heap (hsz := by simp) (show (tupleKind (mixKind X.prog X.w)).room X.A from (show X.A.units < cLine by omega)) (key_of I3.hok eb) dd fun h' dd' hs => wpAny_pure ?_)
  show wpAny (model X.prog X.w) X.A (forIn ([] : List (Value × Value)) PUnit.unit _) _ _ _
  rw [List.forIn_nil]
  refine wpAny_pure (wpAny_pure (wpAny_pure (wpAny_pure ⟨.ref s.heap.objs.size, _, ?_, rfl, q2⟩)))
  obtain ⟨o, es, ep, hq, h2, h3, h4, _, h5⟩ := dd'
  refine d_write I3 (by rw [e]; exact True.intro) hs ⟨o, hq⟩ ⟨?_, hd, _, (KT.put (kvs := []) Paired.nil ks eb ry).keeps fun c ys ec => ?_, o, es, ep, hq, h2, h3, h4, h5⟩
  · show 1 ≤ sizeLine
    decide
  · rw [upd_ne (ne_of ec e (fun z => nomatch z))]
    exact ec
/-- {k: v}, k a tuple of ints and texts -/
def keyT (b : D) (k : List Key → Prop) : Prop := match b with
  | .tup ds => (match keysOf ds with | some ks => k ks | none => False)
  | _ => False
theorem keyT_of {b : D} {k : List Key → Prop} (h : keyT b k) : ∃ ds ks, b = .tup ds ∧ keysOf ds = some ks ∧ k ks := by
  cases b <;> first | exact False.elim h | skip
  rename_i ds
  have h : (match keysOf ds with | some ks => k ks | none => False) := h
  cases e : keysOf ds with
  | none => rw [e] at h; exact h.elim
  | some ks => rw [e] at h; exact ⟨ds, ks, rfl, e, h⟩
def dDsp1 (tk tv : DE) : DE := fun G Q => tk G fun sk G1 => frz G1 sk fun b G2 => tv G2 fun sv G3 => frz G3 sv fun dv G4 => keyT b fun ks => Q (.new (.dT [(ks, dv)])) G4
theorem de_dsp1 {k v : Expr} {tk tv : DE} (hk : PE X k (can X.K tk)) (hv : PE X v (can X.K tv)) (hu : X.A.units + 65 < cLine) : PE X (.Dict [some k] [v] pos) (can X.K (dDsp1 tk tv)) := by
  refine PE.imp (pe_disp1T hu hk hv) ?_
  rintro σ H Qv ⟨W, P, G, Q, R, t, kk⟩ p hp
  obtain ⟨nP, nF, Rg⟩ := R.guard (o := .dT []) hp
  refine ⟨W, _, G, _, Rg, t, fun W1 sk G1 x H1 l1 R1 r1 q1 => ?_⟩
  obtain ⟨W2, b, G2, l2, R2, r2, q2⟩ := R1.frz r1 q1
  refine ⟨W2, _, G2, _, R2, q2, fun W3 sv G3 y H3 l3 R3 r3 q3 => ?_⟩
  obtain ⟨W4, dv, G4, l4, R4, r4, q4⟩ := R3.frz r3 q3
  obtain ⟨ds, ks, rfl, hks, q4⟩ := keyT_of q4
  obtain ⟨a, xs, ex, hx, rx⟩ := R4.rn (Rp.mono (l3.trans l4) _ _ r2)
  have exs := keysOf_eq hks rx
  subst ex exs
  obtain ⟨hp4, R5⟩ := R4.reguard (o' := .dT [(ks, y)])
  obtain ⟨R6, r6⟩ := R5.unguard (o := .dT [(ks, y)]) (d := .dT [(ks, dv)]) nP (show RpT X.K W4 [(ks, dv)] [(ks, y)] from ⟨y, [], rfl, r4, rfl⟩)
  exact ⟨hp4, a, ks, rfl, hx, kk W4 _ G4 _ _ (((l1.trans l2).trans l3).trans l4) R6 r6 q4⟩
/-- xs.pop() -/
theorem de_pop {x : Str} {apos cpos px : Pos} {i : Nat} (hN : X.N[i]? = some x := by rfl) (hv : Vis X.env.scope x := by first | exact Or.inl rfl | exact Or.inr (Or.inl rfl) | exact Or.inr (Or.inr rfl)) (hd : (x == ("__debug__" : Str)) = false := by decide)
    (hcd : (x == ("__classdict__" : Str)) = false := by decide) (hbase : attributeBase (.Name x px) "pop" X.env (eval (.Name x px) X.env) = eval (.Name x px) X.env := by rfl) (hline : (apos.endLine == cpos.line) = true := by rfl) :
    PE X (.Call (.Attribute (.Name x px) "pop" apos) [] [] cpos) (can X.K (dOwnL i mPop dNil)) :=
  PE.imp (pe_bm0 PySem.F.plainAttrs_list PySem.F.slot_list_pop PySem.F.type_list_pop mt_pop (pe_var hN hv hd hcd) hbase hline) fun σ H Q h => by
    obtain ⟨v, h1, h2, h3⟩ := mth_run ml_pop h
    obtain ⟨W, P, G, q, R, t, k⟩ := h3
    exact ⟨v, h1, h2, k W [] G [] H (.refl W) R rfl t rfl⟩
end

/-! ### the end of a law -/
/-- what the law's own def promises -/
def lawS (n : Nat) : DSp := fun m ds Q => m = 0 ∧ ∃ ns : List Int, ds = [.scr ns] ∧ ns.length ≤ n ∧ ∀ j, Q (.dat (.bl true)) j
/-- the heap in which nothing but the script is tracked -/
noncomputable def scrH (K : PySem.W.Frag) (a : Addr) (o : Obj) (xs : List V) : Hp := open Classical in fun b => if b = a ∧ K.lookup a = none then some (.frz o (.lst xs)) else none
section
variable {K : PySem.W.Frag} {a b : Addr} {o : Obj} {xs : List V}
theorem scrH_some {u : HO} (h : scrH K a o xs b = some u) : b = a ∧ K.lookup a = none ∧ u = .frz o (.lst xs) := by
  unfold scrH at h
  split at h
  · rename_i q; cases h; exact ⟨q.1, q.2, rfl⟩
  · cases h
theorem scrH_at (h : K.lookup a = none) : scrH K a o xs a = some (.frz o (.lst xs)) := by
  unfold scrH
  rw [if_pos ⟨rfl, h⟩]
end
theorem end_call {P : Program} {w : World} {K : PySem.W.Frag} {mg mb : Str → Option Value} {k n : Nat} {fa a : Addr} {fd : FuncData} {x : Str} {t : Shared} {vs : List Value} {ns : List Int}
    (KX : K.In t.heap) (hns : t.heap.Ns mainGlobals mg) (hb : t.heap.Ns builtinsNs mb) (hbb : ∀ x : Str, x ≠ "__name__" → mb x = bootBuiltins x) (hlim : t.heap.NoLimit) (hg : t.gens = #[])
    (ha : t.heap.get? a = some { cls := .type "list", data := .seq vs.toArray }) (hi : IntsAre vs ns) (hl : ns.length ≤ sizeLine) (hln : ns.length ≤ n) (hr : Room k callerA)
    (F : ∀ base : Heap, K.In base → base.Ns mainGlobals mg → FnD P w K mg base k fa fd [x] (lawS n)) (hbind : ∀ (s : Shared) (u : Value), BindsTo s fd ⟨[u], []⟩ [(x, u)]) :
    codeAny (model P w) callerA (.call (.ref fa) ⟨[.ref a], []⟩) (fun r s' => r = .ok (.ret (.bool true)) ∧ OldK t.heap s'.heap ∧ s'.os = t.os ∧ AllBare s'.gens) t := by
  have rv := vals_ints hi
  have lenV := hi.length
  let ob : Obj := { cls := .type "list", data := .seq vs.toArray }
  let H : Hp := scrH K a ob (ns.map V.int)
  have hS : SqL K H a (ns.map V.int) := by
    cases hk : K.lookup a with
    | none => exact .inl (.inr ⟨ob, scrH_at hk⟩)
    | some o =>
      have e := KX a o hk
      rw [ha] at e
      cases e
      exact .inr ⟨_, vs.toArray, _, hk, rfl, rfl, rfl, by rw [List.size_toArray, lenV]; exact hl, by simpa using rv⟩
  have hok : HOk P w H t.heap := fun b u z => by
    obtain ⟨rfl, _, rfl⟩ := scrH_some z
    exact ⟨ha, by rw [List.length_map]; exact hl, vs, _, rv, ha⟩
  have stay : ∀ {b : Addr} {o : Obj}, t.heap.get? b = some o → H b = none → (hidT t.heap H).get? b = some o := hidT_get
  have dictN : ∀ {b : Addr} {o : Obj} {es : Array DictEntry} {ep : Nat}, t.heap.get? b = some o → o.data = .dict es ep → H b = none := fun {b o es ep} e d => by
    cases q : H b with
    | none => rfl
    | some u =>
      obtain ⟨rfl, _, _⟩ := scrH_some q
      rw [ha] at e; cases e
      exact absurd (show Data.seq vs.toArray _ = Data.dict es ep from d) (by intro z; cases z)
  have nsH : ∀ {b : Addr} {m : Str → Option Value}, t.heap.Ns b m → (hidT t.heap H).Ns b m := by
    rintro b m ⟨o, es, ep, e, d, r⟩
    exact ⟨o, es, ep, stay e (dictN e d), d, r⟩
  have kH : K.In (hidT t.heap H) := fun b o e => stay (KX b o e) (by
    cases q : H b with
    | none => rfl
    | some u =>
      obtain ⟨rfl, z, _⟩ := scrH_some q
      rw [z] at e; cases e)
  obtain ⟨mc, l1, l2⟩ := hlim
  have hM : Mod K mg (hidT t.heap H) := ⟨kH, nsH hns, ⟨mb, nsH hb, hbb⟩, mc, nsH l1, l2⟩
  have e0 : Env0 P w K mg (hidT t.heap H) callerA [] t H := { frames := rfl, mod := hM, bs := fun b o e => of_hidT e, bsz := Nat.le_of_eq (hidT_size _ _), funs := trivial, frf := fun b hb => absurd hb List.not_mem_nil, hok := hok, bare := .of_eq hg }
  have R : Rl K ⟨H, fun _ => False⟩ (fun _ => none) ⟨[], 0⟩ [] H := ⟨rfl, fun _ _ e => e, fun _ h => h.elim, fun _ _ e => (by cases e), fun _ _ e => (by cases e), fun _ _ e => (by cases e), fun _ _ _ _ _ e _ => (by cases e), fun _ _ e => (by cases e)⟩
  have asked : dSp K (lawS n) [.ref a] H (fun v H' => v = .bl true ∧ ∀ b u, H b = some u → H' b = some u) E0 :=
    ⟨⟨H, fun _ => False⟩, fun _ => none, 0, [.scr ns], fun sv _ => sv = .dat (.bl true), R, fun p o e f _ _ => absurd e (by rw [show H p = none from f]; intro z; cases z), ⟨.ref a, [], rfl, ⟨a, rfl, hS⟩, rfl⟩, ⟨rfl, ns, rfl, hln, fun _ => rfl⟩,
      fun W' sv m v H' l R' r q => by subst q; exact ⟨r, fun b u e => R'.le b u (l.f b u e)⟩⟩
  refine codeAny_mono ((F _ kH (nsH hns)).run callerA [] t H ⟨[.ref a], []⟩ [.ref a] [.ref a] _ rfl hr e0 (hbind t (.ref a)) (.cons rfl .nil) asked) fun r s' h => ?_
  match r, h with
  | .ok (.ret u), ⟨v, H', os, bare, un, hok', r', q, same⟩ =>
    subst q
    obtain rfl : u = Value.bool true := r'
    refine ⟨rfl, OldK.of_keep fun b o e => ?_, os, bare⟩
    cases q : H b with
    | none => exact un.keep b o e q List.not_mem_nil List.not_mem_nil
    | some u =>
      have z := same b u q
      obtain ⟨rfl, _, rfl⟩ := scrH_some q
      obtain ⟨e1, _⟩ := hok b _ q
      obtain ⟨e2, _⟩ := hok' b _ z
      rw [e] at e1; cases e1
      exact e2
/-- the goal behind the head, from the promise of the law's own def -/
theorem walk_d {l : PySem.W.OpenLaw} {n k : Nat} {q : Program} {loose : List Str} {XP : (Str → Option Value) → Heap → Prop} {YP : World → Heap → Prop} {d : DefRec} {K : Params → PySem.W.Frag} {x : Str}
    (hn : l.most = some n) (hn2 : n ≤ sizeLine) (hdf : d.params.defaults = []) (hr : Room k callerA) (hY : ∀ (w : World) (h : Heap), YP w h → (K w.params).In h)
    (F : ∀ (w : World) (mg : Str → Option Value) (fa : Addr) (h : Heap), (K w.params).In h → h.Ns mainGlobals mg → mg d.name = some (.ref fa) →
      ∃ fd : FuncData, (∀ (s : Shared) (u : Value), BindsTo s fd ⟨[u], []⟩ [(x, u)]) ∧ ∀ base : Heap, (K w.params).In base → base.Ns mainGlobals mg → FnD l.prog w (K w.params) mg base k fa fd [x] (lawS n)) :
    PySem.W.WalkO q loose XP YP l.row.toRowW d [] (fun f vs => PySem.call f vs) := by
  refine Att.attach_call hn hdf fun w s₀ t mg mb fa o pm cd doc a vs ns G Y ho hd hcd hmg hobj hints hlen hg => ?_
  have KX := hY w _ Y
  obtain ⟨fd, hb, hF⟩ := F w mg fa _ KX G.T.g hmg
  exact end_call KX G.T.g G.T.b G.T.builtins G.T.nolimit hg hobj hints (Nat.le_trans hlen hn2) hlen hr hF hb

/-! ### defs by name -/
/-- a def of the text as it stands behind the top -/
def FunH (K : PySem.W.Frag) (mg : Str → Option Value) (x : Str) (st : Stmt) (dd : List D) : Prop := ∃ f fd, mg x = some (.ref f) ∧ FunT K x x st dd f fd
/-- and it keeps its promise -/
def Has (P : Program) (w : World) (K : PySem.W.Frag) (mg : Str → Option Value) (base : Heap) (k : Nat) (x : Str) (st : Stmt) (dd : List D) (ps : List Str) (S : DSp) : Prop :=
  ∃ f fd, mg x = some (.ref f) ∧ FunT K x x st dd f fd ∧ FnD P w K mg base k f fd ps S
theorem has_of {P : Program} {w : World} {K : PySem.W.Frag} {mg : Str → Option Value} {base : Heap} {k : Nat} {x : Str} {st : Stmt} {dd : List D} {N ps : List Str} {S : DSp} {t : DS}
    (F : FunH K mg x st dd) (C : FnScope N ps (defScope st))
    (der : ∀ (f : Addr) (cdv : Value) (A : Around) (outer : List Env) (s : Shared) (H : Hp), (A.deeper (envOfC x (defScope st) s.heap.objs.size f cdv)).guards = some [] → Room k (A.deeper (envOfC x (defScope st) s.heap.objs.size f cdv)) →
      PSs (cxOf CX0 P w K mg base N x (defScope st) f cdv A outer s H E0).nox (defBody st) (canS K t))
    (len : ∀ n ds Q, S n ds Q → ds.length = ps.length) (law : ∀ n ds Q, S n ds Q → t (defE Q) (startG n N ds)) : Has P w K mg base (k + 1) x st dd ps S := by
  obtain ⟨f, fd, m, F⟩ := F
  exact ⟨f, fd, m, F, fd_of F C (der f) len law⟩
section
variable {X : Cx} {j k n : Nat} {st : Stmt} {dd : List D} {ps ks : List Str} {S : DSp} {x : Str} {p pos : Pos} {e : Expr} {es : List Expr} {kws : List Keyword} {gD : List D → List D → List D}
abbrev HasX (X : Cx) (k : Nat) (x : Str) (st : Stmt) (dd : List D) (ps : List Str) (S : DSp) : Prop := Has X.prog X.w X.K X.mg X.base k x st dd ps S
theorem dh_call {t : DA} (h : HasX X j x st dd ps S) (gd : X.A.guards = some []) (hr : Room k X.A) (hb : ∀ f fd, FunT X.K x x st dd f fd → Bnd X.K fd ps n [] gD)
    (ha : PA X (e :: es) (canA X.K t)) (hj : j ≤ k := by decide) (hg : Gl X x := by rfl) (hdb : (x == ("__debug__" : Str)) = false := by decide) (he : starEach (e :: es) X.env = (false, eval e X.env) :: starEach es X.env := by rfl) (hpl : (backTo pos (starEach es X.env)).any (·.1) = false := by rfl) :
    PE X (.Call (.Name x p) (e :: es) [] pos) (can X.K (dCall n 0 S gD t dNil)) := by
  obtain ⟨f, fd, m, F, h⟩ := h
  exact de_call h gd (hr.mono hj) m F.kp (hb f fd F) ha hg hdb he hpl
theorem dh_call0 (h : HasX X j x st dd ps S) (gd : X.A.guards = some []) (hr : Room k X.A) (hb : ∀ f fd, FunT X.K x x st dd f fd → Bnd X.K fd ps 0 [] gD) (hj : j ≤ k := by decide) (hg : Gl X x := by rfl) (hdb : (x == ("__debug__" : Str)) = false := by decide) :
    PE X (.Call (.Name x p) [] [] pos) (can X.K (dCall 0 0 S gD dNil dNil)) := by
  obtain ⟨f, fd, m, F, h⟩ := h
  exact de_call0 h gd (hr.mono hj) m F.kp (hb f fd F) hg hdb
theorem dh_callK {t tk : DA} (h : HasX X j x st dd ps S) (gd : X.A.guards = some []) (hr : Room k X.A) (ks : List Str) (hb : ∀ f fd, FunT X.K x x st dd f fd → Bnd X.K fd ps n ks gD)
    (ha : PA X (e :: es) (canA X.K t)) (hw : PK X kws (canA X.K tk)) (hj : j ≤ k := by decide) (hg : Gl X x := by rfl) (hall : (backToKw pos (keywordEach kws X.env)).all (·.1.isSome) = true := by rfl) (hks : (backToKw pos (keywordEach kws X.env)).filterMap (·.1) = ks := by rfl)
    (hdb : (x == ("__debug__" : Str)) = false := by decide) (he : starEach (e :: es) X.env = (false, eval e X.env) :: starEach es X.env := by rfl)
    (hpl : ((backTo pos (starEach (e :: es) X.env)).any (·.1) || (backToKw pos (keywordEach kws X.env)).any (·.1.isNone)) = false := by rfl) : PE X (.Call (.Name x p) (e :: es) kws pos) (can X.K (dCall n ks.length S gD t tk)) := by
  obtain ⟨f, fd, m, F, h⟩ := h
  exact de_callK h gd (hr.mono hj) m F.kp (hb f fd F) ha hw hg hall hks hdb he hpl
theorem dh_callK0 {tk : DA} (h : HasX X j x st dd ps S) (gd : X.A.guards = some []) (hr : Room k X.A) (ks : List Str) (hb : ∀ f fd, FunT X.K x x st dd f fd → Bnd X.K fd ps 0 ks gD)
    (hw : PK X kws (canA X.K tk)) (hj : j ≤ k := by decide) (hg : Gl X x := by rfl) (hall : (backToKw pos (keywordEach kws X.env)).all (·.1.isSome) = true := by rfl) (hks : (backToKw pos (keywordEach kws X.env)).filterMap (·.1) = ks := by rfl)
    (hdb : (x == ("__debug__" : Str)) = false := by decide) (hpl : ((backTo pos (starEach [] X.env)).any (·.1) || (backToKw pos (keywordEach kws X.env)).any (·.1.isNone)) = false := by rfl) :
    PE X (.Call (.Name x p) [] kws pos) (can X.K (dCall 0 ks.length S gD dNil tk)) := by
  obtain ⟨f, fd, m, F, h⟩ := h
  exact de_callK0 h gd (hr.mono hj) m F.kp (hb f fd F) hw hg hall hks hdb hpl
theorem u65 {k : Nat} {A : Around} (r : Room k A) : A.units + 65 < cLine := by have := r.un; omega
end
/-! ### the module's constants -/
def GlbI (mg : Str → Option Value) (x : Str) (n : Int) : Prop := ∃ t, mg x = some (.int n t)
section
variable {X : Cx} {x : Str} {pos : Pos} {n : Int}
theorem de_glI (h : GlbI X.mg x n) (hg : Gl X x := by rfl) (hd : (x == ("__debug__" : Str)) = false := by decide) : PE X (.Name x pos) (can X.K (dC (.int n))) := by
  obtain ⟨t, h⟩ := h
  exact de_glob (v := .int n) h ⟨t, rfl⟩ (fun _ _ => rfl) hg hd
/-- a list is taken apart -/
def dgUnl (n : Nat) (t : DGs) : DG := fun sv G Q => frz G sv fun d G1 => match d with
  | .lst ds => ds.length = n ∧ t ds G1 Q
  | _ => False
theorem dg_unl {es : List Expr} {k : Nat} {t : DGs} {n : Nat} {ws : List Nat} (h : PGs X es (canGs X.K ws t)) (hc : X.calm = true := by rfl) (hn : (assignEach es X.env).length = n := by rfl) (hst : (assignEach es X.env).findIdx? (·.1) = none := by rfl) :
    PG X (.Tuple es k pos) (canG X.K ws (dgUnl n t)) := by
  refine PG.imp (pg_unl hc h hn hst) ?_
  rintro v σ H Qs ⟨W, P, G, sv, Q, R, r, t, kk⟩
  obtain ⟨W1, d, G1, l1, R1, r1, q⟩ := R.frz r t
  cases d <;> try exact False.elim q
  rename_i ds
  obtain ⟨a, xs, rfl, e, rr⟩ := r1
  exact ⟨a, xs, rfl, R1.sqL (.of e), by rw [rr.length]; exact q.1, W1, P, G1, ds, Q, R1, rr, q.2, fun W' G' σ' H' l => kk W' G' σ' H' (l1.trans l)⟩
end
theorem fund_mk {K : PySem.W.Frag} {x qual : Str} {st : Stmt} {dd : List D} {f : Addr} {oc dV kV doc pm cdv ct : Value} {od an : Option Addr} {osl : Array (Option Value)}
    (l : K.lookup f = some ⟨oc, od, .func (PySem.W.fnOf x qual (defArgs st) (defBody st) (defScope st) dV kV doc pm an cdv ct), osl⟩) (c : PySem.W.codeIn K cdv qual = true) (k : PySem.W.keepIn K (.ref f) = true)
    (d : He.dflB K dV (dd.map flV) = true) : FunT K x qual st dd f (PySem.W.fnOf x qual (defArgs st) (defBody st) (defScope st) dV kV doc pm an cdv ct) :=
  ⟨⟨oc, od, dV, kV, doc, pm, an, cdv, ct, osl, rfl, l, c, He.dflB_ok d, .inl rfl⟩, k⟩
/-! ### promises, by kind -/
/-- a function of data: no draw -/
def fnS (R : List D → D → Prop) : DSp := fun n ds Q => ∃ r, R ds r ∧ Q (.dat r) n
/-- no more than c draws -/
def drS (c : Nat) (pre : List D → Prop) (post : List D → SV → Prop) : DSp := fun n ds Q => pre ds ∧ n + c ≤ 10 ^ 18 ∧ ∀ r m, post ds r → n ≤ m → m ≤ n + c → Q r m

/-! ### to reckon with the terms -/
def brS (_ : Nat) (b : Bool) (t u : DS) (E : DEnds) (G : Gm) : Prop := if b = true then t E G else u E G
def brE (_ : Nat) (b : Bool) (t u : DE) (G : Gm) (Q : SV → Gm → Prop) : Prop := if b = true then t G Q else u G Q
def brT (_ : Nat) (b : Bool) (u : DT) (G : Gm) (Q : Bool → Gm → Prop) : Prop := if b = true then u G Q else Q false G
def brO (_ : Nat) (b : Bool) (u : DT) (G : Gm) (Q : Bool → Gm → Prop) : Prop := if b = true then Q true G else u G Q
def brA (_ : Nat) (b : Bool) (u : DE) (G : Gm) (Q : SV → Gm → Prop) : Prop := if b = true then u G Q else Q (.dat (.bl false)) G
def brR (_ : Nat) (b : Bool) (u : DE) (G : Gm) (Q : SV → Gm → Prop) : Prop := if b = true then Q (.dat (.bl true)) G else u G Q
/-! only what stands now is reckoned, not what follows -/
section
variable {n0 : Nat} {E : DEnds} {G G0 : Gm} {Q : SV → Gm → Prop} {q : SV → Prop} {t u : DS} {c d : DT} {a b e : DE} {as bs : DA} {g : DG} {gs : DGs} {i j k n m : Nat} {x y z : Int} {p r : Bool} {sv : SV} {L : List (Option SC)} {o : Option SC}
theorem x_seq : dSeq t u E G = t { E with nx := u E } G := rfl
theorem x_next : dNext E G = E.nx G := rfl
theorem x_brk : dBrk E G = E.bk G := rfl
theorem x_cnt : dCnt E G = E.ct G := rfl
theorem x_drop : dDrop e E G = e G fun _ G1 => E.nx G1 := rfl
theorem x_ret : dRet e E G = e G fun sv G1 => rtS G1 sv fun s => E.rt s G1.c := rfl
theorem x_retN : dRetN E G = E.rt (.dat .non) G.c := rfl
theorem x_never : dNever E G = False := rfl
theorem x_rtd {d : D} {k : SV → Prop} : rtS G (.dat d) k = k (.dat d) := rfl
theorem x_rtn {d : D} {k : SV → Prop} : rtS G (.new d) k = k (.new d) := rfl
theorem x_rtb {k : SV → Prop} : rtS G (.bor i) k = (match gg G i with | some (.own d) => k (.new d) | some (.dat d) => k (.dat d) | none => False) := rfl
theorem x_ifs : dIfS c t u E G = c G fun b G1 => brS (0 + 0) b t u E G1 := rfl
theorem x_brs1 : brS n0 true t u E G = t E G := by unfold brS; rw [if_pos rfl]
theorem x_brs0 : brS n0 false t u E G = u E G := by unfold brS; rw [if_neg Bool.false_ne_true]
theorem x_asg : dAsg e g E G = e G fun sv G1 => g sv G1 E.nx := rfl
theorem x_name {Qn : Gm → Prop} : dgName i sv G Qn = rest1 G sv fun c G1 => Qn (gset G1 i (some c)) := rfl
theorem x_rsd {d : D} {k : SC → Gm → Prop} : rest1 G (.dat d) k = k (.dat d) G := rfl
theorem x_rsn {d : D} {k : SC → Gm → Prop} : rest1 G (.new d) k = k (.own d) G := rfl
theorem x_rsb {k : SC → Gm → Prop} : rest1 G (.bor i) k = (match gg G i with | some (.own d) => k (.dat d) (gset G i (some (.dat d))) | some (.dat d) => k (.dat d) G | none => False) := rfl
theorem x_tgt {ds : List D} {Qn : Gm → Prop} : dgTup n gs (.dat (.tup ds)) G Qn = (ds.length = n ∧ gs ds G Qn) := rfl
theorem x_unl {Qn : Gm → Prop} : dgUnl n gs sv G Qn = frz G sv fun d G1 => match d with
  | .lst ds => ds.length = n ∧ gs ds G1 Qn
  | _ => False := rfl
theorem x_gnil {Qn : Gm → Prop} : dgNil [] G Qn = Qn G := by unfold dgNil; simp
theorem x_gcons {d : D} {ds : List D} {Qn : Gm → Prop} : dgCons g gs (d :: ds) G Qn = g (.dat d) G fun G1 => gs ds G1 Qn := rfl
def parK (i j : Nat) (Qn : Gm → Prop) (ds : List D) (G1 : Gm) : Prop := match ds with
  | a :: b :: r => r = [] ∧ Qn (gset (gset G1 i (some (.dat a))) j (some (.dat b)))
  | _ => False
theorem x_par : dPar i j as E G = as G (parK i j E.nx) := rfl
theorem x_park {a b : D} {Qn : Gm → Prop} : parK i j Qn [a, b] G = dgName i (.dat a) G fun G1 => dgName j (.dat b) G1 Qn := by show ([] = [] ∧ _) = _; simp [dgName, rest1]
theorem x_for {it : DI} : dFor it g t E G = it G fun ds G1 => forL g t E ds G1 := rfl
theorem x_dat {d : D} (h : gg G i = some (.dat d)) : dVar i G Q = Q (.dat d) G := by unfold dVar; rw [h]
theorem x_var : dVar i G Q = (match gg G i with | some (.dat d) => Q (.dat d) G | some (.own _) => Q (.bor i) G | none => False) := rfl
theorem x_c {d : D} : dC d G Q = Q (.dat d) G := rfl
theorem x_bin {dr : D2} : dBin dr a b G Q = a G fun sa G1 => b G1 fun sb G2 => see G2 sa fun x => see G2 sb fun y => dr x y fun r => Q r G2 := rfl
theorem x_un {dr : D1} : dUn dr a G Q = a G fun sa G1 => see G1 sa fun x => dr x fun r => Q r G1 := rfl
theorem x_bn {f : List D → (SV → Prop) → Prop} : dBn f as G Q = as G fun ds G1 => f ds fun r => Q r G1 := rfl
theorem x_seed {d : D} {f : D → Prop} : see G (.dat d) f = f d := rfl
theorem x_seen {d : D} {f : D → Prop} : see G (.new d) f = f d := rfl
theorem x_seeb {f : D → Prop} : see G (.bor i) f = (match gg G i with | some (.own d) => f d | some (.dat d) => f d | none => False) := rfl
theorem x_frd {d : D} {f : D → Gm → Prop} : frz G (.dat d) f = f d G := rfl
theorem x_frn {d : D} {f : D → Gm → Prop} : frz G (.new d) f = f d G := rfl
theorem x_frb {f : D → Gm → Prop} : frz G (.bor i) f = (match gg G i with | some (.own d) => f d (gset G i (some (.dat d))) | some (.dat d) => f d G | none => False) := rfl
theorem x_tst {Qb : Bool → Gm → Prop} : dTst e G Qb = e G fun sa G1 => isB sa fun b => Qb b G1 := rfl
theorem x_isb {f : Bool → Prop} : isB (.dat (.bl p)) f = f p := rfl
theorem x_nott {Qb : Bool → Gm → Prop} : dNotT c G Qb = c G fun b G1 => Qb (!b) G1 := rfl
theorem x_andt {Qb : Bool → Gm → Prop} : dAndT c d G Qb = c G fun b G1 => brT (0 + 0) b d G1 Qb := rfl
theorem x_ort {Qb : Bool → Gm → Prop} : dOrT c d G Qb = c G fun b G1 => brO (0 + 0) b d G1 Qb := rfl
theorem x_brt1 {Qb : Bool → Gm → Prop} : brT n0 true d G Qb = d G Qb := by unfold brT; rw [if_pos rfl]
theorem x_brt0 {Qb : Bool → Gm → Prop} : brT n0 false d G Qb = Qb false G := by unfold brT; rw [if_neg Bool.false_ne_true]
theorem x_bro1 {Qb : Bool → Gm → Prop} : brO n0 true d G Qb = Qb true G := by unfold brO; rw [if_pos rfl]
theorem x_bro0 {Qb : Bool → Gm → Prop} : brO n0 false d G Qb = d G Qb := by unfold brO; rw [if_neg Bool.false_ne_true]
theorem x_andv : dAndV a b G Q = a G fun s G1 => isB s fun p => brA (0 + 0) p b G1 Q := rfl
theorem x_orv : dOrV a b G Q = a G fun s G1 => isB s fun p => brR (0 + 0) p b G1 Q := rfl
theorem x_bra1 : brA n0 true e G Q = e G Q := by unfold brA; rw [if_pos rfl]
theorem x_bra0 : brA n0 false e G Q = Q (.dat (.bl false)) G := by unfold brA; rw [if_neg Bool.false_ne_true]
theorem x_brr1 : brR n0 true e G Q = Q (.dat (.bl true)) G := by unfold brR; rw [if_pos rfl]
theorem x_brr0 : brR n0 false e G Q = e G Q := by unfold brR; rw [if_neg Bool.false_ne_true]
theorem x_notv : dNotV e G Q = e G fun s G1 => isB s fun b => Q (.dat (.bl (!b))) G1 := rfl
theorem x_if : dIf c a b G Q = c G fun p G1 => brE (0 + 0) p a b G1 Q := rfl
theorem x_bre1 : brE n0 true a b G Q = a G Q := by unfold brE; rw [if_pos rfl]
theorem x_bre0 : brE n0 false a b G Q = b G Q := by unfold brE; rw [if_neg Bool.false_ne_true]
theorem x_chn {dr ds : D2} : dChn dr ds a b e G Q = a G fun sa G1 => b G1 fun sb G2 => see G2 sa fun x => see G2 sb fun y => flatD y = true ∧ dr x y fun r => isB r fun p => brA (0 + 0) p (fun G3 Q' => e G3 fun sc G4 => see G4 sc fun z => ds y z fun r => Q' r G4) G2 Q := rfl
theorem x_nil {Qa : List D → Gm → Prop} : dNil G Qa = Qa [] G := rfl
theorem x_cons {Qa : List D → Gm → Prop} : dCons e as G Qa = e G fun s G1 => frz G1 s fun d G2 => as G2 fun ds G3 => Qa (d :: ds) G3 := rfl
theorem x_tup : dTup as G Q = as G fun ds G1 => ds.length ≤ sizeLine ∧ Q (.dat (.tup ds)) G1 := rfl
theorem x_lst : dLst as G Q = as G fun ds G1 => ds.length ≤ sizeLine ∧ Q (.new (.lst ds)) G1 := rfl
def callK (Q : SV → Gm → Prop) (G : Gm) (r : SV) (j : Nat) : Prop := Q r (G.at j)
theorem x_ck : callK Q ⟨L, k⟩ sv j = Q sv ⟨L, j⟩ := rfl
theorem x_call {S : DSp} {gD : List D → List D → List D} : dCall n m S gD as bs G Q = as G fun ds G1 => bs G1 fun es G2 => ds.length = n ∧ es.length = m ∧ S G2.c (gD ds es) (callK Q G2) := rfl
theorem x_wlk {Qa : List D → Gm → Prop} : dWalk e G Qa = e G fun sv G1 => frz G1 sv fun d G2 => asL d fun ds => Qa ds G2 := rfl
theorem x_asll {ds : List D} {f : List D → Prop} : asL (.lst ds) f = f ds := rfl
theorem x_aslt {ds : List D} {f : List D → Prop} : asL (.tup ds) f = f ds := rfl
theorem x_sle {lo hi : DO} : dSl a lo hi G Q = a G fun sa G1 => lo G1 fun lo G2 => hi G2 fun hi G3 => see G3 sa fun x => dSlc x lo hi fun r => Q r G3 := rfl
theorem x_nop {Qo : Option Int → Gm → Prop} : dNoP G Qo = Qo none G := rfl
theorem x_prt {Qo : Option Int → Gm → Prop} : dPart e G Qo = e G fun s G1 => see G1 s fun d => match d with | .int i => Qo (some i) G1 | _ => False := rfl
theorem x_lc {vs : List Nat} {it : DI} : dLc vs it g c e G Q = it G fun ds G1 => ds.length ≤ sizeLine ∧ lcL vs g c e (fun acc G2 => Q (.new (.lst acc)) (backG vs G1 G2)) ds [] (wipeG vs G1) := rfl
/-! slots -/
theorem x_gg : gg ⟨L, k⟩ i = ggl L i := rfl
theorem x_gl0 {r : List (Option SC)} : ggl (o :: r) 0 = o := rfl
theorem x_gls {r : List (Option SC)} : ggl (o :: r) (i + 1) = ggl r i := rfl
theorem x_gs : gset ⟨L, k⟩ i o = ⟨gsl L i o, k⟩ := rfl
theorem x_gs0 {w : Option SC} {r : List (Option SC)} : gsl (w :: r) 0 o = o :: r := rfl
theorem x_gss {w : Option SC} {r : List (Option SC)} : gsl (w :: r) (i + 1) o = w :: gsl r i o := rfl
theorem x_at : Gm.at ⟨L, k⟩ j = ⟨L, j⟩ := rfl
theorem x_w0 : wipeG [] G = G := rfl
theorem x_ws {vs : List Nat} : wipeG (i :: vs) G = gset (wipeG vs G) i none := rfl
theorem x_b0 : backG [] G0 G = G := rfl
theorem x_bs {vs : List Nat} : backG (i :: vs) G0 G = gset (backG vs G0 G) i (datO (gg G0 i)) := rfl
theorem x_do1 {d : D} : datO (some (.dat d)) = some (.dat d) := rfl
theorem x_do2 {d : D} : datO (some (.own d)) = none := rfl
theorem x_do3 : datO none = none := rfl
/-! operations -/
theorem x_add : dAdd (.int x) (.int y) q = q (.dat (.int (x + y))) := rfl
theorem x_addb : dAdd (.int x) (.bl p) q = q (.dat (.int (x + b2i p))) := rfl
theorem x_sub : dSub (.int x) (.int y) q = q (.dat (.int (x - y))) := rfl
theorem x_mul : dMul (.int x) (.int y) q = (CMulW x y ∧ q (.dat (.int (x * y)))) := rfl
theorem x_fdv : dFdv (.int x) (.int y) q = (y ≠ 0 ∧ y.natAbs.log2 < 9000 ∧ q (.dat (.int (x.fdiv y)))) := rfl
theorem x_mod : dMod (.int x) (.int y) q = (y ≠ 0 ∧ q (.dat (.int (x.fmod y)))) := rfl
theorem x_pow : dPow (.int x) (.int y) q = (0 ≤ y ∧ (Builtin.Int.intBits x : Int) * y ≤ 2 ^ 27 ∧ q (.dat (.int (x ^ y.toNat)))) := rfl
theorem x_neg : dNeg (.int x) q = q (.dat (.int (-x))) := rfl
theorem x_cmp {f : Int → Int → Bool} : dCmp f (.int x) (.int y) q = q (.dat (.bl (f x y))) := rfl
theorem x_iadd : dIAdd (.int x) (.int y) q = q (.dat (.int (x + y))) := rfl
theorem x_abs : dAbs (.int x) q = q (.dat (.int (if x < 0 then -x else x))) := rfl
theorem x_int : dInt (.int x) q = q (.dat (.int x)) := rfl
theorem x_intb : dInt (.bl p) q = q (.dat (.int (if p then 1 else 0))) := rfl
theorem x_lenl {ds : List D} : dLen (.lst ds) q = q (.dat (.int ds.length)) := rfl
theorem x_lent {ds : List D} : dLen (.tup ds) q = q (.dat (.int ds.length)) := rfl
theorem x_max : dMax2 [.int x, .int y] q = q (.dat (.int (if y > x then y else x))) := by show (([] : List D) = [] ∧ _) = _; simp
theorem x_min : dMin2 [.int x, .int y] q = q (.dat (.int (if y < x then y else x))) := by show (([] : List D) = [] ∧ _) = _; simp
theorem x_ixt {ds : List D} : dIx (.tup ds) (.int x) q = atQ (atI ds x) q := rfl
theorem x_ixl {ds : List D} : dIx (.lst ds) (.int x) q = atQ (atI ds x) q := rfl
theorem x_atq {d : D} : atQ (some d) q = q (.dat d) := rfl
theorem x_eq {d e : D} : dEq d e q = eqQ d e fun c => q (.dat (.bl c)) := rfl
theorem x_ne {d e : D} : dNe d e q = eqQ d e fun c => q (.dat (.bl (!c))) := rfl
theorem x_eqi {f : Bool → Prop} : eqQ (.int x) (.int y) f = f (decide (x = y)) := by
  show (Pl 20 (.int x) ∧ Pl 20 (.int y) ∧ f (eqD (.int x) (.int y))) = _
  have : eqD (.int x) (.int y) = decide (x = y) := by unfold eqD toPy PyData.eqv; rw [Bool.eq_iff_iff]; simp
  rw [this]; simp [Pl]
theorem x_eqs {s1 s2 : Str} {f : Bool → Prop} : eqQ (.str s1) (.str s2) f = f (decide (s1 = s2)) := rfl
theorem x_eqD {f : Bool → Prop} {d e : D} (h : strsD d e = none) (h1 : Pl 20 d) (h2 : Pl 20 e) : eqQ d e f = f (eqD d e) := by
  unfold eqQ; rw [h]; simp [h1, h2]
theorem x_isn {d : D} : dIs d .non q = q (.dat (.bl (isNon d))) := rfl
theorem x_isbb {x y : Bool} : dIs (.bl x) (.bl y) q = q (.dat (.bl (decide (x = y)))) := rfl
theorem x_isnbb {x y : Bool} : dIsn (.bl x) (.bl y) q = q (.dat (.bl (!decide (x = y)))) := rfl
theorem x_isnn {d : D} : dIsn d .non q = q (.dat (.bl (!isNon d))) := rfl
end
theorem x_isii {U : String} {x : Int} {q : SV → Prop} (h : U ∈ kits := by decide) : dIsi [.int x, .ty U] q = q (.dat (.bl (isT "int" U))) := by show (([] : List D) = [] ∧ U ∈ kits ∧ _) = _; simp [h, clsD]
theorem x_isib {U : String} {x : Bool} {q : SV → Prop} (h : U ∈ kits := by decide) : dIsi [.bl x, .ty U] q = q (.dat (.bl (isT "bool" U))) := by show (([] : List D) = [] ∧ U ∈ kits ∧ _) = _; simp [h, clsD]
theorem x_isin {U : String} {q : SV → Prop} (h : U ∈ kits := by decide) : dIsi [.non, .ty U] q = q (.dat (.bl (isT "NoneType" U))) := by show (([] : List D) = [] ∧ U ∈ kits ∧ _) = _; simp [h, clsD]
theorem x_isis {U : String} {x : Str} {q : SV → Prop} (h : U ∈ kits := by decide) : dIsi [.str x, .ty U] q = q (.dat (.bl (isT "str" U))) := by show (([] : List D) = [] ∧ U ∈ kits ∧ _) = _; simp [h, clsD]
theorem x_isit {U : String} {x : List D} {q : SV → Prop} (h : U ∈ kits := by decide) : dIsi [.tup x, .ty U] q = q (.dat (.bl (isT "tuple" U))) := by show (([] : List D) = [] ∧ U ∈ kits ∧ _) = _; simp [h, clsD]
theorem x_isil {U : String} {x : List D} {q : SV → Prop} (h : U ∈ kits := by decide) : dIsi [.lst x, .ty U] q = q (.dat (.bl (isT "list" U))) := by show (([] : List D) = [] ∧ U ∈ kits ∧ _) = _; simp [h, clsD]
theorem k_int : ("int" : String) ∈ kits := by decide
theorem k_bool : ("bool" : String) ∈ kits := by decide
theorem k_tuple : ("tuple" : String) ∈ kits := by decide
theorem k_list : ("list" : String) ∈ kits := by decide
theorem k_str : ("str" : String) ∈ kits := by decide
theorem T_ii : isT "int" "int" = true := by decide
theorem T_ib : isT "int" "bool" = false := by decide
theorem T_it : isT "int" "tuple" = false := by decide
theorem T_il : isT "int" "list" = false := by decide
theorem T_bi : isT "bool" "int" = true := by decide
theorem T_bb : isT "bool" "bool" = true := by decide
theorem T_tt : isT "tuple" "tuple" = true := by decide
theorem T_ti : isT "tuple" "int" = false := by decide
theorem T_tl : isT "tuple" "list" = false := by decide
theorem T_ll : isT "list" "list" = true := by decide
theorem T_lt : isT "list" "tuple" = false := by decide
theorem T_li : isT "list" "int" = false := by decide
theorem T_ss : isT "str" "str" = true := by decide
theorem T_si : isT "str" "int" = false := by decide
theorem T_st : isT "str" "tuple" = false := by decide
theorem T_ni : isT "NoneType" "int" = false := by decide
theorem T_nt : isT "NoneType" "tuple" = false := by decide
theorem N_n : isNon .non = true := rfl
theorem N_i {x : Int} : isNon (.int x) = false := rfl
theorem N_b {x : Bool} : isNon (.bl x) = false := rfl
theorem N_t {x : List D} : isNon (.tup x) = false := rfl
theorem F_i {x : Int} : flatD (.int x) = true := rfl
theorem x_dert {Q : SV → Nat → Prop} {r : SV} {n : Nat} : (defE Q).rt r n = Q r n := rfl
theorem x_denx {Q : SV → Nat → Prop} {G : Gm} : (defE Q).nx G = Q (.dat .non) G.c := rfl
/-! comprehensions -/
section
variable {n0 : Nat} {vs : List Nat} {g : DG} {c : DT} {e : DE} {Qe : List D → Gm → Prop} {d : D} {r acc : List D} {G : Gm}
def brL (_ : Nat) (b : Bool) (vs : List Nat) (g : DG) (c : DT) (e : DE) (Qe : List D → Gm → Prop) (r acc : List D) (G : Gm) : Prop :=
  if b = true then e G fun sv G3 => frz G3 sv fun y G4 => lcL vs g c e Qe r (acc ++ [y]) (wipeG vs G4) else lcL vs g c e Qe r acc (wipeG vs G)
theorem x_brl1 : brL n0 true vs g c e Qe r acc G = e G fun sv G3 => frz G3 sv fun y G4 => lcL vs g c e Qe r (acc ++ [y]) (wipeG vs G4) := by unfold brL; rw [if_pos rfl]
theorem x_brl0 : brL n0 false vs g c e Qe r acc G = lcL vs g c e Qe r acc (wipeG vs G) := by unfold brL; rw [if_neg Bool.false_ne_true]
theorem x_lcn : lcL vs g c e Qe [] acc G = Qe acc G := rfl
theorem x_lcc : lcL vs g c e Qe (d :: r) acc G = g (.dat d) G fun G1 => c G1 fun b G2 => brL (0 + 0) b vs g c e Qe r acc G2 := rfl
theorem x_yes {Qb : Bool → Gm → Prop} : dYes G Qb = Qb true G := rfl
def brK (_ : Nat) (b : Bool) (vs : List Nat) (e : DE) (k : D → Gm → Prop) (k' : Gm → Prop) (G : Gm) : Prop := if b = true then e G fun sv G3 => frz G3 sv fun y G4 => k y (wipeG vs G4) else k' (wipeG vs G)
theorem x_brk1 {k : D → Gm → Prop} {k' : Gm → Prop} : brK n0 true vs e k k' G = e G fun sv G3 => frz G3 sv fun y G4 => k y (wipeG vs G4) := by unfold brK; rw [if_pos rfl]
theorem x_brk0 {k : D → Gm → Prop} {k' : Gm → Prop} : brK n0 false vs e k k' G = k' (wipeG vs G) := by unfold brK; rw [if_neg Bool.false_ne_true]
/-- one turn -/
def lcT (vs : List Nat) (g : DG) (c : DT) (e : DE) (d : D) (G : Gm) (k : D → Gm → Prop) (k' : Gm → Prop) : Prop := g (.dat d) G fun G1 => c G1 fun b G2 => brK (0 + 0) b vs e k k' G2
theorem x_lct {k : D → Gm → Prop} {k' : Gm → Prop} : lcT vs g c e d G k k' = g (.dat d) G fun G1 => c G1 fun b G2 => brK (0 + 0) b vs e k k' G2 := rfl
/-- turn by turn -/
theorem lc_inv (I : List D → List D → Gm → Prop) (step : ∀ (d : D) (r acc : List D) (G : Gm), I (d :: r) acc G → lcT vs g c e d G (fun y G' => I r (acc ++ [y]) G') (fun G' => I r acc G')) (fin : ∀ acc G, I [] acc G → Qe acc G)
    (mono : ∀ (d : D) (G : Gm) (k l : D → Gm → Prop) (k' l' : Gm → Prop), (∀ y G', k y G' → l y G') → (∀ G', k' G' → l' G') → lcT vs g c e d G k k' → lcT vs g c e d G l l') :
    ∀ (ds acc : List D) (G : Gm), I ds acc G → lcL vs g c e Qe ds acc G
  | [], acc, G, h => fin acc G h
  | d :: r, acc, G, h => mono d G _ (fun y G' => lcL vs g c e Qe r (acc ++ [y]) G') _ (fun G' => lcL vs g c e Qe r acc G') (fun y G' => lc_inv I step fin mono r (acc ++ [y]) G') (fun G' => lc_inv I step fin mono r acc G') (step d r acc G h)
/-- each one gives its own, nothing else changes -/
theorem lc_map {f : D → Option D} : ∀ {ds acc : List D}, (∀ d ∈ ds, ∀ (k : D → Gm → Prop) (k' : Gm → Prop), (match f d with | some y => k y G | none => k' G) → lcT vs g c e d G k k') → Qe (acc ++ ds.filterMap f) G → lcL vs g c e Qe ds acc G
  | [], acc, _, q => by rw [List.filterMap_nil, List.append_nil] at q; exact q
  | d :: r, acc, st, q => by
    refine st d List.mem_cons_self (fun y G' => lcL vs g c e Qe r (acc ++ [y]) G') (fun G' => lcL vs g c e Qe r acc G') ?_
    have tl : ∀ x ∈ r, ∀ (k : D → Gm → Prop) (k' : Gm → Prop), (match f x with | some y => k y G | none => k' G) → lcT vs g c e x G k k' := fun x hx => st x (List.mem_cons_of_mem _ hx)
    cases h : f d with
    | none => exact lc_map tl (by rw [List.filterMap_cons, h] at q; exact q)
    | some y => exact lc_map tl (by rw [List.filterMap_cons, h] at q; rw [List.append_assoc]; exact q)
theorem lc_all {f : D → D} {ds : List D} (st : ∀ d ∈ ds, ∀ (k : D → Gm → Prop) (k' : Gm → Prop), k (f d) G → lcT vs g c e d G k k') (q : Qe (ds.map f) G) : lcL vs g c e Qe ds [] G := by
  refine lc_map (f := fun d => some (f d)) (fun d hd k k' h => st d hd k k' h) ?_
  rw [List.nil_append, List.filterMap_eq_map']
  exact q
/-! loops -/
theorem x_fon {g : DG} {t : DS} {E : DEnds} : forL g t E [] G = E.nx G := rfl
theorem x_foc {g : DG} {t : DS} {E : DEnds} : forL g t E (d :: r) G = g (.dat d) G fun G1 => t { E with nx := forL g t E r, ct := forL g t E r, bk := E.nx } G1 := rfl
/-- turn by turn: I what holds with so many still to come -/
theorem for_inv {g : DG} {t : DS} {E : DEnds} (I : List D → Gm → Prop) (fin : ∀ G, I [] G → E.nx G) :
    ∀ (ds : List D) (_ : ∀ (d : D) (r : List D) (G : Gm) (N : Gm → Prop), (d :: r) <:+ ds → I (d :: r) G → (∀ G', I r G' → N G') → g (.dat d) G fun G1 => t { E with nx := N, ct := N, bk := E.nx } G1) (G : Gm), I ds G → forL g t E ds G
  | [], _, G, h => fin G h
  | d :: r, st, G, h => st d r G (forL g t E r) (List.suffix_refl _) h fun G' h' => for_inv I fin r (fun x s G N hs => st x s G N (List.IsSuffix.trans hs (List.suffix_cons _ _))) G' h'
end
/-! bounds -/
theorem log2_lt {n : Nat} {k : Nat} (h : n < 2 ^ k) (hk : 0 < k) : n.log2 < k := by
  by_cases z : n = 0
  · subst z; simpa using hk
  · exact (Nat.log2_lt z).mpr h
theorem cm {x y : Int} (h1 : x.natAbs < 10 ^ 300) (h2 : y.natAbs < 10 ^ 300) : CMulW x y := by
  have a := log2_lt (n := x.natAbs) (k := 1000) (Nat.lt_of_lt_of_le h1 (by decide +kernel)) (by decide)
  have b := log2_lt (n := y.natAbs) (k := 1000) (Nat.lt_of_lt_of_le h2 (by decide +kernel)) (by decide)
  unfold CMulW; omega
theorem lg {x : Int} (h1 : x.natAbs < 10 ^ 300) : x.natAbs.log2 < 9000 :=
  Nat.lt_trans (log2_lt (k := 1000) (Nat.lt_of_lt_of_le h1 (by decide +kernel)) (by decide)) (by decide)
theorem nab {x : Int} {B : Nat} (h1 : -(B : Int) < x) (h2 : x < B) : x.natAbs < B := by omega
theorem sz {α : Type} {l : List α} (h : l.length ≤ 1000) : l.length ≤ sizeLine := Nat.le_trans h (by decide)
theorem szn {n : Nat} (h : n ≤ 1000) : n ≤ sizeLine := Nat.le_trans h (by decide)
theorem szt {n : Nat} (h : n ≤ 1000) : (n ≤ sizeLine) = True := eq_true (szn h)
section
variable {α : Type} {a b c d : α} {r : List α}
theorem A_0 : atI (a :: r) 0 = some a := atI_nat (j := 0) rfl
theorem A_1 : atI (a :: b :: r) 1 = some b := atI_nat (j := 1) rfl
theorem A_2 : atI (a :: b :: c :: r) 2 = some c := atI_nat (j := 2) rfl
theorem A_3 : atI (a :: b :: c :: d :: r) 3 = some d := atI_nat (j := 3) rfl
end
/-! equality of data -/
theorem e_ii {x y : Int} : eqD (.int x) (.int y) = decide (x = y) := by unfold eqD toPy PyData.eqv; rw [Bool.eq_iff_iff]; simp
theorem e_bb {x y : Bool} : eqD (.bl x) (.bl y) = decide (x = y) := by unfold eqD toPy PyData.eqv; rw [Bool.eq_iff_iff]; cases x <;> cases y <;> simp
def eqDs (as bs : List D) : Bool := PyData.eqvAll (toPys as) (toPys bs)
theorem e_tt {as bs : List D} : eqD (.tup as) (.tup bs) = eqDs as bs := by unfold eqD eqDs; rw [toPy, toPy, PyData.eqv]
theorem e_ll {as bs : List D} : eqD (.lst as) (.lst bs) = eqDs as bs := by unfold eqD eqDs; rw [toPy, toPy, PyData.eqv]
theorem e_nn : eqDs [] [] = true := by unfold eqDs; rw [toPys, PyData.eqvAll]
theorem e_cc {a b : D} {as bs : List D} : eqDs (a :: as) (b :: bs) = (eqD a b && eqDs as bs) := by unfold eqDs eqD; rw [toPys, toPys, PyData.eqvAll]
theorem e_tl {as bs : List D} : eqD (.tup as) (.lst bs) = false := by unfold eqD; rw [toPy, toPy, PyData.eqv] <;> simp
theorem e_lt {as bs : List D} : eqD (.lst as) (.tup bs) = false := by unfold eqD; rw [toPy, toPy, PyData.eqv] <;> simp
theorem p_i {n : Nat} {x : Int} : Pl n (.int x) := by cases n <;> trivial
theorem p_b {n : Nat} {x : Bool} : Pl n (.bl x) := by cases n <;> trivial
theorem p_n {n : Nat} : Pl n .non := by cases n <;> trivial
theorem p_t {n : Nat} {ds : List D} (h : ∀ d ∈ ds, Pl n d) : Pl (n + 1) (.tup ds) := h
theorem p_l {n : Nat} {ds : List D} (h : ∀ d ∈ ds, Pl n d) : Pl (n + 1) (.lst ds) := h
theorem q_tt {as bs : List D} {f : Bool → Prop} (h1 : Pl 20 (.tup as)) (h2 : Pl 20 (.tup bs)) : eqQ (.tup as) (.tup bs) f = f (eqDs as bs) := by
  rw [x_eqD (d := .tup as) (e := .tup bs) rfl h1 h2, e_tt]
theorem q_ll {as bs : List D} {f : Bool → Prop} (h1 : Pl 20 (.lst as)) (h2 : Pl 20 (.lst bs)) : eqQ (.lst as) (.lst bs) f = f (eqDs as bs) := by
  rw [x_eqD (d := .lst as) (e := .lst bs) rfl h1 h2, e_ll]
/-- pairs of ints -/
theorem q_pp {a b c d : Int} {f : Bool → Prop} : eqQ (.tup [.int a, .int b]) (.tup [.int c, .int d]) f = f (decide (a = c) && decide (b = d)) := by
  rw [q_tt (p_t (n := 19) (by intro d hd; simp at hd; rcases hd with rfl | rfl <;> exact p_i)) (p_t (n := 19) (by intro d hd; simp at hd; rcases hd with rfl | rfl <;> exact p_i)), e_cc, e_cc, e_nn, e_ii, e_ii, Bool.and_true]
theorem b_all {bs : List D} {ns : List Bool} {q : SV → Prop} (h : bs = ns.map D.bl) : dAll (.lst bs) q = q (.dat (.bl (ns.all fun b => b))) := by
  subst h
  have : blsOf (ns.map D.bl) = some ns := by
    induction ns with
    | nil => rfl
    | cons n ns ih => show (match blsOf (ns.map D.bl) with | some ns => some (n :: ns) | none => none) = _; rw [ih]
  show (match blsOf (ns.map D.bl) with | some ns => _ | none => False) = _
  rw [this]
theorem b_all2 {x y : Bool} {q : SV → Prop} : dAll (.lst [.bl x, .bl y]) q = q (.dat (.bl (x && y))) := (b_all (bs := [.bl x, .bl y]) (ns := [x, y]) rfl).trans (by simp)
theorem b_all3 {x y z : Bool} {q : SV → Prop} : dAll (.lst [.bl x, .bl y, .bl z]) q = q (.dat (.bl (x && (y && z)))) := (b_all (bs := [.bl x, .bl y, .bl z]) (ns := [x, y, z]) rfl).trans (by simp)
section
variable {a b c d e : D} {q : SV → Prop}
theorem L_t1 : dLen (.tup [a]) q = q (.dat (.int 1)) := rfl
theorem L_t2 : dLen (.tup [a, b]) q = q (.dat (.int 2)) := rfl
theorem L_t3 : dLen (.tup [a, b, c]) q = q (.dat (.int 3)) := rfl
theorem L_l0 : dLen (.lst []) q = q (.dat (.int 0)) := rfl
theorem L_l1 : dLen (.lst [a]) q = q (.dat (.int 1)) := rfl
theorem L_l2 : dLen (.lst [a, b]) q = q (.dat (.int 2)) := rfl
theorem L_l3 : dLen (.lst [a, b, c]) q = q (.dat (.int 3)) := rfl
end
theorem v0 {c : Nat} {r : List (Option SC)} {d : D} {Q : SV → Gm → Prop} : dVar 0 ⟨some (.dat d) :: r, c⟩ Q = Q (.dat d) ⟨some (.dat d) :: r, c⟩ := rfl
theorem w0 {c : Nat} {r : List (Option SC)} {d : D} {Q : SV → Gm → Prop} : dVar 0 ⟨some (.own d) :: r, c⟩ Q = Q (.bor 0) ⟨some (.own d) :: r, c⟩ := rfl
theorem n0 {c : Nat} {r : List (Option SC)} {d : D} {o : Option SC} {Q : Gm → Prop} : dgName 0 (.dat d) ⟨o :: r, c⟩ Q = Q ⟨some (.dat d) :: r, c⟩ := rfl
theorem m0 {c : Nat} {r : List (Option SC)} {d : D} {o : Option SC} {Q : Gm → Prop} : dgName 0 (.new d) ⟨o :: r, c⟩ Q = Q ⟨some (.own d) :: r, c⟩ := rfl
theorem sb0 {c : Nat} {r : List (Option SC)} {d : D} {f : D → Prop} : see ⟨some (.own d) :: r, c⟩ (.bor 0) f = f d := rfl
theorem fb0 {c : Nat} {r : List (Option SC)} {d : D} {f : D → Gm → Prop} : frz ⟨some (.own d) :: r, c⟩ (.bor 0) f = f d ⟨some (.dat d) :: r, c⟩ := rfl
theorem rb0 {c : Nat} {r : List (Option SC)} {d : D} {f : SV → Prop} : rtS ⟨some (.own d) :: r, c⟩ (.bor 0) f = f (.new d) := rfl
theorem v1 {c : Nat} {r : List (Option SC)} {d : D} {o0 : Option SC} {Q : SV → Gm → Prop} : dVar 1 ⟨o0 :: some (.dat d) :: r, c⟩ Q = Q (.dat d) ⟨o0 :: some (.dat d) :: r, c⟩ := rfl
theorem w1 {c : Nat} {r : List (Option SC)} {d : D} {o0 : Option SC} {Q : SV → Gm → Prop} : dVar 1 ⟨o0 :: some (.own d) :: r, c⟩ Q = Q (.bor 1) ⟨o0 :: some (.own d) :: r, c⟩ := rfl
theorem n1 {c : Nat} {r : List (Option SC)} {d : D} {o : Option SC} {o0 : Option SC} {Q : Gm → Prop} : dgName 1 (.dat d) ⟨o0 :: o :: r, c⟩ Q = Q ⟨o0 :: some (.dat d) :: r, c⟩ := rfl
theorem m1 {c : Nat} {r : List (Option SC)} {d : D} {o : Option SC} {o0 : Option SC} {Q : Gm → Prop} : dgName 1 (.new d) ⟨o0 :: o :: r, c⟩ Q = Q ⟨o0 :: some (.own d) :: r, c⟩ := rfl
theorem sb1 {c : Nat} {r : List (Option SC)} {d : D} {o0 : Option SC} {f : D → Prop} : see ⟨o0 :: some (.own d) :: r, c⟩ (.bor 1) f = f d := rfl
theorem fb1 {c : Nat} {r : List (Option SC)} {d : D} {o0 : Option SC} {f : D → Gm → Prop} : frz ⟨o0 :: some (.own d) :: r, c⟩ (.bor 1) f = f d ⟨o0 :: some (.dat d) :: r, c⟩ := rfl
theorem rb1 {c : Nat} {r : List (Option SC)} {d : D} {o0 : Option SC} {f : SV → Prop} : rtS ⟨o0 :: some (.own d) :: r, c⟩ (.bor 1) f = f (.new d) := rfl
theorem v2 {c : Nat} {r : List (Option SC)} {d : D} {o0 o1 : Option SC} {Q : SV → Gm → Prop} : dVar 2 ⟨o0 :: o1 :: some (.dat d) :: r, c⟩ Q = Q (.dat d) ⟨o0 :: o1 :: some (.dat d) :: r, c⟩ := rfl
theorem w2 {c : Nat} {r : List (Option SC)} {d : D} {o0 o1 : Option SC} {Q : SV → Gm → Prop} : dVar 2 ⟨o0 :: o1 :: some (.own d) :: r, c⟩ Q = Q (.bor 2) ⟨o0 :: o1 :: some (.own d) :: r, c⟩ := rfl
theorem n2 {c : Nat} {r : List (Option SC)} {d : D} {o : Option SC} {o0 o1 : Option SC} {Q : Gm → Prop} : dgName 2 (.dat d) ⟨o0 :: o1 :: o :: r, c⟩ Q = Q ⟨o0 :: o1 :: some (.dat d) :: r, c⟩ := rfl
theorem m2 {c : Nat} {r : List (Option SC)} {d : D} {o : Option SC} {o0 o1 : Option SC} {Q : Gm → Prop} : dgName 2 (.new d) ⟨o0 :: o1 :: o :: r, c⟩ Q = Q ⟨o0 :: o1 :: some (.own d) :: r, c⟩ := rfl
theorem sb2 {c : Nat} {r : List (Option SC)} {d : D} {o0 o1 : Option SC} {f : D → Prop} : see ⟨o0 :: o1 :: some (.own d) :: r, c⟩ (.bor 2) f = f d := rfl
theorem fb2 {c : Nat} {r : List (Option SC)} {d : D} {o0 o1 : Option SC} {f : D → Gm → Prop} : frz ⟨o0 :: o1 :: some (.own d) :: r, c⟩ (.bor 2) f = f d ⟨o0 :: o1 :: some (.dat d) :: r, c⟩ := rfl
theorem rb2 {c : Nat} {r : List (Option SC)} {d : D} {o0 o1 : Option SC} {f : SV → Prop} : rtS ⟨o0 :: o1 :: some (.own d) :: r, c⟩ (.bor 2) f = f (.new d) := rfl
theorem v3 {c : Nat} {r : List (Option SC)} {d : D} {o0 o1 o2 : Option SC} {Q : SV → Gm → Prop} : dVar 3 ⟨o0 :: o1 :: o2 :: some (.dat d) :: r, c⟩ Q = Q (.dat d) ⟨o0 :: o1 :: o2 :: some (.dat d) :: r, c⟩ := rfl
theorem w3 {c : Nat} {r : List (Option SC)} {d : D} {o0 o1 o2 : Option SC} {Q : SV → Gm → Prop} : dVar 3 ⟨o0 :: o1 :: o2 :: some (.own d) :: r, c⟩ Q = Q (.bor 3) ⟨o0 :: o1 :: o2 :: some (.own d) :: r, c⟩ := rfl
theorem n3 {c : Nat} {r : List (Option SC)} {d : D} {o : Option SC} {o0 o1 o2 : Option SC} {Q : Gm → Prop} : dgName 3 (.dat d) ⟨o0 :: o1 :: o2 :: o :: r, c⟩ Q = Q ⟨o0 :: o1 :: o2 :: some (.dat d) :: r, c⟩ := rfl
theorem m3 {c : Nat} {r : List (Option SC)} {d : D} {o : Option SC} {o0 o1 o2 : Option SC} {Q : Gm → Prop} : dgName 3 (.new d) ⟨o0 :: o1 :: o2 :: o :: r, c⟩ Q = Q ⟨o0 :: o1 :: o2 :: some (.own d) :: r, c⟩ := rfl
theorem sb3 {c : Nat} {r : List (Option SC)} {d : D} {o0 o1 o2 : Option SC} {f : D → Prop} : see ⟨o0 :: o1 :: o2 :: some (.own d) :: r, c⟩ (.bor 3) f = f d := rfl
theorem fb3 {c : Nat} {r : List (Option SC)} {d : D} {o0 o1 o2 : Option SC} {f : D → Gm → Prop} : frz ⟨o0 :: o1 :: o2 :: some (.own d) :: r, c⟩ (.bor 3) f = f d ⟨o0 :: o1 :: o2 :: some (.dat d) :: r, c⟩ := rfl
theorem rb3 {c : Nat} {r : List (Option SC)} {d : D} {o0 o1 o2 : Option SC} {f : SV → Prop} : rtS ⟨o0 :: o1 :: o2 :: some (.own d) :: r, c⟩ (.bor 3) f = f (.new d) := rfl
theorem v4 {c : Nat} {r : List (Option SC)} {d : D} {o0 o1 o2 o3 : Option SC} {Q : SV → Gm → Prop} : dVar 4 ⟨o0 :: o1 :: o2 :: o3 :: some (.dat d) :: r, c⟩ Q = Q (.dat d) ⟨o0 :: o1 :: o2 :: o3 :: some (.dat d) :: r, c⟩ := rfl
theorem w4 {c : Nat} {r : List (Option SC)} {d : D} {o0 o1 o2 o3 : Option SC} {Q : SV → Gm → Prop} : dVar 4 ⟨o0 :: o1 :: o2 :: o3 :: some (.own d) :: r, c⟩ Q = Q (.bor 4) ⟨o0 :: o1 :: o2 :: o3 :: some (.own d) :: r, c⟩ := rfl
theorem n4 {c : Nat} {r : List (Option SC)} {d : D} {o : Option SC} {o0 o1 o2 o3 : Option SC} {Q : Gm → Prop} : dgName 4 (.dat d) ⟨o0 :: o1 :: o2 :: o3 :: o :: r, c⟩ Q = Q ⟨o0 :: o1 :: o2 :: o3 :: some (.dat d) :: r, c⟩ := rfl
theorem m4 {c : Nat} {r : List (Option SC)} {d : D} {o : Option SC} {o0 o1 o2 o3 : Option SC} {Q : Gm → Prop} : dgName 4 (.new d) ⟨o0 :: o1 :: o2 :: o3 :: o :: r, c⟩ Q = Q ⟨o0 :: o1 :: o2 :: o3 :: some (.own d) :: r, c⟩ := rfl
theorem sb4 {c : Nat} {r : List (Option SC)} {d : D} {o0 o1 o2 o3 : Option SC} {f : D → Prop} : see ⟨o0 :: o1 :: o2 :: o3 :: some (.own d) :: r, c⟩ (.bor 4) f = f d := rfl
theorem fb4 {c : Nat} {r : List (Option SC)} {d : D} {o0 o1 o2 o3 : Option SC} {f : D → Gm → Prop} : frz ⟨o0 :: o1 :: o2 :: o3 :: some (.own d) :: r, c⟩ (.bor 4) f = f d ⟨o0 :: o1 :: o2 :: o3 :: some (.dat d) :: r, c⟩ := rfl
theorem rb4 {c : Nat} {r : List (Option SC)} {d : D} {o0 o1 o2 o3 : Option SC} {f : SV → Prop} : rtS ⟨o0 :: o1 :: o2 :: o3 :: some (.own d) :: r, c⟩ (.bor 4) f = f (.new d) := rfl
theorem v5 {c : Nat} {r : List (Option SC)} {d : D} {o0 o1 o2 o3 o4 : Option SC} {Q : SV → Gm → Prop} : dVar 5 ⟨o0 :: o1 :: o2 :: o3 :: o4 :: some (.dat d) :: r, c⟩ Q = Q (.dat d) ⟨o0 :: o1 :: o2 :: o3 :: o4 :: some (.dat d) :: r, c⟩ := rfl
theorem w5 {c : Nat} {r : List (Option SC)} {d : D} {o0 o1 o2 o3 o4 : Option SC} {Q : SV → Gm → Prop} : dVar 5 ⟨o0 :: o1 :: o2 :: o3 :: o4 :: some (.own d) :: r, c⟩ Q = Q (.bor 5) ⟨o0 :: o1 :: o2 :: o3 :: o4 :: some (.own d) :: r, c⟩ := rfl
theorem n5 {c : Nat} {r : List (Option SC)} {d : D} {o : Option SC} {o0 o1 o2 o3 o4 : Option SC} {Q : Gm → Prop} : dgName 5 (.dat d) ⟨o0 :: o1 :: o2 :: o3 :: o4 :: o :: r, c⟩ Q = Q ⟨o0 :: o1 :: o2 :: o3 :: o4 :: some (.dat d) :: r, c⟩ := rfl
theorem m5 {c : Nat} {r : List (Option SC)} {d : D} {o : Option SC} {o0 o1 o2 o3 o4 : Option SC} {Q : Gm → Prop} : dgName 5 (.new d) ⟨o0 :: o1 :: o2 :: o3 :: o4 :: o :: r, c⟩ Q = Q ⟨o0 :: o1 :: o2 :: o3 :: o4 :: some (.own d) :: r, c⟩ := rfl
theorem sb5 {c : Nat} {r : List (Option SC)} {d : D} {o0 o1 o2 o3 o4 : Option SC} {f : D → Prop} : see ⟨o0 :: o1 :: o2 :: o3 :: o4 :: some (.own d) :: r, c⟩ (.bor 5) f = f d := rfl
theorem fb5 {c : Nat} {r : List (Option SC)} {d : D} {o0 o1 o2 o3 o4 : Option SC} {f : D → Gm → Prop} : frz ⟨o0 :: o1 :: o2 :: o3 :: o4 :: some (.own d) :: r, c⟩ (.bor 5) f = f d ⟨o0 :: o1 :: o2 :: o3 :: o4 :: some (.dat d) :: r, c⟩ := rfl
theorem rb5 {c : Nat} {r : List (Option SC)} {d : D} {o0 o1 o2 o3 o4 : Option SC} {f : SV → Prop} : rtS ⟨o0 :: o1 :: o2 :: o3 :: o4 :: some (.own d) :: r, c⟩ (.bor 5) f = f (.new d) := rfl
theorem v6 {c : Nat} {r : List (Option SC)} {d : D} {o0 o1 o2 o3 o4 o5 : Option SC} {Q : SV → Gm → Prop} : dVar 6 ⟨o0 :: o1 :: o2 :: o3 :: o4 :: o5 :: some (.dat d) :: r, c⟩ Q = Q (.dat d) ⟨o0 :: o1 :: o2 :: o3 :: o4 :: o5 :: some (.dat d) :: r, c⟩ := rfl
theorem w6 {c : Nat} {r : List (Option SC)} {d : D} {o0 o1 o2 o3 o4 o5 : Option SC} {Q : SV → Gm → Prop} : dVar 6 ⟨o0 :: o1 :: o2 :: o3 :: o4 :: o5 :: some (.own d) :: r, c⟩ Q = Q (.bor 6) ⟨o0 :: o1 :: o2 :: o3 :: o4 :: o5 :: some (.own d) :: r, c⟩ := rfl
theorem n6 {c : Nat} {r : List (Option SC)} {d : D} {o : Option SC} {o0 o1 o2 o3 o4 o5 : Option SC} {Q : Gm → Prop} : dgName 6 (.dat d) ⟨o0 :: o1 :: o2 :: o3 :: o4 :: o5 :: o :: r, c⟩ Q = Q ⟨o0 :: o1 :: o2 :: o3 :: o4 :: o5 :: some (.dat d) :: r, c⟩ := rfl
theorem m6 {c : Nat} {r : List (Option SC)} {d : D} {o : Option SC} {o0 o1 o2 o3 o4 o5 : Option SC} {Q : Gm → Prop} : dgName 6 (.new d) ⟨o0 :: o1 :: o2 :: o3 :: o4 :: o5 :: o :: r, c⟩ Q = Q ⟨o0 :: o1 :: o2 :: o3 :: o4 :: o5 :: some (.own d) :: r, c⟩ := rfl
theorem sb6 {c : Nat} {r : List (Option SC)} {d : D} {o0 o1 o2 o3 o4 o5 : Option SC} {f : D → Prop} : see ⟨o0 :: o1 :: o2 :: o3 :: o4 :: o5 :: some (.own d) :: r, c⟩ (.bor 6) f = f d := rfl
theorem fb6 {c : Nat} {r : List (Option SC)} {d : D} {o0 o1 o2 o3 o4 o5 : Option SC} {f : D → Gm → Prop} : frz ⟨o0 :: o1 :: o2 :: o3 :: o4 :: o5 :: some (.own d) :: r, c⟩ (.bor 6) f = f d ⟨o0 :: o1 :: o2 :: o3 :: o4 :: o5 :: some (.dat d) :: r, c⟩ := rfl
theorem rb6 {c : Nat} {r : List (Option SC)} {d : D} {o0 o1 o2 o3 o4 o5 : Option SC} {f : SV → Prop} : rtS ⟨o0 :: o1 :: o2 :: o3 :: o4 :: o5 :: some (.own d) :: r, c⟩ (.bor 6) f = f (.new d) := rfl
theorem v7 {c : Nat} {r : List (Option SC)} {d : D} {o0 o1 o2 o3 o4 o5 o6 : Option SC} {Q : SV → Gm → Prop} : dVar 7 ⟨o0 :: o1 :: o2 :: o3 :: o4 :: o5 :: o6 :: some (.dat d) :: r, c⟩ Q = Q (.dat d) ⟨o0 :: o1 :: o2 :: o3 :: o4 :: o5 :: o6 :: some (.dat d) :: r, c⟩ := rfl
theorem w7 {c : Nat} {r : List (Option SC)} {d : D} {o0 o1 o2 o3 o4 o5 o6 : Option SC} {Q : SV → Gm → Prop} : dVar 7 ⟨o0 :: o1 :: o2 :: o3 :: o4 :: o5 :: o6 :: some (.own d) :: r, c⟩ Q = Q (.bor 7) ⟨o0 :: o1 :: o2 :: o3 :: o4 :: o5 :: o6 :: some (.own d) :: r, c⟩ := rfl
theorem n7 {c : Nat} {r : List (Option SC)} {d : D} {o : Option SC} {o0 o1 o2 o3 o4 o5 o6 : Option SC} {Q : Gm → Prop} : dgName 7 (.dat d) ⟨o0 :: o1 :: o2 :: o3 :: o4 :: o5 :: o6 :: o :: r, c⟩ Q = Q ⟨o0 :: o1 :: o2 :: o3 :: o4 :: o5 :: o6 :: some (.dat d) :: r, c⟩ := rfl
theorem m7 {c : Nat} {r : List (Option SC)} {d : D} {o : Option SC} {o0 o1 o2 o3 o4 o5 o6 : Option SC} {Q : Gm → Prop} : dgName 7 (.new d) ⟨o0 :: o1 :: o2 :: o3 :: o4 :: o5 :: o6 :: o :: r, c⟩ Q = Q ⟨o0 :: o1 :: o2 :: o3 :: o4 :: o5 :: o6 :: some (.own d) :: r, c⟩ := rfl
theorem sb7 {c : Nat} {r : List (Option SC)} {d : D} {o0 o1 o2 o3 o4 o5 o6 : Option SC} {f : D → Prop} : see ⟨o0 :: o1 :: o2 :: o3 :: o4 :: o5 :: o6 :: some (.own d) :: r, c⟩ (.bor 7) f = f d := rfl
theorem fb7 {c : Nat} {r : List (Option SC)} {d : D} {o0 o1 o2 o3 o4 o5 o6 : Option SC} {f : D → Gm → Prop} : frz ⟨o0 :: o1 :: o2 :: o3 :: o4 :: o5 :: o6 :: some (.own d) :: r, c⟩ (.bor 7) f = f d ⟨o0 :: o1 :: o2 :: o3 :: o4 :: o5 :: o6 :: some (.dat d) :: r, c⟩ := rfl
theorem rb7 {c : Nat} {r : List (Option SC)} {d : D} {o0 o1 o2 o3 o4 o5 o6 : Option SC} {f : SV → Prop} : rtS ⟨o0 :: o1 :: o2 :: o3 :: o4 :: o5 :: o6 :: some (.own d) :: r, c⟩ (.bor 7) f = f (.new d) := rfl
theorem v8 {c : Nat} {r : List (Option SC)} {d : D} {o0 o1 o2 o3 o4 o5 o6 o7 : Option SC} {Q : SV → Gm → Prop} : dVar 8 ⟨o0 :: o1 :: o2 :: o3 :: o4 :: o5 :: o6 :: o7 :: some (.dat d) :: r, c⟩ Q = Q (.dat d) ⟨o0 :: o1 :: o2 :: o3 :: o4 :: o5 :: o6 :: o7 :: some (.dat d) :: r, c⟩ := rfl
theorem w8 {c : Nat} {r : List (Option SC)} {d : D} {o0 o1 o2 o3 o4 o5 o6 o7 : Option SC} {Q : SV → Gm → Prop} : dVar 8 ⟨o0 :: o1 :: o2 :: o3 :: o4 :: o5 :: o6 :: o7 :: some (.own d) :: r, c⟩ Q = Q (.bor 8) ⟨o0 :: o1 :: o2 :: o3 :: o4 :: o5 :: o6 :: o7 :: some (.own d) :: r, c⟩ := rfl
theorem n8 {c : Nat} {r : List (Option SC)} {d : D} {o : Option SC} {o0 o1 o2 o3 o4 o5 o6 o7 : Option SC} {Q : Gm → Prop} : dgName 8 (.dat d) ⟨o0 :: o1 :: o2 :: o3 :: o4 :: o5 :: o6 :: o7 :: o :: r, c⟩ Q = Q ⟨o0 :: o1 :: o2 :: o3 :: o4 :: o5 :: o6 :: o7 :: some (.dat d) :: r, c⟩ := rfl
theorem m8 {c : Nat} {r : List (Option SC)} {d : D} {o : Option SC} {o0 o1 o2 o3 o4 o5 o6 o7 : Option SC} {Q : Gm → Prop} : dgName 8 (.new d) ⟨o0 :: o1 :: o2 :: o3 :: o4 :: o5 :: o6 :: o7 :: o :: r, c⟩ Q = Q ⟨o0 :: o1 :: o2 :: o3 :: o4 :: o5 :: o6 :: o7 :: some (.own d) :: r, c⟩ := rfl
theorem sb8 {c : Nat} {r : List (Option SC)} {d : D} {o0 o1 o2 o3 o4 o5 o6 o7 : Option SC} {f : D → Prop} : see ⟨o0 :: o1 :: o2 :: o3 :: o4 :: o5 :: o6 :: o7 :: some (.own d) :: r, c⟩ (.bor 8) f = f d := rfl
theorem fb8 {c : Nat} {r : List (Option SC)} {d : D} {o0 o1 o2 o3 o4 o5 o6 o7 : Option SC} {f : D → Gm → Prop} : frz ⟨o0 :: o1 :: o2 :: o3 :: o4 :: o5 :: o6 :: o7 :: some (.own d) :: r, c⟩ (.bor 8) f = f d ⟨o0 :: o1 :: o2 :: o3 :: o4 :: o5 :: o6 :: o7 :: some (.dat d) :: r, c⟩ := rfl
theorem rb8 {c : Nat} {r : List (Option SC)} {d : D} {o0 o1 o2 o3 o4 o5 o6 o7 : Option SC} {f : SV → Prop} : rtS ⟨o0 :: o1 :: o2 :: o3 :: o4 :: o5 :: o6 :: o7 :: some (.own d) :: r, c⟩ (.bor 8) f = f (.new d) := rfl
theorem v9 {c : Nat} {r : List (Option SC)} {d : D} {o0 o1 o2 o3 o4 o5 o6 o7 o8 : Option SC} {Q : SV → Gm → Prop} : dVar 9 ⟨o0 :: o1 :: o2 :: o3 :: o4 :: o5 :: o6 :: o7 :: o8 :: some (.dat d) :: r, c⟩ Q = Q (.dat d) ⟨o0 :: o1 :: o2 :: o3 :: o4 :: o5 :: o6 :: o7 :: o8 :: some (.dat d) :: r, c⟩ := rfl
theorem w9 {c : Nat} {r : List (Option SC)} {d : D} {o0 o1 o2 o3 o4 o5 o6 o7 o8 : Option SC} {Q : SV → Gm → Prop} : dVar 9 ⟨o0 :: o1 :: o2 :: o3 :: o4 :: o5 :: o6 :: o7 :: o8 :: some (.own d) :: r, c⟩ Q = Q (.bor 9) ⟨o0 :: o1 :: o2 :: o3 :: o4 :: o5 :: o6 :: o7 :: o8 :: some (.own d) :: r, c⟩ := rfl
theorem n9 {c : Nat} {r : List (Option SC)} {d : D} {o : Option SC} {o0 o1 o2 o3 o4 o5 o6 o7 o8 : Option SC} {Q : Gm → Prop} : dgName 9 (.dat d) ⟨o0 :: o1 :: o2 :: o3 :: o4 :: o5 :: o6 :: o7 :: o8 :: o :: r, c⟩ Q = Q ⟨o0 :: o1 :: o2 :: o3 :: o4 :: o5 :: o6 :: o7 :: o8 :: some (.dat d) :: r, c⟩ := rfl
theorem m9 {c : Nat} {r : List (Option SC)} {d : D} {o : Option SC} {o0 o1 o2 o3 o4 o5 o6 o7 o8 : Option SC} {Q : Gm → Prop} : dgName 9 (.new d) ⟨o0 :: o1 :: o2 :: o3 :: o4 :: o5 :: o6 :: o7 :: o8 :: o :: r, c⟩ Q = Q ⟨o0 :: o1 :: o2 :: o3 :: o4 :: o5 :: o6 :: o7 :: o8 :: some (.own d) :: r, c⟩ := rfl
theorem sb9 {c : Nat} {r : List (Option SC)} {d : D} {o0 o1 o2 o3 o4 o5 o6 o7 o8 : Option SC} {f : D → Prop} : see ⟨o0 :: o1 :: o2 :: o3 :: o4 :: o5 :: o6 :: o7 :: o8 :: some (.own d) :: r, c⟩ (.bor 9) f = f d := rfl
theorem fb9 {c : Nat} {r : List (Option SC)} {d : D} {o0 o1 o2 o3 o4 o5 o6 o7 o8 : Option SC} {f : D → Gm → Prop} : frz ⟨o0 :: o1 :: o2 :: o3 :: o4 :: o5 :: o6 :: o7 :: o8 :: some (.own d) :: r, c⟩ (.bor 9) f = f d ⟨o0 :: o1 :: o2 :: o3 :: o4 :: o5 :: o6 :: o7 :: o8 :: some (.dat d) :: r, c⟩ := rfl
theorem rb9 {c : Nat} {r : List (Option SC)} {d : D} {o0 o1 o2 o3 o4 o5 o6 o7 o8 : Option SC} {f : SV → Prop} : rtS ⟨o0 :: o1 :: o2 :: o3 :: o4 :: o5 :: o6 :: o7 :: o8 :: some (.own d) :: r, c⟩ (.bor 9) f = f (.new d) := rfl
theorem v10 {c : Nat} {r : List (Option SC)} {d : D} {o0 o1 o2 o3 o4 o5 o6 o7 o8 o9 : Option SC} {Q : SV → Gm → Prop} : dVar 10 ⟨o0 :: o1 :: o2 :: o3 :: o4 :: o5 :: o6 :: o7 :: o8 :: o9 :: some (.dat d) :: r, c⟩ Q = Q (.dat d) ⟨o0 :: o1 :: o2 :: o3 :: o4 :: o5 :: o6 :: o7 :: o8 :: o9 :: some (.dat d) :: r, c⟩ := rfl
theorem w10 {c : Nat} {r : List (Option SC)} {d : D} {o0 o1 o2 o3 o4 o5 o6 o7 o8 o9 : Option SC} {Q : SV → Gm → Prop} : dVar 10 ⟨o0 :: o1 :: o2 :: o3 :: o4 :: o5 :: o6 :: o7 :: o8 :: o9 :: some (.own d) :: r, c⟩ Q = Q (.bor 10) ⟨o0 :: o1 :: o2 :: o3 :: o4 :: o5 :: o6 :: o7 :: o8 :: o9 :: some (.own d) :: r, c⟩ := rfl
theorem n10 {c : Nat} {r : List (Option SC)} {d : D} {o : Option SC} {o0 o1 o2 o3 o4 o5 o6 o7 o8 o9 : Option SC} {Q : Gm → Prop} : dgName 10 (.dat d) ⟨o0 :: o1 :: o2 :: o3 :: o4 :: o5 :: o6 :: o7 :: o8 :: o9 :: o :: r, c⟩ Q = Q ⟨o0 :: o1 :: o2 :: o3 :: o4 :: o5 :: o6 :: o7 :: o8 :: o9 :: some (.dat d) :: r, c⟩ := rfl
theorem m10 {c : Nat} {r : List (Option SC)} {d : D} {o : Option SC} {o0 o1 o2 o3 o4 o5 o6 o7 o8 o9 : Option SC} {Q : Gm → Prop} : dgName 10 (.new d) ⟨o0 :: o1 :: o2 :: o3 :: o4 :: o5 :: o6 :: o7 :: o8 :: o9 :: o :: r, c⟩ Q = Q ⟨o0 :: o1 :: o2 :: o3 :: o4 :: o5 :: o6 :: o7 :: o8 :: o9 :: some (.own d) :: r, c⟩ := rfl
theorem sb10 {c : Nat} {r : List (Option SC)} {d : D} {o0 o1 o2 o3 o4 o5 o6 o7 o8 o9 : Option SC} {f : D → Prop} : see ⟨o0 :: o1 :: o2 :: o3 :: o4 :: o5 :: o6 :: o7 :: o8 :: o9 :: some (.own d) :: r, c⟩ (.bor 10) f = f d := rfl
theorem fb10 {c : Nat} {r : List (Option SC)} {d : D} {o0 o1 o2 o3 o4 o5 o6 o7 o8 o9 : Option SC} {f : D → Gm → Prop} : frz ⟨o0 :: o1 :: o2 :: o3 :: o4 :: o5 :: o6 :: o7 :: o8 :: o9 :: some (.own d) :: r, c⟩ (.bor 10) f = f d ⟨o0 :: o1 :: o2 :: o3 :: o4 :: o5 :: o6 :: o7 :: o8 :: o9 :: some (.dat d) :: r, c⟩ := rfl
theorem rb10 {c : Nat} {r : List (Option SC)} {d : D} {o0 o1 o2 o3 o4 o5 o6 o7 o8 o9 : Option SC} {f : SV → Prop} : rtS ⟨o0 :: o1 :: o2 :: o3 :: o4 :: o5 :: o6 :: o7 :: o8 :: o9 :: some (.own d) :: r, c⟩ (.bor 10) f = f (.new d) := rfl
theorem v11 {c : Nat} {r : List (Option SC)} {d : D} {o0 o1 o2 o3 o4 o5 o6 o7 o8 o9 o10 : Option SC} {Q : SV → Gm → Prop} : dVar 11 ⟨o0 :: o1 :: o2 :: o3 :: o4 :: o5 :: o6 :: o7 :: o8 :: o9 :: o10 :: some (.dat d) :: r, c⟩ Q = Q (.dat d) ⟨o0 :: o1 :: o2 :: o3 :: o4 :: o5 :: o6 :: o7 :: o8 :: o9 :: o10 :: some (.dat d) :: r, c⟩ := rfl
theorem w11 {c : Nat} {r : List (Option SC)} {d : D} {o0 o1 o2 o3 o4 o5 o6 o7 o8 o9 o10 : Option SC} {Q : SV → Gm → Prop} : dVar 11 ⟨o0 :: o1 :: o2 :: o3 :: o4 :: o5 :: o6 :: o7 :: o8 :: o9 :: o10 :: some (.own d) :: r, c⟩ Q = Q (.bor 11) ⟨o0 :: o1 :: o2 :: o3 :: o4 :: o5 :: o6 :: o7 :: o8 :: o9 :: o10 :: some (.own d) :: r, c⟩ := rfl
theorem n11 {c : Nat} {r : List (Option SC)} {d : D} {o : Option SC} {o0 o1 o2 o3 o4 o5 o6 o7 o8 o9 o10 : Option SC} {Q : Gm → Prop} : dgName 11 (.dat d) ⟨o0 :: o1 :: o2 :: o3 :: o4 :: o5 :: o6 :: o7 :: o8 :: o9 :: o10 :: o :: r, c⟩ Q = Q ⟨o0 :: o1 :: o2 :: o3 :: o4 :: o5 :: o6 :: o7 :: o8 :: o9 :: o10 :: some (.dat d) :: r, c⟩ := rfl
theorem m11 {c : Nat} {r : List (Option SC)} {d : D} {o : Option SC} {o0 o1 o2 o3 o4 o5 o6 o7 o8 o9 o10 : Option SC} {Q : Gm → Prop} : dgName 11 (.new d) ⟨o0 :: o1 :: o2 :: o3 :: o4 :: o5 :: o6 :: o7 :: o8 :: o9 :: o10 :: o :: r, c⟩ Q = Q ⟨o0 :: o1 :: o2 :: o3 :: o4 :: o5 :: o6 :: o7 :: o8 :: o9 :: o10 :: some (.own d) :: r, c⟩ := rfl
theorem sb11 {c : Nat} {r : List (Option SC)} {d : D} {o0 o1 o2 o3 o4 o5 o6 o7 o8 o9 o10 : Option SC} {f : D → Prop} : see ⟨o0 :: o1 :: o2 :: o3 :: o4 :: o5 :: o6 :: o7 :: o8 :: o9 :: o10 :: some (.own d) :: r, c⟩ (.bor 11) f = f d := rfl
theorem fb11 {c : Nat} {r : List (Option SC)} {d : D} {o0 o1 o2 o3 o4 o5 o6 o7 o8 o9 o10 : Option SC} {f : D → Gm → Prop} : frz ⟨o0 :: o1 :: o2 :: o3 :: o4 :: o5 :: o6 :: o7 :: o8 :: o9 :: o10 :: some (.own d) :: r, c⟩ (.bor 11) f = f d ⟨o0 :: o1 :: o2 :: o3 :: o4 :: o5 :: o6 :: o7 :: o8 :: o9 :: o10 :: some (.dat d) :: r, c⟩ := rfl
theorem rb11 {c : Nat} {r : List (Option SC)} {d : D} {o0 o1 o2 o3 o4 o5 o6 o7 o8 o9 o10 : Option SC} {f : SV → Prop} : rtS ⟨o0 :: o1 :: o2 :: o3 :: o4 :: o5 :: o6 :: o7 :: o8 :: o9 :: o10 :: some (.own d) :: r, c⟩ (.bor 11) f = f (.new d) := rfl
theorem v12 {c : Nat} {r : List (Option SC)} {d : D} {o0 o1 o2 o3 o4 o5 o6 o7 o8 o9 o10 o11 : Option SC} {Q : SV → Gm → Prop} : dVar 12 ⟨o0 :: o1 :: o2 :: o3 :: o4 :: o5 :: o6 :: o7 :: o8 :: o9 :: o10 :: o11 :: some (.dat d) :: r, c⟩ Q = Q (.dat d) ⟨o0 :: o1 :: o2 :: o3 :: o4 :: o5 :: o6 :: o7 :: o8 :: o9 :: o10 :: o11 :: some (.dat d) :: r, c⟩ := rfl
theorem w12 {c : Nat} {r : List (Option SC)} {d : D} {o0 o1 o2 o3 o4 o5 o6 o7 o8 o9 o10 o11 : Option SC} {Q : SV → Gm → Prop} : dVar 12 ⟨o0 :: o1 :: o2 :: o3 :: o4 :: o5 :: o6 :: o7 :: o8 :: o9 :: o10 :: o11 :: some (.own d) :: r, c⟩ Q = Q (.bor 12) ⟨o0 :: o1 :: o2 :: o3 :: o4 :: o5 :: o6 :: o7 :: o8 :: o9 :: o10 :: o11 :: some (.own d) :: r, c⟩ := rfl
theorem n12 {c : Nat} {r : List (Option SC)} {d : D} {o : Option SC} {o0 o1 o2 o3 o4 o5 o6 o7 o8 o9 o10 o11 : Option SC} {Q : Gm → Prop} : dgName 12 (.dat d) ⟨o0 :: o1 :: o2 :: o3 :: o4 :: o5 :: o6 :: o7 :: o8 :: o9 :: o10 :: o11 :: o :: r, c⟩ Q = Q ⟨o0 :: o1 :: o2 :: o3 :: o4 :: o5 :: o6 :: o7 :: o8 :: o9 :: o10 :: o11 :: some (.dat d) :: r, c⟩ := rfl
theorem m12 {c : Nat} {r : List (Option SC)} {d : D} {o : Option SC} {o0 o1 o2 o3 o4 o5 o6 o7 o8 o9 o10 o11 : Option SC} {Q : Gm → Prop} : dgName 12 (.new d) ⟨o0 :: o1 :: o2 :: o3 :: o4 :: o5 :: o6 :: o7 :: o8 :: o9 :: o10 :: o11 :: o :: r, c⟩ Q = Q ⟨o0 :: o1 :: o2 :: o3 :: o4 :: o5 :: o6 :: o7 :: o8 :: o9 :: o10 :: o11 :: some (.own d) :: r, c⟩ := rfl
theorem sb12 {c : Nat} {r : List (Option SC)} {d : D} {o0 o1 o2 o3 o4 o5 o6 o7 o8 o9 o10 o11 : Option SC} {f : D → Prop} : see ⟨o0 :: o1 :: o2 :: o3 :: o4 :: o5 :: o6 :: o7 :: o8 :: o9 :: o10 :: o11 :: some (.own d) :: r, c⟩ (.bor 12) f = f d := rfl
theorem fb12 {c : Nat} {r : List (Option SC)} {d : D} {o0 o1 o2 o3 o4 o5 o6 o7 o8 o9 o10 o11 : Option SC} {f : D → Gm → Prop} : frz ⟨o0 :: o1 :: o2 :: o3 :: o4 :: o5 :: o6 :: o7 :: o8 :: o9 :: o10 :: o11 :: some (.own d) :: r, c⟩ (.bor 12) f = f d ⟨o0 :: o1 :: o2 :: o3 :: o4 :: o5 :: o6 :: o7 :: o8 :: o9 :: o10 :: o11 :: some (.dat d) :: r, c⟩ := rfl
theorem rb12 {c : Nat} {r : List (Option SC)} {d : D} {o0 o1 o2 o3 o4 o5 o6 o7 o8 o9 o10 o11 : Option SC} {f : SV → Prop} : rtS ⟨o0 :: o1 :: o2 :: o3 :: o4 :: o5 :: o6 :: o7 :: o8 :: o9 :: o10 :: o11 :: some (.own d) :: r, c⟩ (.bor 12) f = f (.new d) := rfl
theorem v13 {c : Nat} {r : List (Option SC)} {d : D} {o0 o1 o2 o3 o4 o5 o6 o7 o8 o9 o10 o11 o12 : Option SC} {Q : SV → Gm → Prop} : dVar 13 ⟨o0 :: o1 :: o2 :: o3 :: o4 :: o5 :: o6 :: o7 :: o8 :: o9 :: o10 :: o11 :: o12 :: some (.dat d) :: r, c⟩ Q = Q (.dat d) ⟨o0 :: o1 :: o2 :: o3 :: o4 :: o5 :: o6 :: o7 :: o8 :: o9 :: o10 :: o11 :: o12 :: some (.dat d) :: r, c⟩ := rfl
theorem w13 {c : Nat} {r : List (Option SC)} {d : D} {o0 o1 o2 o3 o4 o5 o6 o7 o8 o9 o10 o11 o12 : Option SC} {Q : SV → Gm → Prop} : dVar 13 ⟨o0 :: o1 :: o2 :: o3 :: o4 :: o5 :: o6 :: o7 :: o8 :: o9 :: o10 :: o11 :: o12 :: some (.own d) :: r, c⟩ Q = Q (.bor 13) ⟨o0 :: o1 :: o2 :: o3 :: o4 :: o5 :: o6 :: o7 :: o8 :: o9 :: o10 :: o11 :: o12 :: some (.own d) :: r, c⟩ := rfl
theorem n13 {c : Nat} {r : List (Option SC)} {d : D} {o : Option SC} {o0 o1 o2 o3 o4 o5 o6 o7 o8 o9 o10 o11 o12 : Option SC} {Q : Gm → Prop} : dgName 13 (.dat d) ⟨o0 :: o1 :: o2 :: o3 :: o4 :: o5 :: o6 :: o7 :: o8 :: o9 :: o10 :: o11 :: o12 :: o :: r, c⟩ Q = Q ⟨o0 :: o1 :: o2 :: o3 :: o4 :: o5 :: o6 :: o7 :: o8 :: o9 :: o10 :: o11 :: o12 :: some (.dat d) :: r, c⟩ := rfl
theorem m13 {c : Nat} {r : List (Option SC)} {d : D} {o : Option SC} {o0 o1 o2 o3 o4 o5 o6 o7 o8 o9 o10 o11 o12 : Option SC} {Q : Gm → Prop} : dgName 13 (.new d) ⟨o0 :: o1 :: o2 :: o3 :: o4 :: o5 :: o6 :: o7 :: o8 :: o9 :: o10 :: o11 :: o12 :: o :: r, c⟩ Q = Q ⟨o0 :: o1 :: o2 :: o3 :: o4 :: o5 :: o6 :: o7 :: o8 :: o9 :: o10 :: o11 :: o12 :: some (.own d) :: r, c⟩ := rfl
theorem sb13 {c : Nat} {r : List (Option SC)} {d : D} {o0 o1 o2 o3 o4 o5 o6 o7 o8 o9 o10 o11 o12 : Option SC} {f : D → Prop} : see ⟨o0 :: o1 :: o2 :: o3 :: o4 :: o5 :: o6 :: o7 :: o8 :: o9 :: o10 :: o11 :: o12 :: some (.own d) :: r, c⟩ (.bor 13) f = f d := rfl
theorem fb13 {c : Nat} {r : List (Option SC)} {d : D} {o0 o1 o2 o3 o4 o5 o6 o7 o8 o9 o10 o11 o12 : Option SC} {f : D → Gm → Prop} : frz ⟨o0 :: o1 :: o2 :: o3 :: o4 :: o5 :: o6 :: o7 :: o8 :: o9 :: o10 :: o11 :: o12 :: some (.own d) :: r, c⟩ (.bor 13) f = f d ⟨o0 :: o1 :: o2 :: o3 :: o4 :: o5 :: o6 :: o7 :: o8 :: o9 :: o10 :: o11 :: o12 :: some (.dat d) :: r, c⟩ := rfl
theorem rb13 {c : Nat} {r : List (Option SC)} {d : D} {o0 o1 o2 o3 o4 o5 o6 o7 o8 o9 o10 o11 o12 : Option SC} {f : SV → Prop} : rtS ⟨o0 :: o1 :: o2 :: o3 :: o4 :: o5 :: o6 :: o7 :: o8 :: o9 :: o10 :: o11 :: o12 :: some (.own d) :: r, c⟩ (.bor 13) f = f (.new d) := rfl
theorem v14 {c : Nat} {r : List (Option SC)} {d : D} {o0 o1 o2 o3 o4 o5 o6 o7 o8 o9 o10 o11 o12 o13 : Option SC} {Q : SV → Gm → Prop} : dVar 14 ⟨o0 :: o1 :: o2 :: o3 :: o4 :: o5 :: o6 :: o7 :: o8 :: o9 :: o10 :: o11 :: o12 :: o13 :: some (.dat d) :: r, c⟩ Q = Q (.dat d) ⟨o0 :: o1 :: o2 :: o3 :: o4 :: o5 :: o6 :: o7 :: o8 :: o9 :: o10 :: o11 :: o12 :: o13 :: some (.dat d) :: r, c⟩ := rfl
theorem w14 {c : Nat} {r : List (Option SC)} {d : D} {o0 o1 o2 o3 o4 o5 o6 o7 o8 o9 o10 o11 o12 o13 : Option SC} {Q : SV → Gm → Prop} : dVar 14 ⟨o0 :: o1 :: o2 :: o3 :: o4 :: o5 :: o6 :: o7 :: o8 :: o9 :: o10 :: o11 :: o12 :: o13 :: some (.own d) :: r, c⟩ Q = Q (.bor 14) ⟨o0 :: o1 :: o2 :: o3 :: o4 :: o5 :: o6 :: o7 :: o8 :: o9 :: o10 :: o11 :: o12 :: o13 :: some (.own d) :: r, c⟩ := rfl
theorem n14 {c : Nat} {r : List (Option SC)} {d : D} {o : Option SC} {o0 o1 o2 o3 o4 o5 o6 o7 o8 o9 o10 o11 o12 o13 : Option SC} {Q : Gm → Prop} : dgName 14 (.dat d) ⟨o0 :: o1 :: o2 :: o3 :: o4 :: o5 :: o6 :: o7 :: o8 :: o9 :: o10 :: o11 :: o12 :: o13 :: o :: r, c⟩ Q = Q ⟨o0 :: o1 :: o2 :: o3 :: o4 :: o5 :: o6 :: o7 :: o8 :: o9 :: o10 :: o11 :: o12 :: o13 :: some (.dat d) :: r, c⟩ := rfl
theorem m14 {c : Nat} {r : List (Option SC)} {d : D} {o : Option SC} {o0 o1 o2 o3 o4 o5 o6 o7 o8 o9 o10 o11 o12 o13 : Option SC} {Q : Gm → Prop} : dgName 14 (.new d) ⟨o0 :: o1 :: o2 :: o3 :: o4 :: o5 :: o6 :: o7 :: o8 :: o9 :: o10 :: o11 :: o12 :: o13 :: o :: r, c⟩ Q = Q ⟨o0 :: o1 :: o2 :: o3 :: o4 :: o5 :: o6 :: o7 :: o8 :: o9 :: o10 :: o11 :: o12 :: o13 :: some (.own d) :: r, c⟩ := rfl
theorem sb14 {c : Nat} {r : List (Option SC)} {d : D} {o0 o1 o2 o3 o4 o5 o6 o7 o8 o9 o10 o11 o12 o13 : Option SC} {f : D → Prop} : see ⟨o0 :: o1 :: o2 :: o3 :: o4 :: o5 :: o6 :: o7 :: o8 :: o9 :: o10 :: o11 :: o12 :: o13 :: some (.own d) :: r, c⟩ (.bor 14) f = f d := rfl
theorem fb14 {c : Nat} {r : List (Option SC)} {d : D} {o0 o1 o2 o3 o4 o5 o6 o7 o8 o9 o10 o11 o12 o13 : Option SC} {f : D → Gm → Prop} : frz ⟨o0 :: o1 :: o2 :: o3 :: o4 :: o5 :: o6 :: o7 :: o8 :: o9 :: o10 :: o11 :: o12 :: o13 :: some (.own d) :: r, c⟩ (.bor 14) f = f d ⟨o0 :: o1 :: o2 :: o3 :: o4 :: o5 :: o6 :: o7 :: o8 :: o9 :: o10 :: o11 :: o12 :: o13 :: some (.dat d) :: r, c⟩ := rfl
theorem rb14 {c : Nat} {r : List (Option SC)} {d : D} {o0 o1 o2 o3 o4 o5 o6 o7 o8 o9 o10 o11 o12 o13 : Option SC} {f : SV → Prop} : rtS ⟨o0 :: o1 :: o2 :: o3 :: o4 :: o5 :: o6 :: o7 :: o8 :: o9 :: o10 :: o11 :: o12 :: o13 :: some (.own d) :: r, c⟩ (.bor 14) f = f (.new d) := rfl
theorem v15 {c : Nat} {r : List (Option SC)} {d : D} {o0 o1 o2 o3 o4 o5 o6 o7 o8 o9 o10 o11 o12 o13 o14 : Option SC} {Q : SV → Gm → Prop} : dVar 15 ⟨o0 :: o1 :: o2 :: o3 :: o4 :: o5 :: o6 :: o7 :: o8 :: o9 :: o10 :: o11 :: o12 :: o13 :: o14 :: some (.dat d) :: r, c⟩ Q = Q (.dat d) ⟨o0 :: o1 :: o2 :: o3 :: o4 :: o5 :: o6 :: o7 :: o8 :: o9 :: o10 :: o11 :: o12 :: o13 :: o14 :: some (.dat d) :: r, c⟩ := rfl
theorem w15 {c : Nat} {r : List (Option SC)} {d : D} {o0 o1 o2 o3 o4 o5 o6 o7 o8 o9 o10 o11 o12 o13 o14 : Option SC} {Q : SV → Gm → Prop} : dVar 15 ⟨o0 :: o1 :: o2 :: o3 :: o4 :: o5 :: o6 :: o7 :: o8 :: o9 :: o10 :: o11 :: o12 :: o13 :: o14 :: some (.own d) :: r, c⟩ Q = Q (.bor 15) ⟨o0 :: o1 :: o2 :: o3 :: o4 :: o5 :: o6 :: o7 :: o8 :: o9 :: o10 :: o11 :: o12 :: o13 :: o14 :: some (.own d) :: r, c⟩ := rfl
theorem n15 {c : Nat} {r : List (Option SC)} {d : D} {o : Option SC} {o0 o1 o2 o3 o4 o5 o6 o7 o8 o9 o10 o11 o12 o13 o14 : Option SC} {Q : Gm → Prop} : dgName 15 (.dat d) ⟨o0 :: o1 :: o2 :: o3 :: o4 :: o5 :: o6 :: o7 :: o8 :: o9 :: o10 :: o11 :: o12 :: o13 :: o14 :: o :: r, c⟩ Q = Q ⟨o0 :: o1 :: o2 :: o3 :: o4 :: o5 :: o6 :: o7 :: o8 :: o9 :: o10 :: o11 :: o12 :: o13 :: o14 :: some (.dat d) :: r, c⟩ := rfl
theorem m15 {c : Nat} {r : List (Option SC)} {d : D} {o : Option SC} {o0 o1 o2 o3 o4 o5 o6 o7 o8 o9 o10 o11 o12 o13 o14 : Option SC} {Q : Gm → Prop} : dgName 15 (.new d) ⟨o0 :: o1 :: o2 :: o3 :: o4 :: o5 :: o6 :: o7 :: o8 :: o9 :: o10 :: o11 :: o12 :: o13 :: o14 :: o :: r, c⟩ Q = Q ⟨o0 :: o1 :: o2 :: o3 :: o4 :: o5 :: o6 :: o7 :: o8 :: o9 :: o10 :: o11 :: o12 :: o13 :: o14 :: some (.own d) :: r, c⟩ := rfl
theorem sb15 {c : Nat} {r : List (Option SC)} {d : D} {o0 o1 o2 o3 o4 o5 o6 o7 o8 o9 o10 o11 o12 o13 o14 : Option SC} {f : D → Prop} : see ⟨o0 :: o1 :: o2 :: o3 :: o4 :: o5 :: o6 :: o7 :: o8 :: o9 :: o10 :: o11 :: o12 :: o13 :: o14 :: some (.own d) :: r, c⟩ (.bor 15) f = f d := rfl
theorem fb15 {c : Nat} {r : List (Option SC)} {d : D} {o0 o1 o2 o3 o4 o5 o6 o7 o8 o9 o10 o11 o12 o13 o14 : Option SC} {f : D → Gm → Prop} : frz ⟨o0 :: o1 :: o2 :: o3 :: o4 :: o5 :: o6 :: o7 :: o8 :: o9 :: o10 :: o11 :: o12 :: o13 :: o14 :: some (.own d) :: r, c⟩ (.bor 15) f = f d ⟨o0 :: o1 :: o2 :: o3 :: o4 :: o5 :: o6 :: o7 :: o8 :: o9 :: o10 :: o11 :: o12 :: o13 :: o14 :: some (.dat d) :: r, c⟩ := rfl
theorem rb15 {c : Nat} {r : List (Option SC)} {d : D} {o0 o1 o2 o3 o4 o5 o6 o7 o8 o9 o10 o11 o12 o13 o14 : Option SC} {f : SV → Prop} : rtS ⟨o0 :: o1 :: o2 :: o3 :: o4 :: o5 :: o6 :: o7 :: o8 :: o9 :: o10 :: o11 :: o12 :: o13 :: o14 :: some (.own d) :: r, c⟩ (.bor 15) f = f (.new d) := rfl
theorem v16 {c : Nat} {r : List (Option SC)} {d : D} {o0 o1 o2 o3 o4 o5 o6 o7 o8 o9 o10 o11 o12 o13 o14 o15 : Option SC} {Q : SV → Gm → Prop} : dVar 16 ⟨o0 :: o1 :: o2 :: o3 :: o4 :: o5 :: o6 :: o7 :: o8 :: o9 :: o10 :: o11 :: o12 :: o13 :: o14 :: o15 :: some (.dat d) :: r, c⟩ Q = Q (.dat d) ⟨o0 :: o1 :: o2 :: o3 :: o4 :: o5 :: o6 :: o7 :: o8 :: o9 :: o10 :: o11 :: o12 :: o13 :: o14 :: o15 :: some (.dat d) :: r, c⟩ := rfl
theorem w16 {c : Nat} {r : List (Option SC)} {d : D} {o0 o1 o2 o3 o4 o5 o6 o7 o8 o9 o10 o11 o12 o13 o14 o15 : Option SC} {Q : SV → Gm → Prop} : dVar 16 ⟨o0 :: o1 :: o2 :: o3 :: o4 :: o5 :: o6 :: o7 :: o8 :: o9 :: o10 :: o11 :: o12 :: o13 :: o14 :: o15 :: some (.own d) :: r, c⟩ Q = Q (.bor 16) ⟨o0 :: o1 :: o2 :: o3 :: o4 :: o5 :: o6 :: o7 :: o8 :: o9 :: o10 :: o11 :: o12 :: o13 :: o14 :: o15 :: some (.own d) :: r, c⟩ := rfl
theorem n16 {c : Nat} {r : List (Option SC)} {d : D} {o : Option SC} {o0 o1 o2 o3 o4 o5 o6 o7 o8 o9 o10 o11 o12 o13 o14 o15 : Option SC} {Q : Gm → Prop} : dgName 16 (.dat d) ⟨o0 :: o1 :: o2 :: o3 :: o4 :: o5 :: o6 :: o7 :: o8 :: o9 :: o10 :: o11 :: o12 :: o13 :: o14 :: o15 :: o :: r, c⟩ Q = Q ⟨o0 :: o1 :: o2 :: o3 :: o4 :: o5 :: o6 :: o7 :: o8 :: o9 :: o10 :: o11 :: o12 :: o13 :: o14 :: o15 :: some (.dat d) :: r, c⟩ := rfl
theorem m16 {c : Nat} {r : List (Option SC)} {d : D} {o : Option SC} {o0 o1 o2 o3 o4 o5 o6 o7 o8 o9 o10 o11 o12 o13 o14 o15 : Option SC} {Q : Gm → Prop} : dgName 16 (.new d) ⟨o0 :: o1 :: o2 :: o3 :: o4 :: o5 :: o6 :: o7 :: o8 :: o9 :: o10 :: o11 :: o12 :: o13 :: o14 :: o15 :: o :: r, c⟩ Q = Q ⟨o0 :: o1 :: o2 :: o3 :: o4 :: o5 :: o6 :: o7 :: o8 :: o9 :: o10 :: o11 :: o12 :: o13 :: o14 :: o15 :: some (.own d) :: r, c⟩ := rfl
theorem sb16 {c : Nat} {r : List (Option SC)} {d : D} {o0 o1 o2 o3 o4 o5 o6 o7 o8 o9 o10 o11 o12 o13 o14 o15 : Option SC} {f : D → Prop} : see ⟨o0 :: o1 :: o2 :: o3 :: o4 :: o5 :: o6 :: o7 :: o8 :: o9 :: o10 :: o11 :: o12 :: o13 :: o14 :: o15 :: some (.own d) :: r, c⟩ (.bor 16) f = f d := rfl
theorem fb16 {c : Nat} {r : List (Option SC)} {d : D} {o0 o1 o2 o3 o4 o5 o6 o7 o8 o9 o10 o11 o12 o13 o14 o15 : Option SC} {f : D → Gm → Prop} : frz ⟨o0 :: o1 :: o2 :: o3 :: o4 :: o5 :: o6 :: o7 :: o8 :: o9 :: o10 :: o11 :: o12 :: o13 :: o14 :: o15 :: some (.own d) :: r, c⟩ (.bor 16) f = f d ⟨o0 :: o1 :: o2 :: o3 :: o4 :: o5 :: o6 :: o7 :: o8 :: o9 :: o10 :: o11 :: o12 :: o13 :: o14 :: o15 :: some (.dat d) :: r, c⟩ := rfl
theorem rb16 {c : Nat} {r : List (Option SC)} {d : D} {o0 o1 o2 o3 o4 o5 o6 o7 o8 o9 o10 o11 o12 o13 o14 o15 : Option SC} {f : SV → Prop} : rtS ⟨o0 :: o1 :: o2 :: o3 :: o4 :: o5 :: o6 :: o7 :: o8 :: o9 :: o10 :: o11 :: o12 :: o13 :: o14 :: o15 :: some (.own d) :: r, c⟩ (.bor 16) f = f (.new d) := rfl
theorem v17 {c : Nat} {r : List (Option SC)} {d : D} {o0 o1 o2 o3 o4 o5 o6 o7 o8 o9 o10 o11 o12 o13 o14 o15 o16 : Option SC} {Q : SV → Gm → Prop} : dVar 17 ⟨o0 :: o1 :: o2 :: o3 :: o4 :: o5 :: o6 :: o7 :: o8 :: o9 :: o10 :: o11 :: o12 :: o13 :: o14 :: o15 :: o16 :: some (.dat d) :: r, c⟩ Q = Q (.dat d) ⟨o0 :: o1 :: o2 :: o3 :: o4 :: o5 :: o6 :: o7 :: o8 :: o9 :: o10 :: o11 :: o12 :: o13 :: o14 :: o15 :: o16 :: some (.dat d) :: r, c⟩ := rfl
theorem w17 {c : Nat} {r : List (Option SC)} {d : D} {o0 o1 o2 o3 o4 o5 o6 o7 o8 o9 o10 o11 o12 o13 o14 o15 o16 : Option SC} {Q : SV → Gm → Prop} : dVar 17 ⟨o0 :: o1 :: o2 :: o3 :: o4 :: o5 :: o6 :: o7 :: o8 :: o9 :: o10 :: o11 :: o12 :: o13 :: o14 :: o15 :: o16 :: some (.own d) :: r, c⟩ Q = Q (.bor 17) ⟨o0 :: o1 :: o2 :: o3 :: o4 :: o5 :: o6 :: o7 :: o8 :: o9 :: o10 :: o11 :: o12 :: o13 :: o14 :: o15 :: o16 :: some (.own d) :: r, c⟩ := rfl
theorem n17 {c : Nat} {r : List (Option SC)} {d : D} {o : Option SC} {o0 o1 o2 o3 o4 o5 o6 o7 o8 o9 o10 o11 o12 o13 o14 o15 o16 : Option SC} {Q : Gm → Prop} : dgName 17 (.dat d) ⟨o0 :: o1 :: o2 :: o3 :: o4 :: o5 :: o6 :: o7 :: o8 :: o9 :: o10 :: o11 :: o12 :: o13 :: o14 :: o15 :: o16 :: o :: r, c⟩ Q = Q ⟨o0 :: o1 :: o2 :: o3 :: o4 :: o5 :: o6 :: o7 :: o8 :: o9 :: o10 :: o11 :: o12 :: o13 :: o14 :: o15 :: o16 :: some (.dat d) :: r, c⟩ := rfl
theorem m17 {c : Nat} {r : List (Option SC)} {d : D} {o : Option SC} {o0 o1 o2 o3 o4 o5 o6 o7 o8 o9 o10 o11 o12 o13 o14 o15 o16 : Option SC} {Q : Gm → Prop} : dgName 17 (.new d) ⟨o0 :: o1 :: o2 :: o3 :: o4 :: o5 :: o6 :: o7 :: o8 :: o9 :: o10 :: o11 :: o12 :: o13 :: o14 :: o15 :: o16 :: o :: r, c⟩ Q = Q ⟨o0 :: o1 :: o2 :: o3 :: o4 :: o5 :: o6 :: o7 :: o8 :: o9 :: o10 :: o11 :: o12 :: o13 :: o14 :: o15 :: o16 :: some (.own d) :: r, c⟩ := rfl
theorem sb17 {c : Nat} {r : List (Option SC)} {d : D} {o0 o1 o2 o3 o4 o5 o6 o7 o8 o9 o10 o11 o12 o13 o14 o15 o16 : Option SC} {f : D → Prop} : see ⟨o0 :: o1 :: o2 :: o3 :: o4 :: o5 :: o6 :: o7 :: o8 :: o9 :: o10 :: o11 :: o12 :: o13 :: o14 :: o15 :: o16 :: some (.own d) :: r, c⟩ (.bor 17) f = f d := rfl
theorem fb17 {c : Nat} {r : List (Option SC)} {d : D} {o0 o1 o2 o3 o4 o5 o6 o7 o8 o9 o10 o11 o12 o13 o14 o15 o16 : Option SC} {f : D → Gm → Prop} : frz ⟨o0 :: o1 :: o2 :: o3 :: o4 :: o5 :: o6 :: o7 :: o8 :: o9 :: o10 :: o11 :: o12 :: o13 :: o14 :: o15 :: o16 :: some (.own d) :: r, c⟩ (.bor 17) f = f d ⟨o0 :: o1 :: o2 :: o3 :: o4 :: o5 :: o6 :: o7 :: o8 :: o9 :: o10 :: o11 :: o12 :: o13 :: o14 :: o15 :: o16 :: some (.dat d) :: r, c⟩ := rfl
theorem rb17 {c : Nat} {r : List (Option SC)} {d : D} {o0 o1 o2 o3 o4 o5 o6 o7 o8 o9 o10 o11 o12 o13 o14 o15 o16 : Option SC} {f : SV → Prop} : rtS ⟨o0 :: o1 :: o2 :: o3 :: o4 :: o5 :: o6 :: o7 :: o8 :: o9 :: o10 :: o11 :: o12 :: o13 :: o14 :: o15 :: o16 :: some (.own d) :: r, c⟩ (.bor 17) f = f (.new d) := rfl
theorem v18 {c : Nat} {r : List (Option SC)} {d : D} {o0 o1 o2 o3 o4 o5 o6 o7 o8 o9 o10 o11 o12 o13 o14 o15 o16 o17 : Option SC} {Q : SV → Gm → Prop} : dVar 18 ⟨o0 :: o1 :: o2 :: o3 :: o4 :: o5 :: o6 :: o7 :: o8 :: o9 :: o10 :: o11 :: o12 :: o13 :: o14 :: o15 :: o16 :: o17 :: some (.dat d) :: r, c⟩ Q = Q (.dat d) ⟨o0 :: o1 :: o2 :: o3 :: o4 :: o5 :: o6 :: o7 :: o8 :: o9 :: o10 :: o11 :: o12 :: o13 :: o14 :: o15 :: o16 :: o17 :: some (.dat d) :: r, c⟩ := rfl
theorem w18 {c : Nat} {r : List (Option SC)} {d : D} {o0 o1 o2 o3 o4 o5 o6 o7 o8 o9 o10 o11 o12 o13 o14 o15 o16 o17 : Option SC} {Q : SV → Gm → Prop} : dVar 18 ⟨o0 :: o1 :: o2 :: o3 :: o4 :: o5 :: o6 :: o7 :: o8 :: o9 :: o10 :: o11 :: o12 :: o13 :: o14 :: o15 :: o16 :: o17 :: some (.own d) :: r, c⟩ Q = Q (.bor 18) ⟨o0 :: o1 :: o2 :: o3 :: o4 :: o5 :: o6 :: o7 :: o8 :: o9 :: o10 :: o11 :: o12 :: o13 :: o14 :: o15 :: o16 :: o17 :: some (.own d) :: r, c⟩ := rfl
theorem n18 {c : Nat} {r : List (Option SC)} {d : D} {o : Option SC} {o0 o1 o2 o3 o4 o5 o6 o7 o8 o9 o10 o11 o12 o13 o14 o15 o16 o17 : Option SC} {Q : Gm → Prop} : dgName 18 (.dat d) ⟨o0 :: o1 :: o2 :: o3 :: o4 :: o5 :: o6 :: o7 :: o8 :: o9 :: o10 :: o11 :: o12 :: o13 :: o14 :: o15 :: o16 :: o17 :: o :: r, c⟩ Q = Q ⟨o0 :: o1 :: o2 :: o3 :: o4 :: o5 :: o6 :: o7 :: o8 :: o9 :: o10 :: o11 :: o12 :: o13 :: o14 :: o15 :: o16 :: o17 :: some (.dat d) :: r, c⟩ := rfl
theorem m18 {c : Nat} {r : List (Option SC)} {d : D} {o : Option SC} {o0 o1 o2 o3 o4 o5 o6 o7 o8 o9 o10 o11 o12 o13 o14 o15 o16 o17 : Option SC} {Q : Gm → Prop} : dgName 18 (.new d) ⟨o0 :: o1 :: o2 :: o3 :: o4 :: o5 :: o6 :: o7 :: o8 :: o9 :: o10 :: o11 :: o12 :: o13 :: o14 :: o15 :: o16 :: o17 :: o :: r, c⟩ Q = Q ⟨o0 :: o1 :: o2 :: o3 :: o4 :: o5 :: o6 :: o7 :: o8 :: o9 :: o10 :: o11 :: o12 :: o13 :: o14 :: o15 :: o16 :: o17 :: some (.own d) :: r, c⟩ := rfl
theorem sb18 {c : Nat} {r : List (Option SC)} {d : D} {o0 o1 o2 o3 o4 o5 o6 o7 o8 o9 o10 o11 o12 o13 o14 o15 o16 o17 : Option SC} {f : D → Prop} : see ⟨o0 :: o1 :: o2 :: o3 :: o4 :: o5 :: o6 :: o7 :: o8 :: o9 :: o10 :: o11 :: o12 :: o13 :: o14 :: o15 :: o16 :: o17 :: some (.own d) :: r, c⟩ (.bor 18) f = f d := rfl
theorem fb18 {c : Nat} {r : List (Option SC)} {d : D} {o0 o1 o2 o3 o4 o5 o6 o7 o8 o9 o10 o11 o12 o13 o14 o15 o16 o17 : Option SC} {f : D → Gm → Prop} : frz ⟨o0 :: o1 :: o2 :: o3 :: o4 :: o5 :: o6 :: o7 :: o8 :: o9 :: o10 :: o11 :: o12 :: o13 :: o14 :: o15 :: o16 :: o17 :: some (.own d) :: r, c⟩ (.bor 18) f = f d ⟨o0 :: o1 :: o2 :: o3 :: o4 :: o5 :: o6 :: o7 :: o8 :: o9 :: o10 :: o11 :: o12 :: o13 :: o14 :: o15 :: o16 :: o17 :: some (.dat d) :: r, c⟩ := rfl
theorem rb18 {c : Nat} {r : List (Option SC)} {d : D} {o0 o1 o2 o3 o4 o5 o6 o7 o8 o9 o10 o11 o12 o13 o14 o15 o16 o17 : Option SC} {f : SV → Prop} : rtS ⟨o0 :: o1 :: o2 :: o3 :: o4 :: o5 :: o6 :: o7 :: o8 :: o9 :: o10 :: o11 :: o12 :: o13 :: o14 :: o15 :: o16 :: o17 :: some (.own d) :: r, c⟩ (.bor 18) f = f (.new d) := rfl
theorem v19 {c : Nat} {r : List (Option SC)} {d : D} {o0 o1 o2 o3 o4 o5 o6 o7 o8 o9 o10 o11 o12 o13 o14 o15 o16 o17 o18 : Option SC} {Q : SV → Gm → Prop} : dVar 19 ⟨o0 :: o1 :: o2 :: o3 :: o4 :: o5 :: o6 :: o7 :: o8 :: o9 :: o10 :: o11 :: o12 :: o13 :: o14 :: o15 :: o16 :: o17 :: o18 :: some (.dat d) :: r, c⟩ Q = Q (.dat d) ⟨o0 :: o1 :: o2 :: o3 :: o4 :: o5 :: o6 :: o7 :: o8 :: o9 :: o10 :: o11 :: o12 :: o13 :: o14 :: o15 :: o16 :: o17 :: o18 :: some (.dat d) :: r, c⟩ := rfl
theorem w19 {c : Nat} {r : List (Option SC)} {d : D} {o0 o1 o2 o3 o4 o5 o6 o7 o8 o9 o10 o11 o12 o13 o14 o15 o16 o17 o18 : Option SC} {Q : SV → Gm → Prop} : dVar 19 ⟨o0 :: o1 :: o2 :: o3 :: o4 :: o5 :: o6 :: o7 :: o8 :: o9 :: o10 :: o11 :: o12 :: o13 :: o14 :: o15 :: o16 :: o17 :: o18 :: some (.own d) :: r, c⟩ Q = Q (.bor 19) ⟨o0 :: o1 :: o2 :: o3 :: o4 :: o5 :: o6 :: o7 :: o8 :: o9 :: o10 :: o11 :: o12 :: o13 :: o14 :: o15 :: o16 :: o17 :: o18 :: some (.own d) :: r, c⟩ := rfl
theorem n19 {c : Nat} {r : List (Option SC)} {d : D} {o : Option SC} {o0 o1 o2 o3 o4 o5 o6 o7 o8 o9 o10 o11 o12 o13 o14 o15 o16 o17 o18 : Option SC} {Q : Gm → Prop} : dgName 19 (.dat d) ⟨o0 :: o1 :: o2 :: o3 :: o4 :: o5 :: o6 :: o7 :: o8 :: o9 :: o10 :: o11 :: o12 :: o13 :: o14 :: o15 :: o16 :: o17 :: o18 :: o :: r, c⟩ Q = Q ⟨o0 :: o1 :: o2 :: o3 :: o4 :: o5 :: o6 :: o7 :: o8 :: o9 :: o10 :: o11 :: o12 :: o13 :: o14 :: o15 :: o16 :: o17 :: o18 :: some (.dat d) :: r, c⟩ := rfl
theorem m19 {c : Nat} {r : List (Option SC)} {d : D} {o : Option SC} {o0 o1 o2 o3 o4 o5 o6 o7 o8 o9 o10 o11 o12 o13 o14 o15 o16 o17 o18 : Option SC} {Q : Gm → Prop} : dgName 19 (.new d) ⟨o0 :: o1 :: o2 :: o3 :: o4 :: o5 :: o6 :: o7 :: o8 :: o9 :: o10 :: o11 :: o12 :: o13 :: o14 :: o15 :: o16 :: o17 :: o18 :: o :: r, c⟩ Q = Q ⟨o0 :: o1 :: o2 :: o3 :: o4 :: o5 :: o6 :: o7 :: o8 :: o9 :: o10 :: o11 :: o12 :: o13 :: o14 :: o15 :: o16 :: o17 :: o18 :: some (.own d) :: r, c⟩ := rfl
theorem sb19 {c : Nat} {r : List (Option SC)} {d : D} {o0 o1 o2 o3 o4 o5 o6 o7 o8 o9 o10 o11 o12 o13 o14 o15 o16 o17 o18 : Option SC} {f : D → Prop} : see ⟨o0 :: o1 :: o2 :: o3 :: o4 :: o5 :: o6 :: o7 :: o8 :: o9 :: o10 :: o11 :: o12 :: o13 :: o14 :: o15 :: o16 :: o17 :: o18 :: some (.own d) :: r, c⟩ (.bor 19) f = f d := rfl
theorem fb19 {c : Nat} {r : List (Option SC)} {d : D} {o0 o1 o2 o3 o4 o5 o6 o7 o8 o9 o10 o11 o12 o13 o14 o15 o16 o17 o18 : Option SC} {f : D → Gm → Prop} : frz ⟨o0 :: o1 :: o2 :: o3 :: o4 :: o5 :: o6 :: o7 :: o8 :: o9 :: o10 :: o11 :: o12 :: o13 :: o14 :: o15 :: o16 :: o17 :: o18 :: some (.own d) :: r, c⟩ (.bor 19) f = f d ⟨o0 :: o1 :: o2 :: o3 :: o4 :: o5 :: o6 :: o7 :: o8 :: o9 :: o10 :: o11 :: o12 :: o13 :: o14 :: o15 :: o16 :: o17 :: o18 :: some (.dat d) :: r, c⟩ := rfl
theorem rb19 {c : Nat} {r : List (Option SC)} {d : D} {o0 o1 o2 o3 o4 o5 o6 o7 o8 o9 o10 o11 o12 o13 o14 o15 o16 o17 o18 : Option SC} {f : SV → Prop} : rtS ⟨o0 :: o1 :: o2 :: o3 :: o4 :: o5 :: o6 :: o7 :: o8 :: o9 :: o10 :: o11 :: o12 :: o13 :: o14 :: o15 :: o16 :: o17 :: o18 :: some (.own d) :: r, c⟩ (.bor 19) f = f (.new d) := rfl
theorem v20 {c : Nat} {r : List (Option SC)} {d : D} {o0 o1 o2 o3 o4 o5 o6 o7 o8 o9 o10 o11 o12 o13 o14 o15 o16 o17 o18 o19 : Option SC} {Q : SV → Gm → Prop} : dVar 20 ⟨o0 :: o1 :: o2 :: o3 :: o4 :: o5 :: o6 :: o7 :: o8 :: o9 :: o10 :: o11 :: o12 :: o13 :: o14 :: o15 :: o16 :: o17 :: o18 :: o19 :: some (.dat d) :: r, c⟩ Q = Q (.dat d) ⟨o0 :: o1 :: o2 :: o3 :: o4 :: o5 :: o6 :: o7 :: o8 :: o9 :: o10 :: o11 :: o12 :: o13 :: o14 :: o15 :: o16 :: o17 :: o18 :: o19 :: some (.dat d) :: r, c⟩ := rfl
theorem w20 {c : Nat} {r : List (Option SC)} {d : D} {o0 o1 o2 o3 o4 o5 o6 o7 o8 o9 o10 o11 o12 o13 o14 o15 o16 o17 o18 o19 : Option SC} {Q : SV → Gm → Prop} : dVar 20 ⟨o0 :: o1 :: o2 :: o3 :: o4 :: o5 :: o6 :: o7 :: o8 :: o9 :: o10 :: o11 :: o12 :: o13 :: o14 :: o15 :: o16 :: o17 :: o18 :: o19 :: some (.own d) :: r, c⟩ Q = Q (.bor 20) ⟨o0 :: o1 :: o2 :: o3 :: o4 :: o5 :: o6 :: o7 :: o8 :: o9 :: o10 :: o11 :: o12 :: o13 :: o14 :: o15 :: o16 :: o17 :: o18 :: o19 :: some (.own d) :: r, c⟩ := rfl
theorem n20 {c : Nat} {r : List (Option SC)} {d : D} {o : Option SC} {o0 o1 o2 o3 o4 o5 o6 o7 o8 o9 o10 o11 o12 o13 o14 o15 o16 o17 o18 o19 : Option SC} {Q : Gm → Prop} : dgName 20 (.dat d) ⟨o0 :: o1 :: o2 :: o3 :: o4 :: o5 :: o6 :: o7 :: o8 :: o9 :: o10 :: o11 :: o12 :: o13 :: o14 :: o15 :: o16 :: o17 :: o18 :: o19 :: o :: r, c⟩ Q = Q ⟨o0 :: o1 :: o2 :: o3 :: o4 :: o5 :: o6 :: o7 :: o8 :: o9 :: o10 :: o11 :: o12 :: o13 :: o14 :: o15 :: o16 :: o17 :: o18 :: o19 :: some (.dat d) :: r, c⟩ := rfl
theorem m20 {c : Nat} {r : List (Option SC)} {d : D} {o : Option SC} {o0 o1 o2 o3 o4 o5 o6 o7 o8 o9 o10 o11 o12 o13 o14 o15 o16 o17 o18 o19 : Option SC} {Q : Gm → Prop} : dgName 20 (.new d) ⟨o0 :: o1 :: o2 :: o3 :: o4 :: o5 :: o6 :: o7 :: o8 :: o9 :: o10 :: o11 :: o12 :: o13 :: o14 :: o15 :: o16 :: o17 :: o18 :: o19 :: o :: r, c⟩ Q = Q ⟨o0 :: o1 :: o2 :: o3 :: o4 :: o5 :: o6 :: o7 :: o8 :: o9 :: o10 :: o11 :: o12 :: o13 :: o14 :: o15 :: o16 :: o17 :: o18 :: o19 :: some (.own d) :: r, c⟩ := rfl
theorem sb20 {c : Nat} {r : List (Option SC)} {d : D} {o0 o1 o2 o3 o4 o5 o6 o7 o8 o9 o10 o11 o12 o13 o14 o15 o16 o17 o18 o19 : Option SC} {f : D → Prop} : see ⟨o0 :: o1 :: o2 :: o3 :: o4 :: o5 :: o6 :: o7 :: o8 :: o9 :: o10 :: o11 :: o12 :: o13 :: o14 :: o15 :: o16 :: o17 :: o18 :: o19 :: some (.own d) :: r, c⟩ (.bor 20) f = f d := rfl
theorem fb20 {c : Nat} {r : List (Option SC)} {d : D} {o0 o1 o2 o3 o4 o5 o6 o7 o8 o9 o10 o11 o12 o13 o14 o15 o16 o17 o18 o19 : Option SC} {f : D → Gm → Prop} : frz ⟨o0 :: o1 :: o2 :: o3 :: o4 :: o5 :: o6 :: o7 :: o8 :: o9 :: o10 :: o11 :: o12 :: o13 :: o14 :: o15 :: o16 :: o17 :: o18 :: o19 :: some (.own d) :: r, c⟩ (.bor 20) f = f d ⟨o0 :: o1 :: o2 :: o3 :: o4 :: o5 :: o6 :: o7 :: o8 :: o9 :: o10 :: o11 :: o12 :: o13 :: o14 :: o15 :: o16 :: o17 :: o18 :: o19 :: some (.dat d) :: r, c⟩ := rfl
theorem rb20 {c : Nat} {r : List (Option SC)} {d : D} {o0 o1 o2 o3 o4 o5 o6 o7 o8 o9 o10 o11 o12 o13 o14 o15 o16 o17 o18 o19 : Option SC} {f : SV → Prop} : rtS ⟨o0 :: o1 :: o2 :: o3 :: o4 :: o5 :: o6 :: o7 :: o8 :: o9 :: o10 :: o11 :: o12 :: o13 :: o14 :: o15 :: o16 :: o17 :: o18 :: o19 :: some (.own d) :: r, c⟩ (.bor 20) f = f (.new d) := rfl
theorem v21 {c : Nat} {r : List (Option SC)} {d : D} {o0 o1 o2 o3 o4 o5 o6 o7 o8 o9 o10 o11 o12 o13 o14 o15 o16 o17 o18 o19 o20 : Option SC} {Q : SV → Gm → Prop} : dVar 21 ⟨o0 :: o1 :: o2 :: o3 :: o4 :: o5 :: o6 :: o7 :: o8 :: o9 :: o10 :: o11 :: o12 :: o13 :: o14 :: o15 :: o16 :: o17 :: o18 :: o19 :: o20 :: some (.dat d) :: r, c⟩ Q = Q (.dat d) ⟨o0 :: o1 :: o2 :: o3 :: o4 :: o5 :: o6 :: o7 :: o8 :: o9 :: o10 :: o11 :: o12 :: o13 :: o14 :: o15 :: o16 :: o17 :: o18 :: o19 :: o20 :: some (.dat d) :: r, c⟩ := rfl
theorem w21 {c : Nat} {r : List (Option SC)} {d : D} {o0 o1 o2 o3 o4 o5 o6 o7 o8 o9 o10 o11 o12 o13 o14 o15 o16 o17 o18 o19 o20 : Option SC} {Q : SV → Gm → Prop} : dVar 21 ⟨o0 :: o1 :: o2 :: o3 :: o4 :: o5 :: o6 :: o7 :: o8 :: o9 :: o10 :: o11 :: o12 :: o13 :: o14 :: o15 :: o16 :: o17 :: o18 :: o19 :: o20 :: some (.own d) :: r, c⟩ Q = Q (.bor 21) ⟨o0 :: o1 :: o2 :: o3 :: o4 :: o5 :: o6 :: o7 :: o8 :: o9 :: o10 :: o11 :: o12 :: o13 :: o14 :: o15 :: o16 :: o17 :: o18 :: o19 :: o20 :: some (.own d) :: r, c⟩ := rfl
theorem n21 {c : Nat} {r : List (Option SC)} {d : D} {o : Option SC} {o0 o1 o2 o3 o4 o5 o6 o7 o8 o9 o10 o11 o12 o13 o14 o15 o16 o17 o18 o19 o20 : Option SC} {Q : Gm → Prop} : dgName 21 (.dat d) ⟨o0 :: o1 :: o2 :: o3 :: o4 :: o5 :: o6 :: o7 :: o8 :: o9 :: o10 :: o11 :: o12 :: o13 :: o14 :: o15 :: o16 :: o17 :: o18 :: o19 :: o20 :: o :: r, c⟩ Q = Q ⟨o0 :: o1 :: o2 :: o3 :: o4 :: o5 :: o6 :: o7 :: o8 :: o9 :: o10 :: o11 :: o12 :: o13 :: o14 :: o15 :: o16 :: o17 :: o18 :: o19 :: o20 :: some (.dat d) :: r, c⟩ := rfl
theorem m21 {c : Nat} {r : List (Option SC)} {d : D} {o : Option SC} {o0 o1 o2 o3 o4 o5 o6 o7 o8 o9 o10 o11 o12 o13 o14 o15 o16 o17 o18 o19 o20 : Option SC} {Q : Gm → Prop} : dgName 21 (.new d) ⟨o0 :: o1 :: o2 :: o3 :: o4 :: o5 :: o6 :: o7 :: o8 :: o9 :: o10 :: o11 :: o12 :: o13 :: o14 :: o15 :: o16 :: o17 :: o18 :: o19 :: o20 :: o :: r, c⟩ Q = Q ⟨o0 :: o1 :: o2 :: o3 :: o4 :: o5 :: o6 :: o7 :: o8 :: o9 :: o10 :: o11 :: o12 :: o13 :: o14 :: o15 :: o16 :: o17 :: o18 :: o19 :: o20 :: some (.own d) :: r, c⟩ := rfl
theorem sb21 {c : Nat} {r : List (Option SC)} {d : D} {o0 o1 o2 o3 o4 o5 o6 o7 o8 o9 o10 o11 o12 o13 o14 o15 o16 o17 o18 o19 o20 : Option SC} {f : D → Prop} : see ⟨o0 :: o1 :: o2 :: o3 :: o4 :: o5 :: o6 :: o7 :: o8 :: o9 :: o10 :: o11 :: o12 :: o13 :: o14 :: o15 :: o16 :: o17 :: o18 :: o19 :: o20 :: some (.own d) :: r, c⟩ (.bor 21) f = f d := rfl
theorem fb21 {c : Nat} {r : List (Option SC)} {d : D} {o0 o1 o2 o3 o4 o5 o6 o7 o8 o9 o10 o11 o12 o13 o14 o15 o16 o17 o18 o19 o20 : Option SC} {f : D → Gm → Prop} : frz ⟨o0 :: o1 :: o2 :: o3 :: o4 :: o5 :: o6 :: o7 :: o8 :: o9 :: o10 :: o11 :: o12 :: o13 :: o14 :: o15 :: o16 :: o17 :: o18 :: o19 :: o20 :: some (.own d) :: r, c⟩ (.bor 21) f = f d ⟨o0 :: o1 :: o2 :: o3 :: o4 :: o5 :: o6 :: o7 :: o8 :: o9 :: o10 :: o11 :: o12 :: o13 :: o14 :: o15 :: o16 :: o17 :: o18 :: o19 :: o20 :: some (.dat d) :: r, c⟩ := rfl
theorem rb21 {c : Nat} {r : List (Option SC)} {d : D} {o0 o1 o2 o3 o4 o5 o6 o7 o8 o9 o10 o11 o12 o13 o14 o15 o16 o17 o18 o19 o20 : Option SC} {f : SV → Prop} : rtS ⟨o0 :: o1 :: o2 :: o3 :: o4 :: o5 :: o6 :: o7 :: o8 :: o9 :: o10 :: o11 :: o12 :: o13 :: o14 :: o15 :: o16 :: o17 :: o18 :: o19 :: o20 :: some (.own d) :: r, c⟩ (.bor 21) f = f (.new d) := rfl
theorem v22 {c : Nat} {r : List (Option SC)} {d : D} {o0 o1 o2 o3 o4 o5 o6 o7 o8 o9 o10 o11 o12 o13 o14 o15 o16 o17 o18 o19 o20 o21 : Option SC} {Q : SV → Gm → Prop} : dVar 22 ⟨o0 :: o1 :: o2 :: o3 :: o4 :: o5 :: o6 :: o7 :: o8 :: o9 :: o10 :: o11 :: o12 :: o13 :: o14 :: o15 :: o16 :: o17 :: o18 :: o19 :: o20 :: o21 :: some (.dat d) :: r, c⟩ Q = Q (.dat d) ⟨o0 :: o1 :: o2 :: o3 :: o4 :: o5 :: o6 :: o7 :: o8 :: o9 :: o10 :: o11 :: o12 :: o13 :: o14 :: o15 :: o16 :: o17 :: o18 :: o19 :: o20 :: o21 :: some (.dat d) :: r, c⟩ := rfl
theorem w22 {c : Nat} {r : List (Option SC)} {d : D} {o0 o1 o2 o3 o4 o5 o6 o7 o8 o9 o10 o11 o12 o13 o14 o15 o16 o17 o18 o19 o20 o21 : Option SC} {Q : SV → Gm → Prop} : dVar 22 ⟨o0 :: o1 :: o2 :: o3 :: o4 :: o5 :: o6 :: o7 :: o8 :: o9 :: o10 :: o11 :: o12 :: o13 :: o14 :: o15 :: o16 :: o17 :: o18 :: o19 :: o20 :: o21 :: some (.own d) :: r, c⟩ Q = Q (.bor 22) ⟨o0 :: o1 :: o2 :: o3 :: o4 :: o5 :: o6 :: o7 :: o8 :: o9 :: o10 :: o11 :: o12 :: o13 :: o14 :: o15 :: o16 :: o17 :: o18 :: o19 :: o20 :: o21 :: some (.own d) :: r, c⟩ := rfl
theorem n22 {c : Nat} {r : List (Option SC)} {d : D} {o : Option SC} {o0 o1 o2 o3 o4 o5 o6 o7 o8 o9 o10 o11 o12 o13 o14 o15 o16 o17 o18 o19 o20 o21 : Option SC} {Q : Gm → Prop} : dgName 22 (.dat d) ⟨o0 :: o1 :: o2 :: o3 :: o4 :: o5 :: o6 :: o7 :: o8 :: o9 :: o10 :: o11 :: o12 :: o13 :: o14 :: o15 :: o16 :: o17 :: o18 :: o19 :: o20 :: o21 :: o :: r, c⟩ Q = Q ⟨o0 :: o1 :: o2 :: o3 :: o4 :: o5 :: o6 :: o7 :: o8 :: o9 :: o10 :: o11 :: o12 :: o13 :: o14 :: o15 :: o16 :: o17 :: o18 :: o19 :: o20 :: o21 :: some (.dat d) :: r, c⟩ := rfl
theorem m22 {c : Nat} {r : List (Option SC)} {d : D} {o : Option SC} {o0 o1 o2 o3 o4 o5 o6 o7 o8 o9 o10 o11 o12 o13 o14 o15 o16 o17 o18 o19 o20 o21 : Option SC} {Q : Gm → Prop} : dgName 22 (.new d) ⟨o0 :: o1 :: o2 :: o3 :: o4 :: o5 :: o6 :: o7 :: o8 :: o9 :: o10 :: o11 :: o12 :: o13 :: o14 :: o15 :: o16 :: o17 :: o18 :: o19 :: o20 :: o21 :: o :: r, c⟩ Q = Q ⟨o0 :: o1 :: o2 :: o3 :: o4 :: o5 :: o6 :: o7 :: o8 :: o9 :: o10 :: o11 :: o12 :: o13 :: o14 :: o15 :: o16 :: o17 :: o18 :: o19 :: o20 :: o21 :: some (.own d) :: r, c⟩ := rfl
theorem sb22 {c : Nat} {r : List (Option SC)} {d : D} {o0 o1 o2 o3 o4 o5 o6 o7 o8 o9 o10 o11 o12 o13 o14 o15 o16 o17 o18 o19 o20 o21 : Option SC} {f : D → Prop} : see ⟨o0 :: o1 :: o2 :: o3 :: o4 :: o5 :: o6 :: o7 :: o8 :: o9 :: o10 :: o11 :: o12 :: o13 :: o14 :: o15 :: o16 :: o17 :: o18 :: o19 :: o20 :: o21 :: some (.own d) :: r, c⟩ (.bor 22) f = f d := rfl
theorem fb22 {c : Nat} {r : List (Option SC)} {d : D} {o0 o1 o2 o3 o4 o5 o6 o7 o8 o9 o10 o11 o12 o13 o14 o15 o16 o17 o18 o19 o20 o21 : Option SC} {f : D → Gm → Prop} : frz ⟨o0 :: o1 :: o2 :: o3 :: o4 :: o5 :: o6 :: o7 :: o8 :: o9 :: o10 :: o11 :: o12 :: o13 :: o14 :: o15 :: o16 :: o17 :: o18 :: o19 :: o20 :: o21 :: some (.own d) :: r, c⟩ (.bor 22) f = f d ⟨o0 :: o1 :: o2 :: o3 :: o4 :: o5 :: o6 :: o7 :: o8 :: o9 :: o10 :: o11 :: o12 :: o13 :: o14 :: o15 :: o16 :: o17 :: o18 :: o19 :: o20 :: o21 :: some (.dat d) :: r, c⟩ := rfl
theorem rb22 {c : Nat} {r : List (Option SC)} {d : D} {o0 o1 o2 o3 o4 o5 o6 o7 o8 o9 o10 o11 o12 o13 o14 o15 o16 o17 o18 o19 o20 o21 : Option SC} {f : SV → Prop} : rtS ⟨o0 :: o1 :: o2 :: o3 :: o4 :: o5 :: o6 :: o7 :: o8 :: o9 :: o10 :: o11 :: o12 :: o13 :: o14 :: o15 :: o16 :: o17 :: o18 :: o19 :: o20 :: o21 :: some (.own d) :: r, c⟩ (.bor 22) f = f (.new d) := rfl
theorem v23 {c : Nat} {r : List (Option SC)} {d : D} {o0 o1 o2 o3 o4 o5 o6 o7 o8 o9 o10 o11 o12 o13 o14 o15 o16 o17 o18 o19 o20 o21 o22 : Option SC} {Q : SV → Gm → Prop} : dVar 23 ⟨o0 :: o1 :: o2 :: o3 :: o4 :: o5 :: o6 :: o7 :: o8 :: o9 :: o10 :: o11 :: o12 :: o13 :: o14 :: o15 :: o16 :: o17 :: o18 :: o19 :: o20 :: o21 :: o22 :: some (.dat d) :: r, c⟩ Q = Q (.dat d) ⟨o0 :: o1 :: o2 :: o3 :: o4 :: o5 :: o6 :: o7 :: o8 :: o9 :: o10 :: o11 :: o12 :: o13 :: o14 :: o15 :: o16 :: o17 :: o18 :: o19 :: o20 :: o21 :: o22 :: some (.dat d) :: r, c⟩ := rfl
theorem w23 {c : Nat} {r : List (Option SC)} {d : D} {o0 o1 o2 o3 o4 o5 o6 o7 o8 o9 o10 o11 o12 o13 o14 o15 o16 o17 o18 o19 o20 o21 o22 : Option SC} {Q : SV → Gm → Prop} : dVar 23 ⟨o0 :: o1 :: o2 :: o3 :: o4 :: o5 :: o6 :: o7 :: o8 :: o9 :: o10 :: o11 :: o12 :: o13 :: o14 :: o15 :: o16 :: o17 :: o18 :: o19 :: o20 :: o21 :: o22 :: some (.own d) :: r, c⟩ Q = Q (.bor 23) ⟨o0 :: o1 :: o2 :: o3 :: o4 :: o5 :: o6 :: o7 :: o8 :: o9 :: o10 :: o11 :: o12 :: o13 :: o14 :: o15 :: o16 :: o17 :: o18 :: o19 :: o20 :: o21 :: o22 :: some (.own d) :: r, c⟩ := rfl
theorem n23 {c : Nat} {r : List (Option SC)} {d : D} {o : Option SC} {o0 o1 o2 o3 o4 o5 o6 o7 o8 o9 o10 o11 o12 o13 o14 o15 o16 o17 o18 o19 o20 o21 o22 : Option SC} {Q : Gm → Prop} : dgName 23 (.dat d) ⟨o0 :: o1 :: o2 :: o3 :: o4 :: o5 :: o6 :: o7 :: o8 :: o9 :: o10 :: o11 :: o12 :: o13 :: o14 :: o15 :: o16 :: o17 :: o18 :: o19 :: o20 :: o21 :: o22 :: o :: r, c⟩ Q = Q ⟨o0 :: o1 :: o2 :: o3 :: o4 :: o5 :: o6 :: o7 :: o8 :: o9 :: o10 :: o11 :: o12 :: o13 :: o14 :: o15 :: o16 :: o17 :: o18 :: o19 :: o20 :: o21 :: o22 :: some (.dat d) :: r, c⟩ := rfl
theorem m23 {c : Nat} {r : List (Option SC)} {d : D} {o : Option SC} {o0 o1 o2 o3 o4 o5 o6 o7 o8 o9 o10 o11 o12 o13 o14 o15 o16 o17 o18 o19 o20 o21 o22 : Option SC} {Q : Gm → Prop} : dgName 23 (.new d) ⟨o0 :: o1 :: o2 :: o3 :: o4 :: o5 :: o6 :: o7 :: o8 :: o9 :: o10 :: o11 :: o12 :: o13 :: o14 :: o15 :: o16 :: o17 :: o18 :: o19 :: o20 :: o21 :: o22 :: o :: r, c⟩ Q = Q ⟨o0 :: o1 :: o2 :: o3 :: o4 :: o5 :: o6 :: o7 :: o8 :: o9 :: o10 :: o11 :: o12 :: o13 :: o14 :: o15 :: o16 :: o17 :: o18 :: o19 :: o20 :: o21 :: o22 :: some (.own d) :: r, c⟩ := rfl
theorem sb23 {c : Nat} {r : List (Option SC)} {d : D} {o0 o1 o2 o3 o4 o5 o6 o7 o8 o9 o10 o11 o12 o13 o14 o15 o16 o17 o18 o19 o20 o21 o22 : Option SC} {f : D → Prop} : see ⟨o0 :: o1 :: o2 :: o3 :: o4 :: o5 :: o6 :: o7 :: o8 :: o9 :: o10 :: o11 :: o12 :: o13 :: o14 :: o15 :: o16 :: o17 :: o18 :: o19 :: o20 :: o21 :: o22 :: some (.own d) :: r, c⟩ (.bor 23) f = f d := rfl
theorem fb23 {c : Nat} {r : List (Option SC)} {d : D} {o0 o1 o2 o3 o4 o5 o6 o7 o8 o9 o10 o11 o12 o13 o14 o15 o16 o17 o18 o19 o20 o21 o22 : Option SC} {f : D → Gm → Prop} : frz ⟨o0 :: o1 :: o2 :: o3 :: o4 :: o5 :: o6 :: o7 :: o8 :: o9 :: o10 :: o11 :: o12 :: o13 :: o14 :: o15 :: o16 :: o17 :: o18 :: o19 :: o20 :: o21 :: o22 :: some (.own d) :: r, c⟩ (.bor 23) f = f d ⟨o0 :: o1 :: o2 :: o3 :: o4 :: o5 :: o6 :: o7 :: o8 :: o9 :: o10 :: o11 :: o12 :: o13 :: o14 :: o15 :: o16 :: o17 :: o18 :: o19 :: o20 :: o21 :: o22 :: some (.dat d) :: r, c⟩ := rfl
theorem rb23 {c : Nat} {r : List (Option SC)} {d : D} {o0 o1 o2 o3 o4 o5 o6 o7 o8 o9 o10 o11 o12 o13 o14 o15 o16 o17 o18 o19 o20 o21 o22 : Option SC} {f : SV → Prop} : rtS ⟨o0 :: o1 :: o2 :: o3 :: o4 :: o5 :: o6 :: o7 :: o8 :: o9 :: o10 :: o11 :: o12 :: o13 :: o14 :: o15 :: o16 :: o17 :: o18 :: o19 :: o20 :: o21 :: o22 :: some (.own d) :: r, c⟩ (.bor 23) f = f (.new d) := rfl
theorem v24 {c : Nat} {r : List (Option SC)} {d : D} {o0 o1 o2 o3 o4 o5 o6 o7 o8 o9 o10 o11 o12 o13 o14 o15 o16 o17 o18 o19 o20 o21 o22 o23 : Option SC} {Q : SV → Gm → Prop} : dVar 24 ⟨o0 :: o1 :: o2 :: o3 :: o4 :: o5 :: o6 :: o7 :: o8 :: o9 :: o10 :: o11 :: o12 :: o13 :: o14 :: o15 :: o16 :: o17 :: o18 :: o19 :: o20 :: o21 :: o22 :: o23 :: some (.dat d) :: r, c⟩ Q = Q (.dat d) ⟨o0 :: o1 :: o2 :: o3 :: o4 :: o5 :: o6 :: o7 :: o8 :: o9 :: o10 :: o11 :: o12 :: o13 :: o14 :: o15 :: o16 :: o17 :: o18 :: o19 :: o20 :: o21 :: o22 :: o23 :: some (.dat d) :: r, c⟩ := rfl
theorem w24 {c : Nat} {r : List (Option SC)} {d : D} {o0 o1 o2 o3 o4 o5 o6 o7 o8 o9 o10 o11 o12 o13 o14 o15 o16 o17 o18 o19 o20 o21 o22 o23 : Option SC} {Q : SV → Gm → Prop} : dVar 24 ⟨o0 :: o1 :: o2 :: o3 :: o4 :: o5 :: o6 :: o7 :: o8 :: o9 :: o10 :: o11 :: o12 :: o13 :: o14 :: o15 :: o16 :: o17 :: o18 :: o19 :: o20 :: o21 :: o22 :: o23 :: some (.own d) :: r, c⟩ Q = Q (.bor 24) ⟨o0 :: o1 :: o2 :: o3 :: o4 :: o5 :: o6 :: o7 :: o8 :: o9 :: o10 :: o11 :: o12 :: o13 :: o14 :: o15 :: o16 :: o17 :: o18 :: o19 :: o20 :: o21 :: o22 :: o23 :: some (.own d) :: r, c⟩ := rfl
theorem n24 {c : Nat} {r : List (Option SC)} {d : D} {o : Option SC} {o0 o1 o2 o3 o4 o5 o6 o7 o8 o9 o10 o11 o12 o13 o14 o15 o16 o17 o18 o19 o20 o21 o22 o23 : Option SC} {Q : Gm → Prop} : dgName 24 (.dat d) ⟨o0 :: o1 :: o2 :: o3 :: o4 :: o5 :: o6 :: o7 :: o8 :: o9 :: o10 :: o11 :: o12 :: o13 :: o14 :: o15 :: o16 :: o17 :: o18 :: o19 :: o20 :: o21 :: o22 :: o23 :: o :: r, c⟩ Q = Q ⟨o0 :: o1 :: o2 :: o3 :: o4 :: o5 :: o6 :: o7 :: o8 :: o9 :: o10 :: o11 :: o12 :: o13 :: o14 :: o15 :: o16 :: o17 :: o18 :: o19 :: o20 :: o21 :: o22 :: o23 :: some (.dat d) :: r, c⟩ := rfl
theorem m24 {c : Nat} {r : List (Option SC)} {d : D} {o : Option SC} {o0 o1 o2 o3 o4 o5 o6 o7 o8 o9 o10 o11 o12 o13 o14 o15 o16 o17 o18 o19 o20 o21 o22 o23 : Option SC} {Q : Gm → Prop} : dgName 24 (.new d) ⟨o0 :: o1 :: o2 :: o3 :: o4 :: o5 :: o6 :: o7 :: o8 :: o9 :: o10 :: o11 :: o12 :: o13 :: o14 :: o15 :: o16 :: o17 :: o18 :: o19 :: o20 :: o21 :: o22 :: o23 :: o :: r, c⟩ Q = Q ⟨o0 :: o1 :: o2 :: o3 :: o4 :: o5 :: o6 :: o7 :: o8 :: o9 :: o10 :: o11 :: o12 :: o13 :: o14 :: o15 :: o16 :: o17 :: o18 :: o19 :: o20 :: o21 :: o22 :: o23 :: some (.own d) :: r, c⟩ := rfl
theorem sb24 {c : Nat} {r : List (Option SC)} {d : D} {o0 o1 o2 o3 o4 o5 o6 o7 o8 o9 o10 o11 o12 o13 o14 o15 o16 o17 o18 o19 o20 o21 o22 o23 : Option SC} {f : D → Prop} : see ⟨o0 :: o1 :: o2 :: o3 :: o4 :: o5 :: o6 :: o7 :: o8 :: o9 :: o10 :: o11 :: o12 :: o13 :: o14 :: o15 :: o16 :: o17 :: o18 :: o19 :: o20 :: o21 :: o22 :: o23 :: some (.own d) :: r, c⟩ (.bor 24) f = f d := rfl
theorem fb24 {c : Nat} {r : List (Option SC)} {d : D} {o0 o1 o2 o3 o4 o5 o6 o7 o8 o9 o10 o11 o12 o13 o14 o15 o16 o17 o18 o19 o20 o21 o22 o23 : Option SC} {f : D → Gm → Prop} : frz ⟨o0 :: o1 :: o2 :: o3 :: o4 :: o5 :: o6 :: o7 :: o8 :: o9 :: o10 :: o11 :: o12 :: o13 :: o14 :: o15 :: o16 :: o17 :: o18 :: o19 :: o20 :: o21 :: o22 :: o23 :: some (.own d) :: r, c⟩ (.bor 24) f = f d ⟨o0 :: o1 :: o2 :: o3 :: o4 :: o5 :: o6 :: o7 :: o8 :: o9 :: o10 :: o11 :: o12 :: o13 :: o14 :: o15 :: o16 :: o17 :: o18 :: o19 :: o20 :: o21 :: o22 :: o23 :: some (.dat d) :: r, c⟩ := rfl
theorem rb24 {c : Nat} {r : List (Option SC)} {d : D} {o0 o1 o2 o3 o4 o5 o6 o7 o8 o9 o10 o11 o12 o13 o14 o15 o16 o17 o18 o19 o20 o21 o22 o23 : Option SC} {f : SV → Prop} : rtS ⟨o0 :: o1 :: o2 :: o3 :: o4 :: o5 :: o6 :: o7 :: o8 :: o9 :: o10 :: o11 :: o12 :: o13 :: o14 :: o15 :: o16 :: o17 :: o18 :: o19 :: o20 :: o21 :: o22 :: o23 :: some (.own d) :: r, c⟩ (.bor 24) f = f (.new d) := rfl
theorem v25 {c : Nat} {r : List (Option SC)} {d : D} {o0 o1 o2 o3 o4 o5 o6 o7 o8 o9 o10 o11 o12 o13 o14 o15 o16 o17 o18 o19 o20 o21 o22 o23 o24 : Option SC} {Q : SV → Gm → Prop} : dVar 25 ⟨o0 :: o1 :: o2 :: o3 :: o4 :: o5 :: o6 :: o7 :: o8 :: o9 :: o10 :: o11 :: o12 :: o13 :: o14 :: o15 :: o16 :: o17 :: o18 :: o19 :: o20 :: o21 :: o22 :: o23 :: o24 :: some (.dat d) :: r, c⟩ Q = Q (.dat d) ⟨o0 :: o1 :: o2 :: o3 :: o4 :: o5 :: o6 :: o7 :: o8 :: o9 :: o10 :: o11 :: o12 :: o13 :: o14 :: o15 :: o16 :: o17 :: o18 :: o19 :: o20 :: o21 :: o22 :: o23 :: o24 :: some (.dat d) :: r, c⟩ := rfl
theorem w25 {c : Nat} {r : List (Option SC)} {d : D} {o0 o1 o2 o3 o4 o5 o6 o7 o8 o9 o10 o11 o12 o13 o14 o15 o16 o17 o18 o19 o20 o21 o22 o23 o24 : Option SC} {Q : SV → Gm → Prop} : dVar 25 ⟨o0 :: o1 :: o2 :: o3 :: o4 :: o5 :: o6 :: o7 :: o8 :: o9 :: o10 :: o11 :: o12 :: o13 :: o14 :: o15 :: o16 :: o17 :: o18 :: o19 :: o20 :: o21 :: o22 :: o23 :: o24 :: some (.own d) :: r, c⟩ Q = Q (.bor 25) ⟨o0 :: o1 :: o2 :: o3 :: o4 :: o5 :: o6 :: o7 :: o8 :: o9 :: o10 :: o11 :: o12 :: o13 :: o14 :: o15 :: o16 :: o17 :: o18 :: o19 :: o20 :: o21 :: o22 :: o23 :: o24 :: some (.own d) :: r, c⟩ := rfl
theorem n25 {c : Nat} {r : List (Option SC)} {d : D} {o : Option SC} {o0 o1 o2 o3 o4 o5 o6 o7 o8 o9 o10 o11 o12 o13 o14 o15 o16 o17 o18 o19 o20 o21 o22 o23 o24 : Option SC} {Q : Gm → Prop} : dgName 25 (.dat d) ⟨o0 :: o1 :: o2 :: o3 :: o4 :: o5 :: o6 :: o7 :: o8 :: o9 :: o10 :: o11 :: o12 :: o13 :: o14 :: o15 :: o16 :: o17 :: o18 :: o19 :: o20 :: o21 :: o22 :: o23 :: o24 :: o :: r, c⟩ Q = Q ⟨o0 :: o1 :: o2 :: o3 :: o4 :: o5 :: o6 :: o7 :: o8 :: o9 :: o10 :: o11 :: o12 :: o13 :: o14 :: o15 :: o16 :: o17 :: o18 :: o19 :: o20 :: o21 :: o22 :: o23 :: o24 :: some (.dat d) :: r, c⟩ := rfl
theorem m25 {c : Nat} {r : List (Option SC)} {d : D} {o : Option SC} {o0 o1 o2 o3 o4 o5 o6 o7 o8 o9 o10 o11 o12 o13 o14 o15 o16 o17 o18 o19 o20 o21 o22 o23 o24 : Option SC} {Q : Gm → Prop} : dgName 25 (.new d) ⟨o0 :: o1 :: o2 :: o3 :: o4 :: o5 :: o6 :: o7 :: o8 :: o9 :: o10 :: o11 :: o12 :: o13 :: o14 :: o15 :: o16 :: o17 :: o18 :: o19 :: o20 :: o21 :: o22 :: o23 :: o24 :: o :: r, c⟩ Q = Q ⟨o0 :: o1 :: o2 :: o3 :: o4 :: o5 :: o6 :: o7 :: o8 :: o9 :: o10 :: o11 :: o12 :: o13 :: o14 :: o15 :: o16 :: o17 :: o18 :: o19 :: o20 :: o21 :: o22 :: o23 :: o24 :: some (.own d) :: r, c⟩ := rfl
theorem sb25 {c : Nat} {r : List (Option SC)} {d : D} {o0 o1 o2 o3 o4 o5 o6 o7 o8 o9 o10 o11 o12 o13 o14 o15 o16 o17 o18 o19 o20 o21 o22 o23 o24 : Option SC} {f : D → Prop} : see ⟨o0 :: o1 :: o2 :: o3 :: o4 :: o5 :: o6 :: o7 :: o8 :: o9 :: o10 :: o11 :: o12 :: o13 :: o14 :: o15 :: o16 :: o17 :: o18 :: o19 :: o20 :: o21 :: o22 :: o23 :: o24 :: some (.own d) :: r, c⟩ (.bor 25) f = f d := rfl
theorem fb25 {c : Nat} {r : List (Option SC)} {d : D} {o0 o1 o2 o3 o4 o5 o6 o7 o8 o9 o10 o11 o12 o13 o14 o15 o16 o17 o18 o19 o20 o21 o22 o23 o24 : Option SC} {f : D → Gm → Prop} : frz ⟨o0 :: o1 :: o2 :: o3 :: o4 :: o5 :: o6 :: o7 :: o8 :: o9 :: o10 :: o11 :: o12 :: o13 :: o14 :: o15 :: o16 :: o17 :: o18 :: o19 :: o20 :: o21 :: o22 :: o23 :: o24 :: some (.own d) :: r, c⟩ (.bor 25) f = f d ⟨o0 :: o1 :: o2 :: o3 :: o4 :: o5 :: o6 :: o7 :: o8 :: o9 :: o10 :: o11 :: o12 :: o13 :: o14 :: o15 :: o16 :: o17 :: o18 :: o19 :: o20 :: o21 :: o22 :: o23 :: o24 :: some (.dat d) :: r, c⟩ := rfl
theorem rb25 {c : Nat} {r : List (Option SC)} {d : D} {o0 o1 o2 o3 o4 o5 o6 o7 o8 o9 o10 o11 o12 o13 o14 o15 o16 o17 o18 o19 o20 o21 o22 o23 o24 : Option SC} {f : SV → Prop} : rtS ⟨o0 :: o1 :: o2 :: o3 :: o4 :: o5 :: o6 :: o7 :: o8 :: o9 :: o10 :: o11 :: o12 :: o13 :: o14 :: o15 :: o16 :: o17 :: o18 :: o19 :: o20 :: o21 :: o22 :: o23 :: o24 :: some (.own d) :: r, c⟩ (.bor 25) f = f (.new d) := rfl
/-! sources -/
section
variable {r : List (Option SC)} {c : Nat} {Q : SV → Gm → Prop} {E : DEnds} {e : DE} {i k : Nat} {G : Gm} {v y z : Int} {L : List (Option SC)}
theorem s_0 : dSrcIx 0 0 ⟨some (.dat .src) :: r, c⟩ Q = ∀ v : Int, Q (.dat (.int v)) ⟨some (.dat .src) :: r, c⟩ := by
  refine propext ⟨fun h v => h.2.2 v (fun h => by cases h) (fun h => by cases h), fun h => ⟨rfl, by decide, fun v _ _ => h v⟩⟩
theorem s_1 : dSrcIx 0 1 ⟨some (.dat .src) :: r, c⟩ Q = ∀ v : Int, 0 ≤ v → v < 10 ^ 50 → Q (.dat (.int v)) ⟨some (.dat .src) :: r, c⟩ := by
  refine propext ⟨fun h v a b => h.2.2 v (fun _ => ⟨a, b⟩) (fun h => by cases h), fun h => ⟨rfl, by decide, fun v a _ => h v (a rfl).1 (a rfl).2⟩⟩
theorem s_2 : dSrcIx 0 2 ⟨some (.dat .src) :: r, c⟩ Q = ∀ v : Int, 0 ≤ v → v ≤ c → Q (.dat (.int v)) ⟨some (.dat .src) :: r, c⟩ := by
  refine propext ⟨fun h v a b => h.2.2 v (fun h => by cases h) (fun _ => ⟨a, b⟩), fun h => ⟨rfl, by decide, fun v _ a => h v (a rfl).1 (a rfl).2⟩⟩
def srcW (i k : Nat) (E : DEnds) (G1 : Gm) (d : D) : Prop := gg G1 i = some (.dat .src) ∧ match d with
  | .int v => (k = 0 ∧ E.nx G1) ∨ (k = 2 ∧ 0 ≤ v ∧ v ≤ G1.c + 1 ∧ E.nx (G1.at (G1.c + 1)))
  | _ => False
theorem s_s : dSrcSet i k e E G = e G fun sv G1 => see G1 sv (srcW i k E G1) := rfl
theorem s_w0 : srcW 0 0 E ⟨some (.dat .src) :: r, c⟩ (.int v) = E.nx ⟨some (.dat .src) :: r, c⟩ := by
  refine propext ⟨fun h => ?_, fun h => ⟨rfl, .inl ⟨rfl, h⟩⟩⟩
  rcases h.2 with h | h
  · exact h.2
  · exact absurd h.1 (by decide)
theorem s_w2 : srcW 0 2 E ⟨some (.dat .src) :: r, c⟩ (.int v) = (0 ≤ v ∧ v ≤ c + 1 ∧ E.nx ⟨some (.dat .src) :: r, c + 1⟩) := by
  refine propext ⟨fun h => ?_, fun h => ⟨rfl, .inr ⟨rfl, h⟩⟩⟩
  rcases h.2 with h | h
  · exact absurd h.1 (by decide)
  · exact h.2
def srcK (Q : SV → Gm → Prop) (sv : SV) (G1 : Gm) : Prop := ∃ x y z : Int, sv = .new (.lst [.int x, .int y, .int z]) ∧ 0 ≤ y ∧ y < 10 ^ 50 ∧ 0 ≤ z ∧ z ≤ G1.c ∧ Q (.dat .src) G1
theorem s_e : dSrcE e G Q = e G (srcK Q) := rfl
theorem s_k {x : Int} (h : 0 ≤ y ∧ y < 10 ^ 50 ∧ Q (.dat .src) ⟨L, c⟩) : srcK Q (.new (.lst [.int x, .int y, .int 0])) ⟨L, c⟩ := ⟨x, y, 0, rfl, h.1, h.2.1, Int.le_refl _, by simp, h.2.2⟩
end
section
variable {as : DA} {G : Gm} {Qa : List D → Gm → Prop} {x y : Int} {d : D} {ds : List D}
def rng1K (Qa : List D → Gm → Prop) (ds : List D) (G1 : Gm) : Prop := (dRng1 (fun G Q => Q ds G)) G1 Qa
theorem x_rng1 : dRng1 as G Qa = as G (rng1K Qa) := rfl
def rng2K (Qa : List D → Gm → Prop) (ds : List D) (G1 : Gm) : Prop := (dRng2 (fun G Q => Q ds G)) G1 Qa
theorem x_rng2 : dRng2 as G Qa = as G (rng2K Qa) := rfl
def enuK (Qa : List D → Gm → Prop) (ds : List D) (G1 : Gm) : Prop := (dEnum (fun G Q => Q ds G)) G1 Qa
theorem x_enu : dEnum as G Qa = as G (enuK Qa) := rfl
theorem x_aslsl {f : List D → Prop} : dEnum.asLs (.lst ds) f = f ds := rfl
end
section
variable {G : Gm} {Qa : List D → Gm → Prop} {x y : Int} {ds : List D}
theorem x_r1 : rng1K Qa [.int x] G = ((-(2 ^ 62) ≤ x ∧ x < 2 ^ 62) ∧ Qa (rangeD 0 x.toNat) G) := by
  show ((-(2 ^ 62) ≤ x ∧ x < 2 ^ 62) ∧ ([D.int x]).length = 1 ∧ _) = _
  simp
theorem x_r2 : rng2K Qa [.int x, .int y] G = ((-(2 ^ 62) ≤ x ∧ x < 2 ^ 62 ∧ -(2 ^ 62) ≤ y ∧ y < 2 ^ 62) ∧ Qa (rangeD x (y - x).toNat) G) := by
  show ((-(2 ^ 62) ≤ x ∧ x < 2 ^ 62 ∧ -(2 ^ 62) ≤ y ∧ y < 2 ^ 62) ∧ ([D.int x, D.int y]).length = 2 ∧ _) = _
  simp
theorem x_e1 : enuK Qa [.lst ds] G = Qa (enumD 0 ds) G := by
  show (([] : List D) = [] ∧ _) = _
  simp [dEnum.asLs]
theorem rangeD_mem : ∀ {n : Nat} {x : Int} {d : D}, d ∈ rangeD x n → ∃ y, d = .int y ∧ x ≤ y ∧ y < x + n
  | 0, _, _, h => by cases h
  | n + 1, x, d, h => by
    rw [rangeD] at h
    rcases List.mem_cons.mp h with rfl | h
    · exact ⟨x, rfl, by omega, by omega⟩
    · obtain ⟨y, rfl, h1, h2⟩ := rangeD_mem h
      exact ⟨y, rfl, by omega, by omega⟩
end
theorem rg_1 : rangeD 0 1 = [.int 0] := rfl
theorem rg_2 : rangeD 0 2 = [.int 0, .int 1] := rfl
theorem rg_3 : rangeD 0 3 = [.int 0, .int 1, .int 2] := rfl
theorem en_0 {k : Int} : enumD k [] = [] := rfl
theorem en_c {k : Int} {d : D} {r : List D} : enumD k (d :: r) = .tup [.int k, d] :: enumD (k + 1) r := rfl
theorem x_inl {d : D} {ds : List D} {q : SV → Prop} : dIn d (.lst ds) q = (Pl 20 d ∧ Pl 20 (.lst ds) ∧ q (.dat (.bl (ds.any fun z => eqD z d)))) := rfl
theorem x_rep {d : D} {q : SV → Prop} : dRepr d q = (Pd 20 d ∧ (toPy d).showable = true ∧ (shownD d).length ≤ sizeLine ∧ q (.dat (.str (shownD d)))) := rfl

/-! ### a dict is walked: it stands locked so long -/
def keyD : Key → D
  | .inl i => .int i
  | .inr x => .str x
theorem rpl_keys {K : PySem.W.Frag} {W : Wd} : ∀ ks : List Key, RpL K W (ks.map keyD) (ks.map kV)
  | [] => rfl
  | k :: ks => ⟨kV k, ks.map kV, rfl, by cases k <;> rfl, rpl_keys ks⟩
/-- worlds that tell the same, but for locks -/
structure Wd.le2 (K : PySem.W.Frag) (W W' : Wd) : Prop where
  t : ∀ a xs, W.F a = some (.tup xs) → W'.F a = some (.tup xs)
  l : ∀ a xs, W.F a = some (.lst xs) → W'.F a = some (.lst xs)
  i : ∀ a C dx gs, W.F a = some (.ins C dx gs) → W'.F a = some (.ins C dx gs)
  q : ∀ a xs, SqL K W.F a xs → SqL K W'.F a xs
  dt : ∀ a kvs, Rd W.F a (.dT kvs) → Rd W'.F a (.dT kvs)
  dk : ∀ a kvs, Rd W.F a (.dK kvs) → Rd W'.F a (.dK kvs)
  s : ∀ a, W.S a → W'.S a
section
variable {K : PySem.W.Frag} {W W' : Wd}
mutual
theorem Rp.mono2 (l : W.le2 K W') : ∀ (d : D) (v : V), Rp K W d v → Rp K W' d v
  | .non, _, h => h
  | .bl _, _, h => h
  | .int _, _, h => h
  | .str _, _, h => h
  | .ty _, _, h => h
  | .ref _, _, h => h
  | .src, _, h => by obtain ⟨a, e, h⟩ := h; exact ⟨a, e, l.s a h⟩
  | .tup ds, _, h => by obtain ⟨a, xs, e, s, r⟩ := h; exact ⟨a, xs, e, l.t _ _ s, RpL.mono2 l ds xs r⟩
  | .scr ns, _, h => by obtain ⟨a, e, s⟩ := h; exact ⟨a, e, l.q _ _ s⟩
  | .lst ds, _, h => by obtain ⟨a, xs, e, s, r⟩ := h; exact ⟨a, xs, e, l.l _ _ s, RpL.mono2 l ds xs r⟩
  | .dT ds, _, h => by obtain ⟨a, xs, e, s, r⟩ := h; exact ⟨a, xs, e, l.dt _ _ s, RpT.mono2 l ds xs r⟩
  | .dK ds, _, h => by obtain ⟨a, xs, e, s, r⟩ := h; exact ⟨a, xs, e, l.dk _ _ s, RpK.mono2 l ds xs r⟩
  | .ins C fs, _, h => by obtain ⟨a, dx, xs, e, s, r⟩ := h; exact ⟨a, dx, xs, e, l.i _ _ _ _ s, RpF.mono2 l fs xs r⟩
theorem RpL.mono2 (l : W.le2 K W') : ∀ (d : List D) (v : List V), RpL K W d v → RpL K W' d v
  | [], _, h => h
  | d :: ds, _, h => by obtain ⟨v, r, e, h, t⟩ := h; exact ⟨v, r, e, Rp.mono2 l d v h, RpL.mono2 l ds r t⟩
theorem RpT.mono2 (l : W.le2 K W') : ∀ (d : List (List Key × D)) (v : List (List Key × V)), RpT K W d v → RpT K W' d v
  | [], _, h => h
  | (_, d) :: ds, _, h => by obtain ⟨v, r, e, h, t⟩ := h; exact ⟨v, r, e, Rp.mono2 l d v h, RpT.mono2 l ds r t⟩
theorem RpK.mono2 (l : W.le2 K W') : ∀ (d : List (Key × D)) (v : List (Key × V)), RpK K W d v → RpK K W' d v
  | [], _, h => h
  | (_, d) :: ds, _, h => by obtain ⟨v, r, e, h, t⟩ := h; exact ⟨v, r, e, Rp.mono2 l d v h, RpK.mono2 l ds r t⟩
theorem RpF.mono2 (l : W.le2 K W') : ∀ (d : List (Str × D)) (v : List (Str × V)), RpF K W d v → RpF K W' d v
  | [], _, h => h
  | (_, d) :: ds, _, h => by obtain ⟨v, r, e, h, t⟩ := h; exact ⟨v, r, e, Rp.mono2 l d v h, RpF.mono2 l ds r t⟩
end
theorem RO.mono2 (l : W.le2 K W') {o : HO} {d : D} (h : RO K W o d) : RO K W' o d := by
  cases o <;> cases d <;> first | exact False.elim h | exact RpL.mono2 l _ _ h | exact RpT.mono2 l _ _ h | exact RpK.mono2 l _ _ h | exact ⟨h.1, RpF.mono2 l _ _ h.2⟩
/-- a dict -/
def DicO : HO → Prop
  | .dT _ => True
  | .dK _ => True
  | _ => False
/-- the dict u, locked or not -/
def Lck (u o : HO) : Prop := o = u ∨ ∃ od, o = .frz od u
def lckW (W : Wd) (a : Addr) (o : HO) : Wd := ⟨upd W.F a o, W.S⟩
theorem lck_le2 {a : Addr} {u o o' : HO} (du : DicO u) (e : W.F a = some o) (h : Lck u o) (h' : Lck u o') : W.le2 K (lckW W a o') := by
  have ne : ∀ {b v}, W.F b = some v → ¬ Lck u v → b ≠ a := fun {b v} q n z => by subst z; rw [e] at q; cases q; exact n h
  have keep : ∀ {b v}, W.F b = some v → ¬ Lck u v → (lckW W a o').F b = some v := fun {b v} q n => by
    show upd W.F a o' b = _
    rw [upd_ne (ne q n)]; exact q
  have nl : ∀ {v}, (∀ od u', v ≠ HO.frz od u') → ¬ DicO v → ¬ Lck u v := fun {v} n1 n2 z => by
    rcases z with rfl | ⟨od, rfl⟩
    · exact n2 du
    · exact n1 _ _ rfl
  have rdd : ∀ b v, DicO v → Rd W.F b v → Rd (lckW W a o').F b v := fun b v dv q => by
    by_cases hb : b = a
    · subst hb
      have hu : v = u := by
        rcases q with q | ⟨od, q⟩
        · rw [e] at q; cases q
          rcases h with rfl | ⟨od, rfl⟩
          · rfl
          · exact dv.elim
        · rw [e] at q; cases q
          rcases h with rfl | ⟨od, z⟩
          · exact du.elim
          · cases z; rfl
      subst hu
      rcases h' with rfl | ⟨od, rfl⟩
      · exact .inl upd_same
      · exact .inr ⟨od, upd_same⟩
    · exact q.imp (fun q => by show upd W.F a o' b = _; rw [upd_ne hb]; exact q) fun ⟨od, q⟩ => ⟨od, by show upd W.F a o' b = _; rw [upd_ne hb]; exact q⟩
  refine ⟨fun b xs q => keep q (nl (fun _ _ z => nomatch z) id), fun b xs q => keep q (nl (fun _ _ z => nomatch z) id), fun b C dx gs q => keep q (nl (fun _ _ z => nomatch z) id), fun b xs q => ?_, fun b kvs q => rdd b _ trivial q, fun b kvs q => rdd b _ trivial q, fun _ h => h⟩
  refine q.imp (fun q => q.imp (fun q => keep q (nl (fun _ _ z => nomatch z) id)) fun ⟨od, q⟩ => ⟨od, keep q ?_⟩) id
  rintro (z | ⟨od', z⟩)
  · subst z; exact du
  · cases z; exact du
variable {P : Hp} {G : Gm} {σ : St} {H : Hp}
/-- a lock is put on or taken off -/
theorem Rl.lck (R : Rl K W P G σ H) {a : Addr} {u o o' : HO} (du : DicO u) (e : W.F a = some o) (h : Lck u o) (h' : Lck u o') : Rl K (lckW W a o') P G σ (upd H a o') := by
  have l := lck_le2 (K := K) du e h h'
  have nF : ∀ {p}, W.F p = none → p ≠ a := fun {p} q z => by subst z; rw [e] at q; cases q
  have kF : ∀ {p}, W.F p = none → (lckW W a o').F p = none := fun {p} q => by show upd W.F a o' p = none; rw [upd_ne (nF q)]; exact q
  refine ⟨R.len, fun b v q => ?_, fun b hb => ?_, fun p v q => ?_, fun i d q => ?_, fun i d q => ?_, R.sep, R.pnt⟩
  · have q : upd W.F a o' b = some v := q
    by_cases hb : b = a
    · subst hb; rw [upd_same] at q ⊢; exact q
    · rw [upd_ne hb] at q ⊢; exact R.le b v q
  · obtain ⟨h1, h2, x, y, z, h3, h4⟩ := R.src b hb
    exact ⟨kF h1, h2, x, y, z, by rw [upd_ne (nF h1)]; exact h3, h4⟩
  · obtain ⟨h1, h2⟩ := R.prot p v q
    exact ⟨by rw [upd_ne (nF h2)]; exact h1, kF h2⟩
  · obtain ⟨v, h1, h2⟩ := R.dat i d q
    exact ⟨v, h1, Rp.mono2 l _ _ h2⟩
  · obtain ⟨p, v, h1, h2, h3⟩ := R.own i d q
    exact ⟨p, v, h1, ⟨by rw [upd_ne (nF h2.f)]; exact h2.at_, kF h2.f, h2.s, h2.n⟩, h3.mono2 l⟩
theorem RV.lck {a : Addr} {u o o' : HO} (du : DicO u) (e : W.F a = some o) (h : Lck u o) (h' : Lck u o') {sv : SV} {v : V} (r : RV K W P G σ H sv v) : RV K (lckW W a o') P G σ (upd H a o') sv v := by
  have l := lck_le2 (K := K) du e h h'
  have nF : ∀ {p}, W.F p = none → p ≠ a := fun {p} q z => by subst z; rw [e] at q; cases q
  cases sv with
  | dat d => exact Rp.mono2 l _ _ r
  | bor i => exact r
  | new d =>
    obtain ⟨p, v, e1, h2, h3, h4⟩ := r
    exact ⟨p, v, e1, ⟨by rw [upd_ne (nF h2.f)]; exact h2.at_, by show upd W.F a o' p = none; rw [upd_ne (nF h2.f)]; exact h2.f, h2.s, h2.n⟩, h3.mono2 l, h4⟩
/-- a tuple that stands anywhere counts as frozen -/
theorem Rl.tupAt (R : Rl K W P G σ H) {q : Addr} {xs : List V} {ds : List D} (e : H q = some (.tup xs)) (r : RpL K W ds xs) : ∃ W', W.le W' ∧ Rl K W' P G σ H ∧ Rp K W' (.tup ds) (.ref q) := by
  cases f : W.F q with
  | some o =>
    have := R.le _ _ f
    rw [e] at this; cases this
    exact ⟨W, .refl W, R, q, xs, rfl, f, r⟩
  | none =>
    have l : W.le ⟨upd W.F q (.tup xs), W.S⟩ := ⟨fun b u z => by
      show upd W.F q _ b = _
      rw [upd_ne (ne_of_none z f)]; exact z, fun _ h => h⟩
    have nq : ∀ {p o}, H p = some o → (∀ xs, o ≠ .tup xs) → W.F p = none → upd W.F q (.tup xs) p = none := fun {p o} h n z => by
      rw [upd_ne fun y => by subst y; rw [e] at h; cases h; exact n _ rfl]; exact z
    refine ⟨⟨upd W.F q (.tup xs), W.S⟩, l, ⟨R.len, fun b u z => ?_, fun a h => ?_, fun p u z => ?_, fun i d z => ?_, fun i d z => ?_, R.sep, R.pnt⟩, q, xs, rfl, upd_same, RpL.mono l _ _ r⟩
    · have z : upd W.F q (.tup xs) b = some u := z
      by_cases hb : b = q
      · subst hb; rw [upd_same] at z; cases z; exact e
      · rw [upd_ne hb] at z; exact R.le b u z
    · obtain ⟨h1, h2, x, y, z, h3, h4⟩ := R.src a h
      exact ⟨nq h3 (fun _ z => nomatch z) h1, h2, x, y, z, h3, h4⟩
    · obtain ⟨h1, h2⟩ := R.prot p u z
      exact ⟨h1, nq h1 (fun xs y => R.pnt p xs (by rw [z, y])) h2⟩
    · obtain ⟨v, h1, h2⟩ := R.dat i d z
      exact ⟨v, h1, Rp.mono l _ _ h2⟩
    · obtain ⟨p, o, h1, h2, h3⟩ := R.own i d z
      exact ⟨p, o, h1, ⟨h2.at_, nq h2.at_ h3.nt h2.f, h2.s, h2.n⟩, h3.mono l⟩
/-! ### what is walked of it -/
def keysT (es : List (List Key × D)) : List D := es.map fun kv => .tup (kv.1.map keyD)
def keysK (es : List (Key × D)) : List D := es.map fun kv => keyD kv.1
theorem RpT.at : ∀ {es : List (List Key × D)} {kvs : List (List Key × V)} {i : Nat} {k : List Key} {d : D}, RpT K W es kvs → es[i]? = some (k, d) → ∃ v, kvs[i]? = some (k, v) ∧ Rp K W d v
  | (k', d') :: es, _, 0, _, _, h, e => by obtain ⟨v, r, rfl, h1, _⟩ := h; cases e; exact ⟨v, rfl, h1⟩
  | (k', d') :: es, _, i + 1, _, _, h, e => by obtain ⟨v, r, rfl, _, h2⟩ := h; exact RpT.at (i := i) h2 e
theorem RpK.at : ∀ {es : List (Key × D)} {kvs : List (Key × V)} {i : Nat} {k : Key} {d : D}, RpK K W es kvs → es[i]? = some (k, d) → ∃ v, kvs[i]? = some (k, v) ∧ Rp K W d v
  | (k', d') :: es, _, 0, _, _, h, e => by obtain ⟨v, r, rfl, h1, _⟩ := h; cases e; exact ⟨v, rfl, h1⟩
  | (k', d') :: es, _, i + 1, _, _, h, e => by obtain ⟨v, r, rfl, _, h2⟩ := h; exact RpK.at (i := i) h2 e
theorem walks_keysT {p : Addr} {od : Obj} {kvs : List (List Key × V)} {es : List (List Key × D)} (e : W.F p = some (.frz od (.dT kvs))) (r : RpT K W es kvs) : Walks K W (Itkt p od kvs) (keysT es) := by
  intro W' P G σ H i l R
  have e' : H p = some (.frz od (.dT kvs)) := R.le _ _ (l.f _ _ e)
  have hlen := r.len
  refine ⟨fun d hd => ?_, fun hi => ⟨e', by unfold keysT at hi; rw [List.length_map] at hi; omega⟩⟩
  unfold keysT at hd
  rw [List.getElem?_map] at hd
  obtain ⟨⟨k, d0⟩, hk, rfl⟩ := Option.map_eq_some_iff.mp hd
  have hi : i < es.length := (List.getElem?_eq_some_iff.mp hk).1
  obtain ⟨v0, hv0, _⟩ := r.at hk
  refine ⟨⟨e', by omega⟩, fun x H' ⟨h1, k', v, q, h2, h3, h4⟩ => ?_⟩
  subst h1 h3
  rw [hv0] at h2; cases h2
  exact R.tupAt h4 (rpl_keys k)
theorem walks_keysK {p : Addr} {od : Obj} {kvs : List (Key × V)} {es : List (Key × D)} (e : W.F p = some (.frz od (.dK kvs))) (r : RpK K W es kvs) : Walks K W (Itk p od kvs) (keysK es) := by
  intro W' P G σ H i l R
  have e' : H p = some (.frz od (.dK kvs)) := R.le _ _ (l.f _ _ e)
  have hlen := r.len
  refine ⟨fun d hd => ?_, fun hi => ⟨e', by unfold keysK at hi; rw [List.length_map] at hi; omega⟩⟩
  unfold keysK at hd
  rw [List.getElem?_map] at hd
  obtain ⟨⟨k, d0⟩, hk, rfl⟩ := Option.map_eq_some_iff.mp hd
  have hi : i < es.length := (List.getElem?_eq_some_iff.mp hk).1
  obtain ⟨v0, hv0, _⟩ := r.at hk
  refine ⟨⟨e', by omega⟩, fun x H' ⟨h1, k', v, h2, h3⟩ => ?_⟩
  subst h1 h3
  rw [hv0] at h2; cases h2
  exact ⟨W', .refl W', R, by cases k <;> rfl⟩
/-- the dict in the slot i, its items in sequence -/
def keysD (d : D) (k : List D → Prop) : Prop := match d with
  | .dT es => k (keysT es)
  | .dK es => k (keysK es)
  | _ => False
def dKeys (i : Nat) : DI := fun G Q => frz G (.bor i) fun d G1 => keysD d fun ds => Q ds G1
theorem Rl.frzAt (R : Rl K W P G σ H) {i : Nat} {k : D → Gm → Prop} (t : LD.frz G (.bor i) k) : ∃ v W' d G', σ[i]? = some (some v) ∧ W.le W' ∧ Rl K W' P G' σ H ∧ Rp K W' d v ∧ k d G' := by
  cases e : gg G i with
  | none => unfold LD.frz at t; simp only [e] at t
  | some x =>
    cases x with
    | dat d =>
      unfold LD.frz at t; simp only [e] at t
      obtain ⟨v, h1, h2⟩ := R.dat i d e
      exact ⟨v, W, d, G, h1, .refl W, R, h2, t⟩
    | own d =>
      obtain ⟨p, o, h1, _⟩ := R.own i d e
      obtain ⟨W', d', G', l, R', r', q⟩ := R.frz (sv := .bor i) (v := .ref p) ⟨h1, d, e⟩ t
      exact ⟨_, W', d', G', h1, l, R', r', q⟩
theorem lck_back {W0 : Wd} {a : Addr} {u o : HO} (l : W0.le W) (f : W.F a = some u) (l2 : (lckW W a o).le W') : W0.le (lckW W' a u) := ⟨fun b v q => by
  show upd W'.F a u b = some v
  have q := l.f b v q
  by_cases hb : b = a
  · subst hb; rw [upd_same, ← f, q]
  · rw [upd_ne hb]
    exact l2.f b v (by show upd W.F a o b = some v; rw [upd_ne hb]; exact q), fun b h => l2.s b (l.s b h)⟩
end
theorem PE.or {X : Cx} {e : Expr} {t u : TE} (h : PE X e t) (g : PE X e u) : PE X e (fun σ H Q => t σ H Q ∨ u σ H Q) := ⟨fun pins s σ H Q I q => q.elim (h.run pins s σ H Q I) (g.run pins s σ H Q I)⟩
theorem PS.or {X : Cx} {e : Stmt} {t u : TS} (h : PS X e t) (g : PS X e u) : PS X e (fun D σ H => t D σ H ∨ u D σ H) := ⟨fun pins s σ H Q I q => q.elim (h.run pins s σ H Q I) (g.run pins s σ H Q I)⟩
section
variable {X : Cx} {K : PySem.W.Frag} {W : Wd} {P : Hp} {G : Gm} {σ : St} {H : Hp} {tg elt : Expr} {pos : Pos}
/-- the walk, of a locked dict or of one that is locked for it -/
theorem lck_E {i : Nat} {B : (Qv : VK) → It → Hp → Prop} {Qv : VK} {f : List D → Gm → Prop} {Q : DQ}
    (h : ∃ G, ∃ R0 : ∃ W P, Rl K W P G σ H ∧ (∀ W' sv G' v H', W.le W' → Rl K W' P G' σ H' → RV K W' P G' σ H' sv v → Q sv G' → Qv v H') ∧
        (∀ (Qv : VK) W1 G1 H1 J ds, Rl K W1 P G1 σ H1 → Walks K W1 J ds → f ds G1 → (∀ W' sv G' v H', W1.le W' → Rl K W' P G' σ H' → RV K W' P G' σ H' sv v → Q sv G' → Qv v H') → B Qv J H1), dKeys i G f) :
    tLockE (fun σ H Qv => iKeys (tVar i) σ H fun J H1 => B Qv J H1) σ H Qv ∨ iKeys (tVar i) σ H fun J H1 => B Qv J H1 := by
  obtain ⟨G, ⟨W, P, R, k, b⟩, t⟩ := h
  obtain ⟨v, W1, d, G1, e, l1, R1, r1, q1⟩ := R.frzAt t
  cases d <;> first | exact False.elim q1 | skip
  · obtain ⟨a, kvs, rfl, f1 | ⟨od, f1⟩, r⟩ := r1
    · refine .inl ⟨a, .dT kvs, R1.le _ _ f1, trivial, fun od => ?_⟩
      have RL := R1.lck (u := .dT kvs) (o' := .frz od (.dT kvs)) trivial f1 (.inl rfl) (.inr ⟨od, rfl⟩)
      refine ⟨.ref a, e, a, od, rfl, .inr ⟨kvs, upd_same, b _ _ _ _ _ _ RL (walks_keysT upd_same (RpT.mono2 (lck_le2 (u := .dT kvs) trivial f1 (.inl rfl) (.inr ⟨od, rfl⟩)) _ _ r)) q1 fun W' sv G' v H' l' R' r' q' => ?_⟩⟩
      have fa := l'.f _ _ upd_same
      exact ⟨R'.le _ _ fa, k _ sv G' v _ (lck_back l1 f1 l') (R'.lck (u := .dT kvs) trivial fa (.inr ⟨od, rfl⟩) (.inl rfl)) (RV.lck (u := .dT kvs) trivial fa (.inr ⟨od, rfl⟩) (.inl rfl) r') q'⟩
    · exact .inr ⟨.ref a, e, a, od, rfl, .inr ⟨kvs, R1.le _ _ f1, b _ _ _ _ _ _ R1 (walks_keysT f1 r) q1 fun W' sv G' v H' l' => k W' sv G' v H' (l1.trans l')⟩⟩
  · obtain ⟨a, kvs, rfl, f1 | ⟨od, f1⟩, r⟩ := r1
    · refine .inl ⟨a, .dK kvs, R1.le _ _ f1, trivial, fun od => ?_⟩
      have RL := R1.lck (u := .dK kvs) (o' := .frz od (.dK kvs)) trivial f1 (.inl rfl) (.inr ⟨od, rfl⟩)
      refine ⟨.ref a, e, a, od, rfl, .inl ⟨kvs, upd_same, b _ _ _ _ _ _ RL (walks_keysK upd_same (RpK.mono2 (lck_le2 (u := .dK kvs) trivial f1 (.inl rfl) (.inr ⟨od, rfl⟩)) _ _ r)) q1 fun W' sv G' v H' l' R' r' q' => ?_⟩⟩
      have fa := l'.f _ _ upd_same
      exact ⟨R'.le _ _ fa, k _ sv G' v _ (lck_back l1 f1 l') (R'.lck (u := .dK kvs) trivial fa (.inr ⟨od, rfl⟩) (.inl rfl)) (RV.lck (u := .dK kvs) trivial fa (.inr ⟨od, rfl⟩) (.inl rfl) r') q'⟩
    · exact .inr ⟨.ref a, e, a, od, rfl, .inl ⟨kvs, R1.le _ _ f1, b _ _ _ _ _ _ R1 (walks_keysK f1 r) q1 fun W' sv G' v H' l' => k W' sv G' v H' (l1.trans l')⟩⟩
theorem de_lcK {x : Str} {px : Pos} {i : Nat} {ifs : List Expr} {scope : Scope} {own : List (Str × Nat)} {g : DG} {tt : DT} {te : DE} (hN : X.N.Nodup) (ok : BlkOk X.N X.env.scope scope own)
    (hg : ∀ (s : Shared) (H : Hp) (C : Addr) (cl : List (Str × Addr)) (fp : List Addr), PG (X.blk s H scope (compEnvC scope cl C X.env) fp) tg (canG X.K (own.map (·.2)) g))
    (ht : ∀ (s : Shared) (H : Hp) (C : Addr) (cl : List (Str × Addr)) (fp : List Addr), PTs (X.blk s H scope (compEnvC scope cl C X.env) fp) ifs (canT X.K tt))
    (he : ∀ (s : Shared) (H : Hp) (C : Addr) (cl : List (Str × Addr)) (fp : List Addr), PE (X.blk s H scope (compEnvC scope cl C X.env) fp) elt (can X.K te)) (hi : X.N[i]? = some x := by rfl) (hv : Vis X.env.scope x := by first | exact Or.inl rfl | exact Or.inr (Or.inl rfl) | exact Or.inr (Or.inr rfl))
    (hd : (x == ("__debug__" : Str)) = false := by decide) (hcd : (x == ("__classdict__" : Str)) = false := by decide) (hc : X.calm = true := by rfl) (hs : ∀ y, foldedSetIterable (.Name x px) X.env y = pure y := by intro _; rfl) :
    PE X (.ListComp elt [⟨tg, .Name x px, ifs, 0⟩] scope pos) (can X.K (dLc (own.map (·.2)) (dKeys i) g tt te)) := by
  have h0 := pe_lc (pos := pos) hc hN (pi_keys (tg := tg) (pe_var (pos := px) hi hv hd hcd)) ok hg ht he hs
  refine PE.imp (PE.or (pe_lock h0) h0) ?_
  rintro σ H Qv ⟨W, P, G, Q, R, t, k⟩
  exact lck_E (B := fun Qv J H1 => LcB (canG X.K (own.map (·.2)) g) (canT X.K tt) (can X.K te) (own.map (·.2)) σ Qv J H1) ⟨G, ⟨W, P, R, k, fun Qv W1 G1 H1 J ds R1 w q k' => lc_J R1 w q.1 q.2 k'⟩, t⟩
theorem ds_setLcK {x y : Str} {px py spos : Pos} {j : Nat} (i : Nat) {ifs : List Expr} {scope : Scope} {own : List (Str × Nat)} {g : DG} {tt : DT} {te : DE} (hN : X.N.Nodup) (ok : BlkOk X.N X.env.scope scope own)
    (hg : ∀ (s : Shared) (H : Hp) (C : Addr) (cl : List (Str × Addr)) (fp : List Addr), PG (X.blk s H scope (compEnvC scope cl C X.env) fp) tg (canG X.K (own.map (·.2)) g))
    (ht : ∀ (s : Shared) (H : Hp) (C : Addr) (cl : List (Str × Addr)) (fp : List Addr), PTs (X.blk s H scope (compEnvC scope cl C X.env) fp) ifs (canT X.K tt))
    (he : ∀ (s : Shared) (H : Hp) (C : Addr) (cl : List (Str × Addr)) (fp : List Addr), PE (X.blk s H scope (compEnvC scope cl C X.env) fp) elt (can X.K te))
    (hsw : swapsWith (.ListComp elt [⟨tg, .Name x px, ifs, 0⟩] scope pos) (some (.Name y py)) spos.line X.env = pure true) (hj : X.N[j]? = some x := by rfl) (hv : Vis X.env.scope x := by first | exact Or.inl rfl | exact Or.inr (Or.inl rfl) | exact Or.inr (Or.inr rfl))
    (hd : (x == ("__debug__" : Str)) = false := by decide) (hcd : (x == ("__classdict__" : Str)) = false := by decide) (hy : X.N[i]? = some y := by rfl) (hyl : X.env.scope.names.lookup y = some .local := by rfl) (hc : X.calm = true := by rfl) (hs : ∀ y, foldedSetIterable (.Name x px) X.env y = pure y := by intro _; rfl) :
    PS X (.Assign [.Name y py] (.ListComp elt [⟨tg, .Name x px, ifs, 0⟩] scope pos) spos) (canS X.K (dAsg (dLc (own.map (·.2)) (dKeys j) g tt te) (dgName i))) := by
  have h0 := ps_setLc hc hN hy hyl hsw (pi_keys (tg := tg) (pe_var (pos := px) hj hv hd hcd)) ok hg ht he hs
  refine PS.imp (PS.or (ps_lock h0) h0) fun D σ H h => ?_
  obtain ⟨W, P, G, Q, R, t, k⟩ := asg_ok (ws := [i]) h
  refine lck_E (i := j)
    (B := fun Qv J H1 => LcB (canG X.K (own.map (·.2)) g) (canT X.K tt) (can X.K te) (own.map (·.2)) σ Qv J H1) (Qv := fun v H1 => D.nx (σ.set i (some v)) H1)
    ⟨G, ⟨W, P, R, ?_, fun Qv W1 G1 H1 J ds R1 w q k' => lc_J R1 w q.1 q.2 k'⟩, t⟩
  intro W1 sv G1 v H1 l1 R1 r1 q
  obtain ⟨W2, P2, G2, sv2, Q2, R2, r2, t2, k2⟩ := k W1 sv G1 v H1 l1 R1 r1 q
  obtain ⟨W', c, G', l, R', q⟩ := R2.rest (i := i) r2 t2
  exact k2 W' _ _ H1 l R' (But.set (by simp) _) q
/-- for k in d -/
theorem ds_forK {x : Str} {px : Pos} {i : Nat} {body : List Stmt} {g : DG} {tb : DS} {ws : List Nat} (hp : PassesOwn (model X.prog X.w) X.A X.env X.xe) (hg : PG X tg (canG X.K ws g)) (hb : PSs X body (canS X.K tb)) (hi : X.N[i]? = some x := by rfl) (hv : Vis X.env.scope x := by first | exact Or.inl rfl | exact Or.inr (Or.inl rfl) | exact Or.inr (Or.inr rfl))
    (hd : (x == ("__debug__" : Str)) = false := by decide) (hcd : (x == ("__classdict__" : Str)) = false := by decide) (hc : X.calm = true := by rfl) (hs : ∀ y, foldedSetIterable (.Name x px) X.env y = pure y := by intro _; rfl) :
    PS X (.For tg (.Name x px) body [] pos) (canS X.K (dFor (dKeys i) g tb)) := by
  have h0 := ps_for (pos := pos) hp hc (pi_keys (tg := tg) (pe_var (pos := px) hi hv hd hcd)) hg hb hs
  refine PS.imp (PS.or (ps_lock h0) h0) ?_
  rintro D σ H ⟨W, P, G, E, R, t, k⟩
  have t : LD.frz G (.bor i) fun d G1 => keysD d fun ds => forL g tb E ds G1 := t
  obtain ⟨v, W1, d, G1, e, l1, R1, r1, q1⟩ := R.frzAt t
  have ends : ∀ {a : Addr} {u : HO} {od : Obj}, DicO u → W1.F a = some u → EndsOk X.K (lckW W1 a (.frz od u)) P E ⟨fun σ' H' => H' a = some (.frz od u) ∧ D.nx σ' (upd H' a u), fun v H' => H' a = some (.frz od u) ∧ D.rt v (upd H' a u), fun σ' H' => H' a = some (.frz od u) ∧ D.bk σ' (upd H' a u), fun σ' H' => H' a = some (.frz od u) ∧ D.ct σ' (upd H' a u)⟩ := fun {a u od} du f1 => by
    have go : ∀ {W' : Wd}, (lckW W1 a (.frz od u)).le W' → W'.F a = some (.frz od u) := fun {W'} l => l.f _ _ upd_same
    exact ⟨fun W' G' σ' H' l' R' q' => ⟨R'.le _ _ (go l'), k.nx _ G' σ' _ (lck_back l1 f1 l') (R'.lck du (go l') (.inr ⟨od, rfl⟩) (.inl rfl)) q'⟩,
      fun W' G' σ' H' l' R' q' => ⟨R'.le _ _ (go l'), k.bk _ G' σ' _ (lck_back l1 f1 l') (R'.lck du (go l') (.inr ⟨od, rfl⟩) (.inl rfl)) q'⟩,
      fun W' G' σ' H' l' R' q' => ⟨R'.le _ _ (go l'), k.ct _ G' σ' _ (lck_back l1 f1 l') (R'.lck du (go l') (.inr ⟨od, rfl⟩) (.inl rfl)) q'⟩,
      fun W' sv n v H' l' R' r' q' => ⟨R'.le _ _ (go l'), k.rt _ sv n v _ (lck_back l1 f1 l') (R'.lck du (go l') (.inr ⟨od, rfl⟩) (.inl rfl)) (RV.lck du (go l') (.inr ⟨od, rfl⟩) (.inl rfl) r') q'⟩⟩
  cases d <;> first | exact False.elim q1 | skip
  · obtain ⟨a, kvs, rfl, f1 | ⟨od, f1⟩, r⟩ := r1
    · refine .inl ⟨a, .dT kvs, R1.le _ _ f1, trivial, fun od => ?_⟩
      have RL := R1.lck (u := .dT kvs) (o' := .frz od (.dT kvs)) trivial f1 (.inl rfl) (.inr ⟨od, rfl⟩)
      exact ⟨.ref a, e, a, od, rfl, .inr ⟨kvs, upd_same, for_J RL (walks_keysT upd_same (RpT.mono2 (lck_le2 (u := .dT kvs) trivial f1 (.inl rfl) (.inr ⟨od, rfl⟩)) _ _ r)) q1 (ends trivial f1)⟩⟩
    · exact .inr ⟨.ref a, e, a, od, rfl, .inr ⟨kvs, R1.le _ _ f1, for_J R1 (walks_keysT f1 r) q1 (k.le l1)⟩⟩
  · obtain ⟨a, kvs, rfl, f1 | ⟨od, f1⟩, r⟩ := r1
    · refine .inl ⟨a, .dK kvs, R1.le _ _ f1, trivial, fun od => ?_⟩
      have RL := R1.lck (u := .dK kvs) (o' := .frz od (.dK kvs)) trivial f1 (.inl rfl) (.inr ⟨od, rfl⟩)
      exact ⟨.ref a, e, a, od, rfl, .inl ⟨kvs, upd_same, for_J RL (walks_keysK upd_same (RpK.mono2 (lck_le2 (u := .dK kvs) trivial f1 (.inl rfl) (.inr ⟨od, rfl⟩)) _ _ r)) q1 (ends trivial f1)⟩⟩
    · exact .inr ⟨.ref a, e, a, od, rfl, .inl ⟨kvs, R1.le _ _ f1, for_J R1 (walks_keysK f1 r) q1 (k.le l1)⟩⟩
end

section
variable {X : Cx} {K : PySem.W.Frag} {W W' : Wd} {P : Hp} {G : Gm} {σ : St} {H : Hp} {e f : Expr} {es : List Expr} {pos : Pos}
/-! xs.pop(i) -/
def mPopAt : List D → List D → (List D → D → Prop) → Prop := fun ds ys k => match ys with
  | [.int i] => (0 ≤ i ∧ i < 2 ^ 62) ∧ match ds[i.toNat]? with
    | some d => k (ds.eraseIdx i.toNat) d
    | none => False
  | _ => False
theorem RpL.erase : ∀ {a : List D} {x : List V} (n : Nat), RpL K W a x → RpL K W (a.eraseIdx n) (x.eraseIdx n)
  | [], _, n, h => by obtain rfl : _ = [] := h; exact rfl
  | d :: ds, _, 0, h => by obtain ⟨v, r, rfl, h1, h2⟩ := h; exact h2
  | d :: ds, _, n + 1, h => by obtain ⟨v, r, rfl, h1, h2⟩ := h; exact ⟨v, _, rfl, h1, RpL.erase n h2⟩
theorem ml_popAt : MthL K rPopAt mPopAt := fun W H p xs us ds ys k Qv le hp r1 r2 h q => by
  match ys, h with
  | [.int i], ⟨⟨h0, h1⟩, h⟩ =>
    obtain ⟨u, r, rfl, ru, rr⟩ := r2
    obtain rfl : r = [] := rr
    obtain rfl : u = .int i := ru
    cases e : ds[i.toNat]? with
    | none => simp only [e] at h
    | some d =>
      simp only [e] at h
      obtain ⟨v, e1, e2⟩ := r1.get e
      have hl : i.toNat < xs.length := (List.getElem?_eq_some_iff.mp e1).1
      refine ⟨p, xs, i, i.toNat, v, rfl, rfl, hp, by omega, by omega, ?_, e1, q _ _ _ _ (RpL.erase _ r1) e2 h⟩
      unfold seqIndex?
      rw [if_neg (show ¬ i < 0 by omega)]
      simp only
      rw [if_pos (by rw [Bool.and_eq_true, decide_eq_true_eq, decide_eq_true_eq]; exact ⟨h0, by omega⟩)]
theorem pop_at {ds : List D} {i : Int} {k : List D → D → Prop} {d : D} (h0 : 0 ≤ i) (hl : ds.length < 2 ^ 62) (e : ds[i.toNat]? = some d) (h : k (ds.eraseIdx i.toNat) d) : mPopAt ds [.int i] k := by
  have := (List.getElem?_eq_some_iff.mp e).1
  refine ⟨⟨h0, by omega⟩, ?_⟩
  rw [e]; exact h
/-! [*xs, a] -/
def itemsD (d : D) (k : List D → Prop) : Prop := match d with
  | .lst ds => k ds
  | .tup ds => k ds
  | .scr ns => k (ns.map D.int)
  | _ => False
def dStar (t : DE) (u : DA) : DA := fun G Q => t G fun s G1 => frz G1 s fun d G2 => itemsD d fun xs => u G2 fun ds G3 => Q (xs ++ ds) G3
theorem da_star {p : Pos} {t : DE} {u : DA} (h : PE X e (can X.K t)) (h2 : PA X es (canA X.K u)) (hs : starEach (.Starred e p :: es) X.env = (true, eval e X.env) :: starEach es X.env := by rfl) : PA X (.Starred e p :: es) (canA X.K (dStar t u)) := by
  refine ⟨fun pos pins s σ H Qv I hh => (StX.pa_star h h2 hs).run pos pins s σ H Qv I ?_⟩
  obtain ⟨W, P, G, Q, R, t, k⟩ := hh
  refine ⟨W, P, G, _, R, t, fun W1 sv G1 v H1 l1 R1 r1 q1 => ?_⟩
  obtain ⟨W2, d, G2, l2, R2, r2, q2⟩ := R1.frz r1 q1
  have : ∃ a xs ds, v = .ref a ∧ (SqT X.K H1 a xs ∨ SqL X.K H1 a xs) ∧ RpL X.K W2 ds xs ∧ u G2 fun es G3 => Q (ds ++ es) G3 := by
    cases d <;> first | exact False.elim q2 | skip
    · obtain ⟨a, rfl, s⟩ := r2
      exact ⟨a, _, _, rfl, .inr (R2.sqL s), RpL.ofInts _, q2⟩
    · obtain ⟨a, xs, rfl, s, r⟩ := r2
      exact ⟨a, xs, _, rfl, .inl (R2.sqT (.of s)), r, q2⟩
    · obtain ⟨a, xs, rfl, s, r⟩ := r2
      exact ⟨a, xs, _, rfl, .inr (R2.sqL (.of s)), r, q2⟩
  obtain ⟨a, xs, ds, rfl, hq, rr, q3⟩ := this
  exact ⟨a, xs, rfl, hq, W2, P, G2, _, R2, q3, fun W3 es' G3 ys H3 l3 R3 r3 q4 => k W3 (ds ++ es') G3 _ H3 ((l1.trans l2).trans l3) R3 (RpL.append (RpL.mono l3 _ _ rr) r3) q4⟩
/-! d.get(k, x), d a dict in a slot -/
def dicM (o : Option SC) (b : D) (k : Option D → Prop) : Prop := match o with
  | some (.own d) => dAt b d k
  | some (.dat d) => dAt b d k
  | none => False
def isDic (o : Option SC) : Prop := match o with
  | some (.own d) => isD d = true
  | some (.dat d) => isD d = true
  | none => False
def dGetN (i : Nat) (tk tx : DE) : DE := fun G Q => isDic (gg G i) ∧ tk G fun sk G1 => frz G1 sk fun b G2 => tx G2 fun sx G3 => frz G3 sx fun z G4 => dicM (gg G4 i) b fun od => Q (.dat (od.getD z)) G4
def dGetN1 (i : Nat) (tk : DE) : DE := fun G Q => isDic (gg G i) ∧ tk G fun sk G1 => frz G1 sk fun b G2 => dicM (gg G2 i) b fun od => Q (.dat (od.getD .non)) G2
theorem Rl.slotN (R : Rl K W P G σ H) {i : Nat} {x : SC} (e : gg G i = some x) : ∃ v, σ[i]? = some (some v) ∧ RN K W H (match x with | .own d => d | .dat d => d) v := by
  cases x with
  | dat d => obtain ⟨v, h1, h2⟩ := R.dat i d e; exact ⟨v, h1, R.rn h2⟩
  | own d => obtain ⟨p, o, h1, h2, h3⟩ := R.own i d e; exact ⟨.ref p, h1, h3.rn h2.at_⟩
theorem isDic_of (R : Rl K W P G σ H) {i : Nat} (h : isDic (gg G i)) : ∃ a, σ[i]? = some (some (.ref a)) ∧ IsD H a := by
  cases e : gg G i with
  | none => rw [e] at h; exact h.elim
  | some x =>
    rw [e] at h
    obtain ⟨v, h1, h2⟩ := R.slotN e
    have : ∃ d, isD d = true ∧ RN K W H d v := by cases x <;> exact ⟨_, h, h2⟩
    obtain ⟨d, hd, rn⟩ := this
    cases d <;> first | exact absurd hd Bool.false_ne_true | skip
    · obtain ⟨a, kvs, rfl, rd, _⟩ := rn; exact ⟨a, h1, .inr ⟨kvs, rd⟩⟩
    · obtain ⟨a, kvs, rfl, rd, _⟩ := rn; exact ⟨a, h1, .inl ⟨kvs, rd⟩⟩
theorem dicM_of (R : Rl K W P G σ H) {i : Nat} {a : Addr} {b : D} {y : V} {k : Option D → Prop} (e1 : σ[i]? = some (some (.ref a))) (hy : RN K W H b y) (h : dicM (gg G i) b k) :
    ∃ o od, DGet H a y o ∧ k od ∧ ((od = none ∧ o = none) ∨ ∃ d v, od = some d ∧ o = some v ∧ Rp K W d v) := by
  cases e : gg G i with
  | none => rw [e] at h; exact h.elim
  | some x =>
    rw [e] at h
    obtain ⟨v, h1, h2⟩ := R.slotN e
    rw [e1] at h1; cases h1
    have : ∃ d, dAt b d k ∧ RN K W H d (.ref a) := by cases x <;> exact ⟨_, h, h2⟩
    obtain ⟨d, hd, rn⟩ := this
    obtain ⟨p, o, od, ep, g, q, r⟩ := dAt_get hy rn hd
    cases ep
    exact ⟨o, od, g, q, r⟩
theorem getD_rp {o : Option V} {od : Option D} {z : D} {w : V} (r : (od = none ∧ o = none) ∨ ∃ d v, od = some d ∧ o = some v ∧ Rp K W d v) (rz : Rp K W z w) : Rp K W (od.getD z) (o.getD w) := by
  rcases r with ⟨rfl, rfl⟩ | ⟨d, v, rfl, rfl, h⟩
  · exact rz
  · exact h
theorem de_getN {x : Str} {px apos cpos : Pos} {tk tx : DE} (i : Nat) (hu : X.A.units + 65 < cLine) (he : PE X e (can X.K tk)) (hf : PE X f (can X.K tx)) (hN : X.N[i]? = some x := by rfl) (hv : Vis X.env.scope x := by first | exact Or.inl rfl | exact Or.inr (Or.inl rfl) | exact Or.inr (Or.inr rfl))
    (hd : (x == ("__debug__" : Str)) = false := by decide) (hcd : (x == ("__classdict__" : Str)) = false := by decide) (m : M2 X (.Name x px) "get" apos e f cpos := by exact ⟨rfl, rfl, rfl, rfl⟩) :
    PE X (.Call (.Attribute (.Name x px) "get" apos) [e, f] [] cpos) (can X.K (dGetN i tk tx)) := by
  refine PE.imp (pe_dget2 (by omega) (pe_var hN hv hd hcd) he hf m) ?_
  rintro σ H Qv ⟨W, P, G, Q, R, ⟨t0, t⟩, k⟩
  obtain ⟨a, e1, hD⟩ := isDic_of R t0
  refine ⟨.ref a, e1, a, rfl, hD, W, P, G, _, R, t, fun W1 sk G1 y H1 l1 R1 r1 q1 => ?_⟩
  obtain ⟨W2, b, G2, l2, R2, r2, q2⟩ := R1.frz r1 q1
  refine ⟨W2, P, G2, _, R2, q2, fun W3 sx G3 z H3 l3 R3 r3 q3 => ?_⟩
  obtain ⟨W4, zz, G4, l4, R4, r4, q4⟩ := R3.frz r3 q3
  obtain ⟨o, od, g, q, r⟩ := dicM_of R4 e1 (R4.rn (Rp.mono (l3.trans l4) _ _ r2)) q4
  exact ⟨o, g, k W4 (.dat _) G4 _ H3 (((l1.trans l2).trans l3).trans l4) R4 (getD_rp r r4) q⟩
theorem de_getN1 {x : Str} {px apos cpos : Pos} {tk : DE} (i : Nat) (hu : X.A.units + 65 < cLine) (he : PE X e (can X.K tk)) (hN : X.N[i]? = some x := by rfl) (hv : Vis X.env.scope x := by first | exact Or.inl rfl | exact Or.inr (Or.inl rfl) | exact Or.inr (Or.inr rfl))
    (hd : (x == ("__debug__" : Str)) = false := by decide) (hcd : (x == ("__classdict__" : Str)) = false := by decide) (m : M1 X (.Name x px) "get" apos e cpos := by exact ⟨rfl, rfl, rfl, rfl⟩) :
    PE X (.Call (.Attribute (.Name x px) "get" apos) [e] [] cpos) (can X.K (dGetN1 i tk)) := by
  refine PE.imp (pe_dget1 (by omega) (pe_var hN hv hd hcd) he m) ?_
  rintro σ H Qv ⟨W, P, G, Q, R, ⟨t0, t⟩, k⟩
  obtain ⟨a, e1, hD⟩ := isDic_of R t0
  refine ⟨.ref a, e1, a, rfl, hD, W, P, G, _, R, t, fun W1 sk G1 y H1 l1 R1 r1 q1 => ?_⟩
  obtain ⟨W2, b, G2, l2, R2, r2, q2⟩ := R1.frz r1 q1
  obtain ⟨o, od, g, q, r⟩ := dicM_of R2 e1 (R2.rn r2) q2
  exact ⟨o, g, k W2 (.dat _) G2 _ H1 (l1.trans l2) R2 (getD_rp (z := .non) (w := .non) r rfl) q⟩
/-! xs[i] = v, xs an own list -/
def putL (o : Option SC) (j : Int) (dv : D) (k : D → Prop) : Prop := match o with
  | some (.own (.lst ds)) => (0 ≤ j ∧ j < ds.length) ∧ k (.lst (ds.set j.toNat dv))
  | _ => False
def intM (d : D) (k : Int → Prop) : Prop := match d with
  | .int j => k j
  | _ => False
def dPutL (i : Nat) (tv tk : DE) : DS := fun E G => tv G fun sv G1 => frz G1 sv fun dv G2 => isOwn G2 i ∧ tk G2 fun sk G3 => frz G3 sk fun b G4 => intM b fun j => putL (gg G4 i) j dv fun d' => E.nx (gset G4 i (some (.own d')))
theorem RpL.set {d : D} {v : V} (h : Rp K W d v) : ∀ {a : List D} {x : List V} (n : Nat), RpL K W a x → RpL K W (a.set n d) (x.set n v)
  | [], _, n, h => by obtain rfl : _ = [] := h; exact rfl
  | d :: ds, _, 0, h => by obtain ⟨v, r, rfl, h1, h2⟩ := h; exact ⟨_, _, rfl, by assumption, h2⟩
  | d :: ds, _, n + 1, h => by obtain ⟨v, r, rfl, h1, h2⟩ := h; exact ⟨v, _, rfl, h1, RpL.set (by assumption) n h2⟩
theorem ds_putL {x : Str} {px pt : Pos} {kx value : Expr} {tv tk : DE} (i : Nat) (hvl : PE X value (can X.K tv)) (hk : PE X kx (can X.K tk)) (hN : X.N[i]? = some x := by rfl)
    (hv : Vis X.env.scope x := by first | exact Or.inl rfl | exact Or.inr (Or.inl rfl) | exact Or.inr (Or.inr rfl)) (hd : (x == ("__debug__" : Str)) = false := by decide)
    (hcd : (x == ("__classdict__" : Str)) = false := by decide)
    (hs : swapsWithSole [.Subscript (.Name x px) kx pt] value pos.line X.env = pure false := by rfl) (hw : swappedStores [.Subscript (.Name x px) kx pt] value X.env = pure none := by rfl)
    (h1 : (assignEach [.Subscript (.Name x px) kx pt] X.env).map (·.2) = [assign (.Subscript (.Name x px) kx pt) X.env] := by rfl)
    (ha : ∀ v, assign (.Subscript (.Name x px) kx pt) X.env v = (do
      let ov ← holding [v] (eval (.Name x px) X.env)
      let iv ← holding [v, ov] (eval kx X.env)
      standAt pt
      holding [v, ov, iv] (setItem ov iv v)
      release [v, ov, iv] []) := by intro _; rfl) :
    PS X (.Assign [.Subscript (.Name x px) kx pt] value pos) (canS X.K (dPutL i tv tk)) := by
  refine PS.imp (ps_asg hvl (pg_sub (pe_var hN hv hd hcd) hk set_list ha) hs hw h1) ?_
  rintro D σ H ⟨W, P, G, E, R, t, kk⟩
  refine ⟨W, P, G, _, R, t, fun W1 sv G1 v H1 l1 R1 r1 q1 => ?_⟩
  obtain ⟨W2, dv, G2, l2, R2, r2, h0, q2⟩ := R1.frz r1 q1
  obtain ⟨d0, h0⟩ := isOwn_of h0
  obtain ⟨p, o, e1, pr, ro⟩ := R2.own i _ h0
  refine ⟨.ref p, e1, W2, P, G2, _, R2, q2, fun W3 sk G3 y H3 l3 R3 r3 q3 => ?_⟩
  obtain ⟨W4, b, G4, l4, R4, r4, q4⟩ := R3.frz r3 q3
  cases b <;> first | exact False.elim q4 | skip
  rename_i j
  obtain rfl : y = .int j := r4
  have q4 : putL (gg G4 i) j dv fun d' => E.nx (gset G4 i (some (.own d'))) := q4
  unfold putL at q4
  split at q4
  · rename_i ds e4
    obtain ⟨⟨j0, j1⟩, q4⟩ := q4
    obtain ⟨p', o', e2, pr', ro'⟩ := R4.own i _ e4
    rw [e1] at e2; cases e2
    cases o' <;> try exact False.elim ro'
    rename_i xs
    have hl : xs.length = ds.length := RpL.length ro'
    refine ⟨p, xs, j, j.toNat, rfl, rfl, pr'.at_, ?_, ?_⟩
    · unfold ixN
      rw [if_pos j0, if_pos (by omega)]
    · exact kk.nx W4 _ σ _ (((l1.trans l2).trans l3).trans l4) (R4.reown (o' := .lst _) (d' := .lst _) e4 e1 pr' (RpL.set (Rp.mono (l3.trans l4) _ _ r2) _ ro')) q4
  · exact q4.elim
end

section
variable {X : Cx} {K : PySem.W.Frag} {W W' : Wd} {P : Hp} {G : Gm} {σ : St} {H : Hp} {e f : Expr} {es : List Expr} {pos : Pos}
/-! repr([a, b]): a list for a moment, what slots own stays theirs -/
def keepS : SV → SV
  | .new d => .dat d
  | sv => sv
abbrev DAT := Gm → (List SV → Gm → Prop) → Prop
def dNilT : DAT := fun G Q => Q [] G
def dConsT (t : DE) (u : DAT) : DAT := fun G Q => t G fun s G1 => u G1 fun ss G2 => Q (keepS s :: ss) G2
def RSL (K : PySem.W.Frag) (W : Wd) (σ : St) : List SV → List V → Prop
  | [], vs => vs = []
  | s :: ss, vs => ∃ v r, vs = v :: r ∧ RS K W σ s v ∧ RSL K W σ ss r
def canAT (K : PySem.W.Frag) (t : DAT) : TA := fun σ H Qv => ∃ W P G Q, Rl K W P G σ H ∧ t G Q ∧
  ∀ W' ss G' vs H', W.le W' → Rl K W' P G' σ H' → RSL K W' σ ss vs → Q ss G' → Qv vs H'
theorem da_nilT : PA X [] (canAT X.K dNilT) := by
  refine ⟨fun pos pins s σ H Qv I ⟨W, P, G, Q, R, t, k⟩ => pa_nil.run pos pins s σ H Qv I ?_⟩
  exact k W [] G [] H (.refl W) R rfl t
theorem keep_ok {sv : SV} {v : V} (R : Rl K W P G σ H) (r : RV K W P G σ H sv v) : ∃ W', W.le W' ∧ Rl K W' P G σ H ∧ RS K W' σ (keepS sv) v := by
  cases sv with
  | dat d => exact ⟨W, .refl W, R, r⟩
  | bor i => exact ⟨W, .refl W, R, r.1⟩
  | new d =>
    obtain ⟨p, o, rfl, pr, ro, hn⟩ := r
    obtain ⟨W', l, R', r'⟩ := R.freeze pr ro hn
    exact ⟨W', l, R', r'⟩
theorem da_consT {t : DE} {u : DAT} (h : PE X e (can X.K t)) (h2 : PA X es (canAT X.K u)) (hs : starEach (e :: es) X.env = (false, eval e X.env) :: starEach es X.env := by rfl) : PA X (e :: es) (canAT X.K (dConsT t u)) := by
  refine ⟨fun pos pins s σ H Qv I ⟨W, P, G, Q, R, t, k⟩ => (pa_cons h h2 hs).run pos pins s σ H Qv I ?_⟩
  refine ⟨W, P, G, _, R, t, fun W1 sv G1 v H1 l1 R1 r1 q1 => ?_⟩
  obtain ⟨W2, l2, R2, r2⟩ := keep_ok R1 r1
  exact ⟨W2, P, G1, _, R2, q1, fun W3 ss G3 vs H3 l3 R3 r3 q3 => k W3 (keepS sv :: ss) G3 (v :: vs) H3 ((l1.trans l2).trans l3) R3 ⟨v, vs, rfl, RS.mono l3 r2, r3⟩ q3⟩
def seeAll (G : Gm) : List SV → (List D → Prop) → Prop
  | [], k => k []
  | s :: ss, k => see G s fun d => seeAll G ss fun ds => k (d :: ds)
theorem Rl.seeN (R : Rl K W P G σ H) {sv : SV} {v : V} (h : RS K W σ sv v) {k : D → Prop} (hk : LD.see G sv k) : ∃ d, Rp K (nowW W H) d v ∧ k d := by
  obtain ⟨d, n, q⟩ := R.see h hk
  exact ⟨d, R.rnow n, q⟩
theorem Rl.seeAll (R : Rl K W P G σ H) : ∀ {ss : List SV} {vs : List V} {k : List D → Prop}, RSL K W σ ss vs → LD.seeAll G ss k → ∃ ds, RpL K (nowW W H) ds vs ∧ k ds
  | [], _, k, h, q => by obtain rfl : _ = [] := h; exact ⟨[], rfl, q⟩
  | s :: ss, _, k, h, q => by
    obtain ⟨v, r, rfl, h1, h2⟩ := h
    obtain ⟨d, r1, q⟩ := R.seeN h1 q
    obtain ⟨ds, r2, q⟩ := Rl.seeAll R h2 q
    exact ⟨d :: ds, ⟨v, r, rfl, r1, r2⟩, q⟩
theorem RSL.length : ∀ {ss : List SV} {vs : List V}, RSL K W σ ss vs → vs.length = ss.length
  | [], _, h => by obtain rfl : _ = [] := h; rfl
  | s :: ss, _, h => by obtain ⟨v, r, rfl, _, h2⟩ := h; exact congrArg Nat.succ (RSL.length h2)
def dReprL (u : DAT) : DE := fun G Q => u G fun ss G1 => ss.length ≤ sizeLine ∧ seeAll G1 ss fun ds => dRepr (.lst ds) fun r => Q r G1
theorem de_reprL {u : DAT} {p lpos : Pos} (gd : X.A.guards = some []) (hu : X.A.units + 64 < cLine) (hm : X.mg "repr" = none) (h : PA X es (canAT X.K u)) (hg : Gl X "repr" := by rfl)
    (hs : starEach (Expr.List es lpos :: []) X.env = (false, eval (Expr.List es lpos) X.env) :: starEach [] X.env := by rfl) (hpl : (backTo pos (starEach [] X.env)).any (·.1) = false := by rfl) (hv : bootBuiltins "repr" = some (.builtin "repr") := by rfl) :
    PE X (.Call (.Name "repr" p) [.List es lpos] [] pos) (can X.K (dReprL u)) := by
  refine PE.imp (pe_callB (cd_reprN gd hu) hg hm hv (pa_cons (pe_lst h) pa_nil hs) (by decide) (by decide) hs hpl) ?_
  rintro σ H Qv ⟨W, P, G, Q, R, t, k⟩
  refine ⟨W, P, G, _, R, t, fun W1 ss G1 vs H1 l1 R1 r1 ⟨hz, q⟩ => ⟨by rw [RSL.length r1]; exact hz, fun p hp => ?_⟩⟩
  obtain ⟨ds, rd, q⟩ := R1.seeAll r1 q
  have R2 : Rl X.K W1 P G1 σ (upd H1 p (.lst vs)) := (R1.alloc (o := .lst []) (d := .lst []) hp rfl).1 |> fun _ => by
    have old : ∀ b o, H1 b = some o → upd H1 p (.lst vs) b = some o := fun b o e => by rw [upd_ne (ne_of_none e hp)]; exact e
    exact ⟨R1.len, fun b o e => old b o (R1.le b o e), fun a h => (by obtain ⟨h1, h2, x, y, z, h3, h4⟩ := R1.src a h; exact ⟨h1, h2, x, y, z, old _ _ h3, h4⟩), fun q o e => (by obtain ⟨h1, h2⟩ := R1.prot q o e; exact ⟨old _ _ h1, h2⟩), R1.dat,
      fun i d e => (by obtain ⟨q, o, h1, h2, h3⟩ := R1.own i d e; exact ⟨q, o, h1, ⟨old _ _ h2.at_, h2.f, h2.s, h2.n⟩, h3⟩), R1.sep, R1.pnt⟩
  have le2 : (nowW W1 H1).le (nowW W1 (upd H1 p (.lst vs))) := ⟨fun b o e => by
    show upd H1 p (.lst vs) b = some o
    rw [upd_ne (ne_of_none e hp)]; exact e, fun _ h => h⟩
  refine ⟨W1, P, G1, σ, .ref p, .lst ds, fun r => Q r G1, rfl, R2, ⟨p, vs, rfl, upd_same, RpL.mono le2 _ _ rd⟩, q, fun W3 sv v H3 l3 R3 r3 q3 => k W3 sv G1 v H3 (l1.trans l3) R3 r3 q3⟩
/-! x, y, z = a, b, c: new objects stay the slots' own -/
/-- a value that waits for its slot; an own one counts as one of the others' so long -/
def Pk (K : PySem.W.Frag) (W : Wd) (P P' : Hp) (c : SC) (v : V) : Prop := match c with
  | .dat d => P' = P ∧ Rp K W d v
  | .own d => ∃ p o, v = .ref p ∧ P p = none ∧ P' = upd P p o ∧ RO K W o d
theorem Pk.mono {P' : Hp} {c : SC} {v : V} (l : W.le W') (h : Pk K W P P' c v) : Pk K W' P P' c v := by
  cases c with
  | dat d => exact ⟨h.1, Rp.mono l _ _ h.2⟩
  | own d => obtain ⟨p, o, e, n, q, r⟩ := h; exact ⟨p, o, e, n, q, r.mono l⟩
theorem Rl.park (R : Rl K W P G σ H) {sv : SV} {v : V} {k : SC → Gm → Prop} (r : RV K W P G σ H sv v) (t : rest1 G sv k) : ∃ W' c G' P', W.le W' ∧ Rl K W' P' G' σ H ∧ Pk K W' P P' c v ∧ k c G' := by
  cases sv with
  | dat d => exact ⟨W, .dat d, G, P, .refl W, R, ⟨rfl, r⟩, t⟩
  | new d =>
    obtain ⟨p, o, rfl, pr, ro, hn⟩ := r
    exact ⟨W, .own d, G, upd P p o, .refl W, R.guardP pr hn ro.nt, ⟨p, o, rfl, pr.n, rfl, ro⟩, t⟩
  | bor j =>
    have t : LD.frz G (SV.bor j) fun d G1 => k (.dat d) G1 := t
    obtain ⟨W', d, G', l, R', r', q⟩ := R.frz r t
    exact ⟨W', .dat d, G', P, l, R', ⟨rfl, r'⟩, q⟩
theorem Rl.unpark {P' : Hp} (R : Rl K W P' G σ H) {c : SC} {v : V} (h : Pk K W P P' c v) (i : Nat) : Rl K W P (gset G i (some c)) (σ.set i (some v)) H := by
  cases c with
  | dat d => obtain ⟨rfl, h⟩ := h; exact R.setDat i h
  | own d =>
    obtain ⟨p, o, rfl, n, rfl, ro⟩ := h
    obtain ⟨R', p', o', e, pr, ro', hn⟩ := R.unguard (d := d) n ro
    cases e
    exact R'.setOwn i pr ro' hn
def dPar3 (i j l : Nat) (ta tb tc : DE) : DS := fun E G => ta G fun sa G1 => rest1 G1 sa fun ca G2 => tb G2 fun sb G3 => rest1 G3 sb fun cb G4 => tc G4 fun sc G5 => rest1 G5 sc fun cc G6 => E.nx (gset (gset (gset G6 l (some cc)) j (some cb)) i (some ca))
theorem ds_par3 {x y z : Str} {a b c : Expr} (i j l : Nat) {ta tb tc : DE} {px py pz pt : Pos} {kt k2 pt2} (hN : X.N.Nodup) (ha : PE X a (can X.K ta)) (hb : PE X b (can X.K tb)) (hcc : PE X c (can X.K tc)) (hc : X.calm = true := by rfl) (hi : X.N[i]? = some x := by rfl) (hj : X.N[j]? = some y := by rfl) (hl : X.N[l]? = some z := by rfl) (hij : i ≠ j := by decide) (hil : i ≠ l := by decide) (hjl : j ≠ l := by decide)
    (hx : X.env.scope.names.lookup x = some .local := by rfl) (hy : X.env.scope.names.lookup y = some .local := by rfl) (hz : X.env.scope.names.lookup z = some .local := by rfl)
    (hw : swappedStores [.Tuple [.Name x px, .Name y py, .Name z pz] kt pt] (.Tuple [a, b, c] k2 pt2) X.env = pure (some [x, y, z]) := by rfl)
    (hs : swapsWithSole [.Tuple [.Name x px, .Name y py, .Name z pz] kt pt] (.Tuple [a, b, c] k2 pt2) pos.line X.env = pure false := by rfl)
    (s1 : starEach [a, b, c] X.env = (false, eval a X.env) :: starEach [b, c] X.env := by rfl) (s2 : starEach [b, c] X.env = (false, eval b X.env) :: starEach [c] X.env := by rfl) (s3 : starEach [c] X.env = (false, eval c X.env) :: starEach [] X.env := by rfl) :
    PS X (.Assign [.Tuple [.Name x px, .Name y py, .Name z pz] kt pt] (.Tuple [a, b, c] k2 pt2) pos) (canS X.K (dPar3 i j l ta tb tc)) := by
  refine PS.imp (ps_par3 hc hN hi hj hl hij hil hjl hx hy hz (pa_cons ha (pa_cons hb (pa_cons hcc pa_nil s3) s2) s1) hw hs) ?_
  rintro D σ H ⟨W, P, G, E, R, t, k⟩
  refine ⟨W, P, G, _, R, t, fun W1 sa G1 u H1 l1 R1 r1 q1 => ?_⟩
  obtain ⟨W2, ca, G2, P2, l2, R2, k2', q2⟩ := R1.park r1 q1
  refine ⟨W2, P2, G2, _, R2, q2, fun W3 sb G3 v H3 l3 R3 r3 q3 => ?_⟩
  obtain ⟨W4, cb, G4, P4, l4, R4, k4, q4⟩ := R3.park r3 q3
  refine ⟨W4, P4, G4, _, R4, q4, fun W5 sc G5 w H5 l5 R5 r5 q5 => ⟨u, v, w, rfl, ?_⟩⟩
  obtain ⟨W6, cc, G6, l6, R6, q6⟩ := R5.rest (i := l) r5 q5
  have R7 := R6.unpark (k4.mono (l5.trans l6)) j
  have R8 := R7.unpark (k2'.mono (((l3.trans l4).trans l5).trans l6)) i
  have e : ((σ.set i (some u)).set j (some v)).set l (some w) = ((σ.set l (some w)).set j (some v)).set i (some u) := by
    rw [List.set_comm _ _ (Ne.symm hjl |> Ne.symm), List.set_comm _ _ hil, List.set_comm _ _ hij]
  rw [e]
  exact k.nx W6 _ _ H5 (((((l1.trans l2).trans l3).trans l4).trans l5).trans l6) R8 q6
/-! a call to which own objects are lent: its result is flat -/
/-- the world in which all that slots own counts as frozen -/
noncomputable def lendW (W : Wd) (G : Gm) (σ : St) (H : Hp) : Wd := open Classical in ⟨fun b => if ∃ i d, gg G i = some (.own d) ∧ σ[i]? = some (some (.ref b)) then H b else W.F b, W.S⟩
theorem lend_own {i : Nat} {d : D} {p : Addr} (h : gg G i = some (.own d)) (e : σ[i]? = some (some (.ref p))) : (lendW W G σ H).F p = H p := if_pos ⟨i, d, h, e⟩
theorem lend_oth {p : Addr} (h : ¬ ∃ i d, gg G i = some (.own d) ∧ σ[i]? = some (some (.ref p))) : (lendW W G σ H).F p = W.F p := if_neg h
theorem Rl.lend (R : Rl K W P G σ H) : W.le (lendW W G σ H) ∧ Rl K (lendW W G σ H) P ⟨[], G.c⟩ [] H := by
  have nown : ∀ {p : Addr}, (W.F p ≠ none ∨ W.S p ∨ P p ≠ none) → ¬ ∃ i d, gg G i = some (.own d) ∧ σ[i]? = some (some (.ref p)) := fun {p} h => by
    rintro ⟨i, d, h1, h2⟩
    obtain ⟨q, o, e, pr, _⟩ := R.own i d h1
    rw [h2] at e; cases e
    rcases h with h | h | h
    · exact h pr.f
    · exact pr.s h
    · exact h pr.n
  refine ⟨⟨fun b o e => by rw [lend_oth (nown (.inl (by rw [e]; intro z; cases z)))]; exact e, fun _ h => h⟩, rfl, fun b o e => ?_, fun a h => ?_, fun p o e => ?_, fun i d e => (by cases e), fun i d e => (by cases e), fun i j d e _ h1 _ => (by cases h1), R.pnt⟩
  · by_cases z : ∃ i d, gg G i = some (.own d) ∧ σ[i]? = some (some (.ref b))
    · obtain ⟨i, d, h1, h2⟩ := z
      rw [lend_own h1 h2] at e; exact e
    · rw [lend_oth z] at e; exact R.le b o e
  · obtain ⟨h1, h2, h3⟩ := R.src a h
    exact ⟨by rw [lend_oth (nown (.inr (.inl h)))]; exact h1, h2, h3⟩
  · obtain ⟨h1, h2⟩ := R.prot p o e
    exact ⟨h1, by rw [lend_oth (nown (.inr (.inr (by rw [e]; intro z; cases z))))]; exact h2⟩
theorem Rl.unlend {P0 H' : Hp} {m : Nat} (R : Rl K W P G σ H) (F : Full (lendW W G σ H) P0 H) (l : (lendW W G σ H).le W') (R' : Rl K W' P0 ⟨[], m⟩ [] H') : Rl K W P (G.at m) σ H' := by
  obtain ⟨lw, RL⟩ := R.lend
  refine ⟨R.len, fun b o e => R'.le b o (l.f b o (lw.f b o e)), fun a h => ?_, fun p o e => ?_, fun i d e => ?_, fun i d e => ?_, R.sep, R.pnt⟩
  · obtain ⟨h1, h2, _⟩ := R.src a h
    obtain ⟨_, _, h3⟩ := R'.src a (l.s a (lw.s a h))
    exact ⟨h1, h2, h3⟩
  · obtain ⟨h1, h2⟩ := R.prot p o e
    obtain ⟨_, h3⟩ := RL.prot p o e
    refine ⟨(R'.prot p o (F p o h1 h3 (fun s => ?_) fun xs z => R.pnt p xs (by rw [e, z]))).1, h2⟩
    have := (R.src p s).2.1
    rw [e] at this; cases this
  · exact R.dat i d e
  · obtain ⟨p, o, h1, h2, h3⟩ := R.own i d e
    exact ⟨p, o, h1, ⟨R'.le p o (l.f p o (by rw [lend_own (G := G) e h1]; exact h2.at_)), h2.f, h2.s, h2.n⟩, h3⟩
theorem Rl.seeL (R : Rl K W P G σ H) : ∀ {ss : List SV} {vs : List V} {k : List D → Prop}, RSL K W σ ss vs → LD.seeAll G ss k → ∃ ds, RpL K (lendW W G σ H) ds vs ∧ k ds
  | [], _, k, h, q => by obtain rfl : _ = [] := h; exact ⟨[], rfl, q⟩
  | s :: ss, _, k, h, q => by
    obtain ⟨v, r, rfl, h1, h2⟩ := h
    have : ∃ d, Rp K (lendW W G σ H) d v ∧ LD.seeAll G ss fun ds => k (d :: ds) := by
      cases s with
      | dat d => exact ⟨d, Rp.mono R.lend.1 _ _ h1, q⟩
      | new d => exact ⟨d, Rp.mono R.lend.1 _ _ h1, q⟩
      | bor i =>
        have q : (match gg G i with | some (.own d) => LD.seeAll G ss fun ds => k (d :: ds) | some (.dat d) => LD.seeAll G ss fun ds => k (d :: ds) | none => False) := q
        have h1 : σ[i]? = some (some v) := h1
        cases e : gg G i with
        | none => rw [e] at q; exact q.elim
        | some x =>
          rw [e] at q
          cases x with
          | dat d =>
            obtain ⟨w, a1, a2⟩ := R.dat i d e
            rw [h1] at a1; cases a1
            exact ⟨d, Rp.mono R.lend.1 _ _ a2, q⟩
          | own d =>
            obtain ⟨p, o, a1, a2, a3⟩ := R.own i d e
            rw [h1] at a1; cases a1
            exact ⟨d, (a3.mono R.lend.1).rp (by rw [lend_own e h1]; exact a2.at_), q⟩
    obtain ⟨d, r1, q⟩ := this
    obtain ⟨ds, r2, q⟩ := Rl.seeL R h2 q
    exact ⟨d :: ds, ⟨v, r, rfl, r1, r2⟩, q⟩
def flatS : SV → Bool
  | .dat d => flatD d
  | _ => false
theorem flat_any {d : D} {v : V} (f : flatD d = true) (h : Rp K W d v) : Rp K W' d v := by
  cases d <;> first | exact h | exact absurd f Bool.false_ne_true
def dCallB (n : Nat) (S : DSp) (gD : List D → List D → List D) (u : DAT) : DE := fun G Q => u G fun ss G1 => ss.length = n ∧ seeAll G1 ss fun ds => S G1.c (gD ds []) fun r j => flatS r = true ∧ Q r (G1.at j)
theorem dh_callB {j k n : Nat} {st : Stmt} {dd : List D} {ps : List Str} {S : DSp} {x : Str} {p : Pos} {gD : List D → List D → List D} {u : DAT} (h : HasX X j x st dd ps S) (gd : X.A.guards = some []) (hr : Room k X.A) (hb : ∀ f fd, FunT X.K x x st dd f fd → Bnd X.K fd ps n [] gD)
    (ha : PA X (e :: es) (canAT X.K u)) (hj : j ≤ k := by decide) (hg : Gl X x := by rfl) (hdb : (x == ("__debug__" : Str)) = false := by decide) (he : starEach (e :: es) X.env = (false, eval e X.env) :: starEach es X.env := by rfl) (hpl : (backTo pos (starEach es X.env)).any (·.1) = false := by rfl) :
    PE X (.Call (.Name x p) (e :: es) [] pos) (can X.K (dCallB n S gD u)) := by
  obtain ⟨f, fd, m, F, h⟩ := h
  obtain ⟨g, gV, hb, hr2⟩ := (hb f fd F).ex
  refine PE.imp (pg_call h gd (hr.mono hj) m F.kp hb ha hg hdb he hpl) ?_
  rintro σ H Qv ⟨W, P, G, Q, R, t, kk⟩
  refine ⟨W, P, G, _, R, t, fun W1 ss G1 vs H1 l1 R1 r1 ⟨hn, q⟩ => ⟨by rw [RSL.length r1]; exact hn, rfl, ?_⟩⟩
  obtain ⟨ds, rd, q⟩ := R1.seeL r1 q
  obtain ⟨lw, RL⟩ := R1.lend
  obtain ⟨P0, R0, F0, hP⟩ := RL.enter
  refine ⟨lendW W1 G1 σ H1, P0, _, _, _, R0, F0, hr2 X.K _ ds [] vs [] rd rfl, q, fun W3 sv j v H3 l3 R3 r3 ⟨fs, q3⟩ => ?_⟩
  cases sv with
  | dat d => exact kk W1 (.dat d) (G1.at j) v H3 l1 (R1.unlend F0 l3 R3) (flat_any fs r3) q3
  | _ => cases fs
end

/-! ### min of pairs -/
def encP (p : Int × Int) : PyData := .tuple [.int p.1, .int p.2]
theorem ltP (p q : Int × Int) : PySem.W.dataLt (encP p) (encP q) = decide (p.1 < q.1 ∨ (p.1 = q.1 ∧ p.2 < q.2)) := PySem.W.dataLt_ii ..
theorem minP_fold : ∀ (ps : List (Int × Int)) (p : Int × Int), ∃ m, (ps.map encP).foldl (fun a y => if PySem.W.dataLt y a then y else a) (encP p) = encP m ∧ m ∈ p :: ps ∧ ∀ q ∈ p :: ps, prLe m q
  | [], p => ⟨p, rfl, List.mem_cons_self, fun q hq => by rw [List.mem_singleton] at hq; subst hq; exact .inr ⟨rfl, Int.le_refl _⟩⟩
  | a :: ps, p => by
    rw [List.map_cons, List.foldl_cons, ltP]
    by_cases c : a.1 < p.1 ∨ (a.1 = p.1 ∧ a.2 < p.2)
    · rw [decide_eq_true c, if_pos rfl]
      obtain ⟨m, e, hm, h⟩ := minP_fold ps a
      refine ⟨m, e, List.mem_cons_of_mem _ hm, fun q hq => ?_⟩
      rcases List.mem_cons.mp hq with rfl | hq
      · have := h a List.mem_cons_self
        unfold prLe at this ⊢
        omega
      · exact h q hq
    · rw [decide_eq_false c, if_neg Bool.false_ne_true]
      obtain ⟨m, e, hm, h⟩ := minP_fold ps p
      refine ⟨m, e, ?_, fun q hq => ?_⟩
      · rcases List.mem_cons.mp hm with h | h
        · exact h ▸ List.mem_cons_self
        · exact List.mem_cons_of_mem _ (List.mem_cons_of_mem _ h)
      · rcases List.mem_cons.mp hq with rfl | hq
        · exact h _ List.mem_cons_self
        · rcases List.mem_cons.mp hq with rfl | hq
          · have := h p List.mem_cons_self
            unfold prLe at this ⊢
            omega
          · exact h q (List.mem_cons_of_mem _ hq)
section
variable {prog : Program} {w : World} {A : Around} {E : Value → Shared → Prop} {s : Shared}
theorem min_list_ix {l : Addr} {vs : Array Value} {x : PyData} {xs : List PyData} {as : List Addr} {Q : Value → Shared → Prop} (hh : A.handled = none) (hl : s.heap.IsList l vs) (hr : ReadsAll s.heap vs.toList (x :: xs) as) (ha : PySem.W.AlikeAll (x :: xs)) (hu : A.units + 1 + PyData.depthAll (x :: xs) < cLine)
    (h : ∀ (i : Nat) v h' tk, vs[i]? = some v → (x :: xs).getD i .none = PySem.W.minD x xs → (∀ b o, s.heap.get? b = some o → h'.get? b = some o) → Q v { s with heap := h', toks := tk }) :
    wpAny (model prog w) A (call (.builtin "min") [.ref l]) Q E s := by
  have hn : vs.size = xs.length + 1 := PySem.W.readsAll_len hr
  refine call_min_walkH (PySem.W.iter_listW (A := A.in1) hh hl fun s₂ e W st hfp hw hk => ?_)
  refine ⟨_, _, _, _, _, _, _, s.heap, _, rfl, W, st, hfp, by omega, hw, hk, PySem.W.cmpIn_lt (A := A.in1) hr ha (by show A.units + 1 + _ < _; exact hu), fun v s' hP m => ?_⟩
  obtain ⟨h', tk, rfl, hk'⟩ := PySem.W.moved_old e rfl m
  have e1 : vs.size - 1 = xs.length := by omega
  have e2 := (PySem.W.argBest_fold PySem.W.dataLt PyData.none x xs xs.length (Nat.le_refl _)).2
  rw [List.take_length] at e2
  refine h _ v h' tk hP ?_ hk'
  rw [e1]
  exact e2
end
section
variable {X : Cx} {K : PySem.W.Frag} {W : Wd} {P : Hp} {G : Gm} {σ : St} {H : Hp}
def rMinP (K : PySem.W.Frag) : List V → Hp → VK → Prop := fun vs H Q => ∃ (a : Addr) (xs : List V) (k : V → Int × Int), vs = [V.ref a] ∧ SqL K H a xs ∧ 0 < xs.length ∧ (∀ x ∈ xs, ∃ t, x = V.ref t ∧ H t = some (.tup [.int (k x).1, .int (k x).2])) ∧ ∀ x ∈ xs, (∀ y ∈ xs, prLe (k x) (k y)) → Q x H
theorem reads_pr {pins : List (Addr × Obj)} {s : Shared} (I : Inv X pins σ H s) {t : Addr} {i j : Int} (e : H t = some (.tup [.int i, .int j])) : ∃ as, Reads s.heap (.ref t) (.tuple [.int i, .int j]) as := by
  obtain ⟨its, rv, ⟨o, ho, hc, m, hd⟩, _⟩ := I.tuple (.of e)
  cases rv with
  | cons r1 r2 =>
    cases r2 with
    | cons r2 r3 =>
      cases r3
      obtain ⟨t1, rfl⟩ := r1
      obtain ⟨t2, rfl⟩ := r2
      exact ⟨_, Reads.tuple ho hc hd (.cons (Reads.int _ _) (.cons (Reads.int _ _) .nil))⟩
theorem reads_prs {pins : List (Addr × Obj)} {s : Shared} (I : Inv X pins σ H s) {k : V → Int × Int} : ∀ {xs : List V} {us : List Value}, Vals xs us → (∀ x ∈ xs, ∃ t, x = V.ref t ∧ H t = some (.tup [.int (k x).1, .int (k x).2])) → ∃ as, ReadsAll s.heap us (xs.map fun x => encP (k x)) as
  | [], _, r, _ => by cases r; exact ⟨[], .nil⟩
  | x :: xs, _, r, h => by
    cases r with
    | cons r1 r2 =>
      obtain ⟨t, ex, e⟩ := h x List.mem_cons_self
      obtain ⟨as1, q1⟩ := reads_pr I e
      obtain ⟨as2, q2⟩ := reads_prs I r2 fun y hy => h y (List.mem_cons_of_mem _ hy)
      subst ex
      cases r1
      exact ⟨_, ReadsAll.cons q1 q2⟩
theorem alike_prs (ps : List (Int × Int)) : PySem.W.AlikeAll (ps.map encP) := by
  refine ⟨fun x hx y hy => ?_, fun x hx => ?_⟩
  · obtain ⟨p, _, rfl⟩ := List.mem_map.mp hx
    obtain ⟨q, _, rfl⟩ := List.mem_map.mp hy
    simp [encP, PySem.W.alike, PySem.W.alikeAll]
  · obtain ⟨p, _, rfl⟩ := List.mem_map.mp hx
    intro z; cases z
theorem depth_prs : ∀ ps : List (Int × Int), PyData.depthAll (ps.map encP) ≤ 2
  | [] => by simp [PyData.depthAll]
  | p :: ps => by
    have := depth_prs ps
    simp only [List.map_cons, PyData.depthAll, encP, PyData.depth]
    omega
theorem cr_minP (hc : X.calm = true) (hu : X.A.units + 64 < cLine) : CallR X (.builtin "min") (rMinP X.K) := by
  intro pins s σ H vs us Q I r h
  obtain ⟨a, xs, k, rfl, hs, hne, hx, q⟩ := h
  obtain ⟨its, rv, hl, hz⟩ := I.list hs
  rw [Vals.ref1 r]
  obtain ⟨as, hr⟩ := reads_prs I rv hx
  cases xs with
  | nil => simp at hne
  | cons x xs =>
    have e : ((x :: xs).map fun x => encP (k x)) = encP (k x) :: (xs.map k).map encP := by rw [List.map_cons, List.map_map]; rfl
    rw [e] at hr
    have dp := depth_prs (k x :: xs.map k)
    refine min_list_ix (as := as) (x := encP (k x)) (xs := (xs.map k).map encP) (I.ok.hd hc) hl.isList (by rw [List.toList_toArray]; exact hr) (alike_prs (k x :: xs.map k)) (by rw [List.map_cons] at dp; omega) fun i v h' tk hv em hk => ?_
    obtain ⟨y, hy, ry⟩ : ∃ y, (x :: xs)[i]? = some y ∧ RelV y v := by
      have hv' : its[i]? = some v := by simpa using hv
      cases hxi : (x :: xs)[i]? with
      | none => have := rv.none_of hxi; rw [this] at hv'; cases hv'
      | some y =>
        obtain ⟨u, hu2, ru⟩ := rv.get hxi
        rw [hv'] at hu2; cases hu2
        exact ⟨y, rfl, ru⟩
    refine ⟨y, H, I.kept hk, ry, q y (List.mem_of_getElem? hy) fun z hz2 => ?_⟩
    obtain ⟨m, e1, e2, e3⟩ := minP_fold (xs.map k) (k x)
    have e4 : encP (k y) = encP m := by
      rw [← e1]
      have : (encP (k x) :: (xs.map k).map encP).getD i .none = encP (k y) := by
        rw [← e, List.getD_eq_getElem?_getD, List.getElem?_map, hy]; rfl
      rw [← this, em]
      rfl
    have e5 : k y = m := by
      unfold encP at e4
      simp only [PyData.tuple.injEq, List.cons.injEq, PyData.int.injEq, and_true] at e4
      exact Prod.ext e4.1 e4.2
    rw [e5]
    exact e3 (k z) (by rw [← List.map_cons]; exact List.mem_map_of_mem hz2)
def dMinP : D1 := fun d Q => match d with
  | .lst ds => match prsOf ds with
    | some ps => 0 < ps.length ∧ ∀ m : Int × Int, m ∈ ps → (∀ q ∈ ps, prLe m q) → Q (.dat (prD m))
    | none => False
  | _ => False
theorem cd_minP (hc : X.calm = true) (hu : X.A.units + 64 < cLine) : CallR X (.builtin "min") (canB X.K dMinP) := by
  refine CallR.imp (cr_minP hc hu) ?_
  rintro vs H Qv ⟨W, P, G, σ, v, d, Q, rfl, R, n, t, r⟩
  cases d <;> first | exact False.elim t | skip
  rename_i ds
  have t : (match prsOf ds with | some ps => 0 < ps.length ∧ ∀ m : Int × Int, m ∈ ps → (∀ q ∈ ps, prLe m q) → Q (.dat (prD m)) | none => False) := t
  cases hp : prsOf ds with
  | none => rw [hp] at t; exact t.elim
  | some ps =>
    rw [hp] at t
    obtain ⟨a, xs, rfl, e, rl⟩ := n
    rw [prsOf_eq hp] at rl
    obtain ⟨e1, e2⟩ := prs_at R rl
    have lx : xs.length = ps.length := by rw [← e1, List.length_map]
    refine ⟨a, xs, prAt H, rfl, .inl (.inl e), by rw [lx]; exact t.1, fun x hx => (e2 x hx).2, fun x hx hm => ?_⟩
    refine r.dat R (e2 x hx).1 (t.2 _ (by rw [← e1]; exact List.mem_map_of_mem hx) fun q hq => ?_)
    rw [← e1] at hq
    obtain ⟨y, hy, rfl⟩ := List.mem_map.mp hq
    exact hm y hy
/-- what no one tracks is laid -/
theorem Rl.junk (R : Rl K W P G σ H) {p : Addr} {o : HO} (hp : H p = none) : Rl K W P G σ (upd H p o) := by
  have old : ∀ b u, H b = some u → upd H p o b = some u := fun b u e => by rw [upd_ne (ne_of_none e hp)]; exact e
  exact ⟨R.len, fun b u e => old b u (R.le b u e), fun a h => (by obtain ⟨h1, h2, x, y, z, h3, h4⟩ := R.src a h; exact ⟨h1, h2, x, y, z, old _ _ h3, h4⟩), fun q u e => (by obtain ⟨h1, h2⟩ := R.prot q u e; exact ⟨old _ _ h1, h2⟩), R.dat,
    fun i d e => (by obtain ⟨q, u, h1, h2, h3⟩ := R.own i d e; exact ⟨q, u, h1, ⟨old _ _ h2.at_, h2.f, h2.s, h2.n⟩, h3⟩), R.sep, R.pnt⟩
variable {pos : Pos}
/-- x, y = a, b where one of them is a cell: by a tuple that is dropped -/
theorem ds_parC {x y : Str} {a b : Expr} (i j : Nat) {ta tb : DE} {px py pt : Pos} {kt k2 pt2} (hN : X.N.Nodup) (ha : PE X a (can X.K ta)) (hb : PE X b (can X.K tb)) (hc : X.calm = true := by rfl) (hi : X.N[i]? = some x := by rfl) (hj : X.N[j]? = some y := by rfl) (hij : i ≠ j := by decide)
    (hx : Loc X.env.scope x := by first | exact Or.inl rfl | exact Or.inr rfl) (hfx : X.fn x = true ∨ X.env.scope.names.lookup x = some .local := by first | exact .inl rfl | exact .inr rfl)
    (hy : Loc X.env.scope y := by first | exact Or.inl rfl | exact Or.inr rfl) (hfy : X.fn y = true ∨ X.env.scope.names.lookup y = some .local := by first | exact .inl rfl | exact .inr rfl)
    (hs : swapsWithSole [.Tuple [.Name x px, .Name y py] kt pt] (.Tuple [a, b] k2 pt2) pos.line X.env = pure false := by rfl) (hw : swappedStores [.Tuple [.Name x px, .Name y py] kt pt] (.Tuple [a, b] k2 pt2) X.env = pure none := by rfl)
    (h1 : (assignEach [.Tuple [.Name x px, .Name y py] kt pt] X.env).map (·.2) = [assign (.Tuple [.Name x px, .Name y py] kt pt) X.env] := by rfl)
    (s1 : starEach [a, b] X.env = (false, eval a X.env) :: starEach [b] X.env := by rfl) (s2 : starEach [b] X.env = (false, eval b X.env) :: starEach [] X.env := by rfl)
    (g1 : (assignEach [.Name x px, .Name y py] X.env).map (·.2) = assign (.Name x px) X.env :: (assignEach [.Name y py] X.env).map (·.2) := by rfl) (g2 : (assignEach [.Name y py] X.env).map (·.2) = assign (.Name y py) X.env :: (assignEach [] X.env).map (·.2) := by rfl)
    (hn : (assignEach [.Name x px, .Name y py] X.env).length = 2 := by rfl) (hst : (assignEach [.Name x px, .Name y py] X.env).findIdx? (·.1) = none := by rfl) :
    PS X (.Assign [.Tuple [.Name x px, .Name y py] kt pt] (.Tuple [a, b] k2 pt2) pos) (canS X.K (dPar2 i j ta tb)) := by
  refine PS.imp (ps_asg (pe_tup (pa_cons ha (pa_cons hb pa_nil s2) s1)) (pg_tup hc (pgs_cons (pg_name hN hi hx hfx) (pgs_cons (pg_name hN hj hy hfy) pgs_nil g2) g1) hn hst) hs hw h1) ?_
  rintro D σ H ⟨W, P, G, E, R, t, k⟩
  refine ⟨W, P, G, _, R, t, fun W1 sa G1 u H1 l1 R1 r1 q1 => ?_⟩
  obtain ⟨W2, ca, G2, P2, l2, R2, k2', q2⟩ := R1.park r1 q1
  refine ⟨W2, P2, G2, _, R2, q2, fun W3 sb G3 v H3 l3 R3 r3 q3 => ⟨by show 2 ≤ sizeLine; decide, fun p hp => ?_⟩⟩
  obtain ⟨W4, cb, G4, P4, l4, R4, k4, q4⟩ := R3.park r3 q3
  refine ⟨p, [u, v], rfl, .of upd_same, rfl, u, [v], rfl, v, [], rfl, rfl, ?_⟩
  have R5 := (R4.junk (o := .tup [u, v]) hp).unpark k4 j
  have R6 := R5.unpark (k2'.mono (l3.trans l4)) i
  rw [List.set_comm _ _ hij]
  exact k.nx W4 _ _ _ (((l1.trans l2).trans l3).trans l4) R6 q4
theorem ds_parC3 {x y z : Str} {a b c : Expr} (i j l : Nat) {ta tb tc : DE} {px py pz pt : Pos} {kt k2 pt2} (hN : X.N.Nodup) (ha : PE X a (can X.K ta)) (hb : PE X b (can X.K tb)) (hcc : PE X c (can X.K tc)) (hc : X.calm = true := by rfl) (hi : X.N[i]? = some x := by rfl) (hj : X.N[j]? = some y := by rfl) (hl : X.N[l]? = some z := by rfl) (hij : i ≠ j := by decide) (hil : i ≠ l := by decide) (hjl : j ≠ l := by decide)
    (hx : Loc X.env.scope x := by first | exact Or.inl rfl | exact Or.inr rfl) (hfx : X.fn x = true ∨ X.env.scope.names.lookup x = some .local := by first | exact .inl rfl | exact .inr rfl)
    (hy : Loc X.env.scope y := by first | exact Or.inl rfl | exact Or.inr rfl) (hfy : X.fn y = true ∨ X.env.scope.names.lookup y = some .local := by first | exact .inl rfl | exact .inr rfl)
    (hz : Loc X.env.scope z := by first | exact Or.inl rfl | exact Or.inr rfl) (hfz : X.fn z = true ∨ X.env.scope.names.lookup z = some .local := by first | exact .inl rfl | exact .inr rfl)
    (hs : swapsWithSole [.Tuple [.Name x px, .Name y py, .Name z pz] kt pt] (.Tuple [a, b, c] k2 pt2) pos.line X.env = pure false := by rfl) (hw : swappedStores [.Tuple [.Name x px, .Name y py, .Name z pz] kt pt] (.Tuple [a, b, c] k2 pt2) X.env = pure none := by rfl)
    (h1 : (assignEach [.Tuple [.Name x px, .Name y py, .Name z pz] kt pt] X.env).map (·.2) = [assign (.Tuple [.Name x px, .Name y py, .Name z pz] kt pt) X.env] := by rfl)
    (s1 : starEach [a, b, c] X.env = (false, eval a X.env) :: starEach [b, c] X.env := by rfl) (s2 : starEach [b, c] X.env = (false, eval b X.env) :: starEach [c] X.env := by rfl) (s3 : starEach [c] X.env = (false, eval c X.env) :: starEach [] X.env := by rfl)
    (g1 : (assignEach [.Name x px, .Name y py, .Name z pz] X.env).map (·.2) = assign (.Name x px) X.env :: (assignEach [.Name y py, .Name z pz] X.env).map (·.2) := by rfl) (g2 : (assignEach [.Name y py, .Name z pz] X.env).map (·.2) = assign (.Name y py) X.env :: (assignEach [.Name z pz] X.env).map (·.2) := by rfl)
    (g3 : (assignEach [.Name z pz] X.env).map (·.2) = assign (.Name z pz) X.env :: (assignEach [] X.env).map (·.2) := by rfl)
    (hn : (assignEach [.Name x px, .Name y py, .Name z pz] X.env).length = 3 := by rfl) (hst : (assignEach [.Name x px, .Name y py, .Name z pz] X.env).findIdx? (·.1) = none := by rfl) :
    PS X (.Assign [.Tuple [.Name x px, .Name y py, .Name z pz] kt pt] (.Tuple [a, b, c] k2 pt2) pos) (canS X.K (dPar3 i j l ta tb tc)) := by
  refine PS.imp (ps_asg (pe_tup (pa_cons ha (pa_cons hb (pa_cons hcc pa_nil s3) s2) s1)) (pg_tup hc (pgs_cons (pg_name hN hi hx hfx) (pgs_cons (pg_name hN hj hy hfy) (pgs_cons (pg_name hN hl hz hfz) pgs_nil g3) g2) g1) hn hst) hs hw h1) ?_
  rintro D σ H ⟨W, P, G, E, R, t, k⟩
  refine ⟨W, P, G, _, R, t, fun W1 sa G1 u H1 l1 R1 r1 q1 => ?_⟩
  obtain ⟨W2, ca, G2, P2, l2, R2, k2', q2⟩ := R1.park r1 q1
  refine ⟨W2, P2, G2, _, R2, q2, fun W3 sb G3 v H3 l3 R3 r3 q3 => ?_⟩
  obtain ⟨W4, cb, G4, P4, l4, R4, k4, q4⟩ := R3.park r3 q3
  refine ⟨W4, P4, G4, _, R4, q4, fun W5 sc G5 w H5 l5 R5 r5 q5 => ⟨by show 3 ≤ sizeLine; decide, fun p hp => ?_⟩⟩
  obtain ⟨W6, cc, G6, P6, l6, R6, k6, q6⟩ := R5.park r5 q5
  refine ⟨p, [u, v, w], rfl, .of upd_same, rfl, u, [v, w], rfl, v, [w], rfl, w, [], rfl, rfl, ?_⟩
  have R7 := (R6.junk (o := .tup [u, v, w]) hp).unpark k6 l
  have R8 := R7.unpark (k4.mono (l5.trans l6)) j
  have R9 := R8.unpark (k2'.mono (((l3.trans l4).trans l5).trans l6)) i
  have e : ((σ.set i (some u)).set j (some v)).set l (some w) = ((σ.set l (some w)).set j (some v)).set i (some u) := by
    rw [List.set_comm _ _ (Ne.symm hjl |> Ne.symm), List.set_comm _ _ hil, List.set_comm _ _ hij]
  rw [e]
  exact k.nx W6 _ _ _ (((((l1.trans l2).trans l3).trans l4).trans l5).trans l6) R9 q6
end

variable {X : Cx} {P : Hp} {pos : Pos}
/-- {"a": v} -/
def dDspS (tk tv : DE) : DE := fun G Q => tk G fun sk G1 => frz G1 sk fun b G2 => tv G2 fun sv G3 => frz G3 sv fun dv G4 => match b with
  | .str x => Q (.new (.dK [(.inr x, dv)])) G4
  | _ => False
theorem de_dspS {k v : Expr} {tk tv : DE} (hk : PE X k (can X.K tk)) (hv : PE X v (can X.K tv)) : PE X (.Dict [some k] [v] pos) (can X.K (dDspS tk tv)) := by
  refine PE.imp (pe_disp (pps_cons hk hv pps_nil) rfl rfl (by simp) (by simp)) ?_
  rintro σ H Qv ⟨W, P, G, Q, R, t, kk⟩ p hp
  obtain ⟨nP, nF, Rg⟩ := R.guard (o := .dK []) hp
  refine ⟨W, _, G, _, Rg, t, fun W1 sk G1 x H1 l1 R1 r1 q1 => ?_⟩
  obtain ⟨W2, b, G2, l2, R2, r2, q2⟩ := R1.frz r1 q1
  refine ⟨W2, _, G2, _, R2, q2, fun W3 sv G3 y H3 l3 R3 r3 q3 => ?_⟩
  obtain ⟨W4, dv, G4, l4, R4, r4, q4⟩ := R3.frz r3 q3
  cases b <;> first | exact False.elim q4 | skip
  rename_i z
  obtain rfl : x = .str z := r2
  have q4 : Q (.new (.dK [(.inr z, dv)])) G4 := q4
  obtain ⟨hp4, R5⟩ := R4.reguard (o' := .dK [(.inr z, y)])
  obtain ⟨R6, r6⟩ := R5.unguard (o := .dK [(.inr z, y)]) (d := .dK [(.inr z, dv)]) nP (show RpK X.K W4 [(.inr z, dv)] [(.inr z, y)] from ⟨y, [], rfl, r4, rfl⟩)
  exact ⟨hp4, [(.inr z, y)], rfl, by simp, kk W4 _ G4 _ _ (((l1.trans l2).trans l3).trans l4) R6 r6 q4⟩

def brW (_ : Nat) (b : Bool) (tb : DS) (E : DEnds) (N : Gm → Prop) (G : Gm) : Prop := if b = true then tb { E with nx := N, ct := N, bk := E.nx } G else E.nx G
theorem x_brw1 {n0 : Nat} {t : DS} {E : DEnds} {N : Gm → Prop} {G : Gm} : brW n0 true t E N G = t { E with nx := N, ct := N, bk := E.nx } G := by unfold brW; rw [if_pos rfl]
theorem x_brw0 {n0 : Nat} {t : DS} {E : DEnds} {N : Gm → Prop} {G : Gm} : brW n0 false t E N G = E.nx G := by unfold brW; rw [if_neg Bool.false_ne_true]
theorem x_par2 {i j : Nat} {ta tb : DE} {E : DEnds} {G : Gm} : dPar2 i j ta tb E G = ta G fun sa G1 => rest1 G1 sa fun ca G2 => tb G2 fun sb G3 => rest1 G3 sb fun cb G4 => E.nx (gset (gset G4 j (some cb)) i (some ca)) := rfl
def owM (o : Option SC) (f : List D → Prop) : Prop := match o with | some (.own (.lst ds)) => f ds | _ => False
theorem x_ownl {L : List (Option SC)} {c i : Nat} {f : List D → Prop} : ownL ⟨L, c⟩ i f = owM (ggl L i) f := rfl
theorem x_owm {ds : List D} {f : List D → Prop} : owM (some (.own (.lst ds))) f = f ds := rfl
theorem x_own {i : Nat} {r : List D → List D → (List D → D → Prop) → Prop} {t : DA} {G : Gm} {Q : SV → Gm → Prop} : dOwnL i r t G Q = (ownL G i (fun _ => True) ∧ t G fun ys G1 => ownL G1 i fun ds => r ds ys fun ds' d => Q (.dat d) (gset G1 i (some (.own (.lst ds'))))) := rfl
theorem x_app {ds : List D} {y : D} {k : List D → D → Prop} : mApp ds [y] k = (ds.length < sizeLine ∧ k (ds ++ [y]) .non) := rfl
theorem x_ext {ds es : List D} {k : List D → D → Prop} : mExt ds [.lst es] k = (ds.length + es.length ≤ sizeLine ∧ k (ds ++ es) .non) := rfl
def reM (o : Option SC) (G : Gm) (i : Nat) (f : SC → Gm → Prop) : Prop := match o with | some (.own d) => f (.dat d) (gset G i (some (.dat d))) | some (.dat d) => f (.dat d) G | none => False
theorem x_rsbo {L : List (Option SC)} {c i : Nat} {f : SC → Gm → Prop} : rest1 ⟨L, c⟩ (.bor i) f = reM (ggl L i) ⟨L, c⟩ i f := rfl
theorem x_reo {d : D} {G : Gm} {i : Nat} {f : SC → Gm → Prop} : reM (some (.own d)) G i f = f (.dat d) (gset G i (some (.dat d))) := rfl
theorem q_00 {f : Bool → Prop} : eqQ (.lst []) (.lst []) f = f true := by
  have e : eqD (.lst []) (.lst []) = true := by decide +kernel
  show (Pl 20 (.lst []) ∧ Pl 20 (.lst []) ∧ f (eqD (.lst []) (.lst []))) = _
  rw [e]; simp [Pl]
theorem sl_scr {ns : List Int} {lo hi : Option Int} {q : SV → Prop} : dSlc (.scr ns) lo hi q = q (.new (.lst (dSlc.cutV' (ns.map D.int) lo hi))) := rfl
theorem sl_t21 {a b : D} {q : SV → Prop} : dSlc (.tup [a, b]) none (some 1) q = q (.dat (.tup [a])) := by
  have e : dSlc.cutV' [a, b] none (some 1) = [a] := rfl
  show (¬ (HT.sIx 2 0 none = 0 ∧ HT.sIx 2 2 (some 1) = 2) ∧ q (.dat (.tup (dSlc.cutV' [a, b] none (some 1))))) = _
  rw [e, show HT.sIx 2 2 (some 1) = 1 from rfl]
  simp
theorem add_ll {a b : List D} {q : SV → Prop} : dAdd (.lst a) (.lst b) q = (a.length + b.length ≤ sizeLine ∧ q (.new (.lst (a ++ b)))) := rfl
theorem x_dvm {x y : Int} {q : SV → Prop} : dDivmod [.int x, .int y] q = ((0 < y ∧ y.natAbs.log2 < 9000) ∧ q (.dat (.tup [.int (x / y), .int (x % y)]))) := by show (([] : List D) = [] ∧ _) = _; simp
def auM (o : Option SC) (i : Nat) (dr : D2) (t : DE) (E : DEnds) (G : Gm) : Prop := match o with
  | some (.dat a) => t G fun sv G1 => see G1 sv fun b => flatD a = true ∧ dr a b fun r => rest1 G1 r fun c G2 => E.nx (gset G2 i (some c))
  | _ => False
theorem x_aug {i : Nat} {dr : D2} {t : DE} {E : DEnds} {L : List (Option SC)} {c : Nat} : dAug i dr t E ⟨L, c⟩ = auM (ggl L i) i dr t E ⟨L, c⟩ := rfl
theorem x_aum {i : Nat} {dr : D2} {t : DE} {E : DEnds} {G : Gm} {a : D} : auM (some (.dat a)) i dr t E G = t G fun sv G1 => see G1 sv fun b => flatD a = true ∧ dr a b fun r => rest1 G1 r fun c G2 => E.nx (gset G2 i (some c)) := rfl
def maxI (a b : Int) : Int := if b > a then b else a
def minI (a b : Int) : Int := if b < a then b else a
def absI (i : Int) : Int := if i < 0 then -i else i
theorem maxI_eq {a b : Int} : maxI a b = max a b := by unfold maxI; split <;> omega
theorem minI_eq {a b : Int} : minI a b = min a b := by unfold minI; split <;> omega
theorem absI_eq {a : Int} : absI a = max a (-a) := by unfold absI; split <;> omega
theorem y_max {x y : Int} {q : SV → Prop} : dMax2 [.int x, .int y] q = q (.dat (.int (maxI x y))) := x_max
theorem y_min {x y : Int} {q : SV → Prop} : dMin2 [.int x, .int y] q = q (.dat (.int (minI x y))) := x_min
theorem y_abs {x : Int} {q : SV → Prop} : dAbs (.int x) q = q (.dat (.int (absI x))) := rfl
theorem pickL_rev {α : Type} (xs : List α) : pickL xs none none (some (-1)) = xs.reverse := by
  unfold pickL
  have e1 : sliceBounds none none (some (-1)) xs.length = ((xs.length : Int) - 1, -1, -1) := rfl
  rw [e1]
  unfold sliceRange
  simp only
  rw [if_neg (by decide)]
  have e2 : (if ((xs.length : Int) - 1 > -1) then ((xs.length : Int) - 1 - -1 - -1 - 1) / - -1 else 0).toNat = xs.length := by
    simp only [Int.neg_neg, Int.ediv_one]
    split <;> omega
  rw [e2, List.filterMap_map]
  refine List.ext_getElem? fun i => ?_
  have e3 : ∀ m ∈ List.range xs.length, ((fun i => xs[i]?) ∘ fun k : Nat => ((xs.length : Int) - 1 + -1 * (k : Int)).toNat) m = (xs.reverse)[m]? := fun m hm => by
    have hm := List.mem_range.mp hm
    show xs[((xs.length : Int) - 1 + -1 * (m : Int)).toNat]? = _
    rw [List.getElem?_reverse hm, show ((xs.length : Int) - 1 + -1 * (m : Int)).toNat = xs.length - 1 - m by omega]
  rw [fm_congr (g := fun m => (xs.reverse)[m]?) e3]
  have e4 : ∀ (ys : List α), (List.range ys.length).filterMap (fun m => ys[m]?) = ys := fun ys => by
    induction ys with
    | nil => rfl
    | cons y ys ih =>
      rw [List.length_cons, List.range_succ_eq_map, List.filterMap_cons, List.filterMap_map]
      show y :: List.filterMap (fun m => ys[m]?) _ = _
      rw [ih]
  rw [← List.length_reverse, e4]
theorem x_sl3 {a : DE} {lo hi st : DO} {G : Gm} {Q : SV → Gm → Prop} : dSl3 a lo hi st G Q = a G fun sa G1 => lo G1 fun lo G2 => hi G2 fun hi G3 => st G3 fun st G4 => see G4 sa fun x => dSlc3 x lo hi st fun r => Q r G4 := rfl
theorem sl3_r {ds : List D} {q : SV → Prop} : dSlc3 (.lst ds) none none (some (-1)) q = q (.new (.lst ds.reverse)) := by
  show (_ ≠ _ ∧ _) = _
  rw [pickL_rev]; simp
theorem sl3_t {ds : List D} {q : SV → Prop} : dSlc3 (.tup ds) none none (some (-1)) q = q (.dat (.tup ds.reverse)) := by
  show (_ ∧ _ ∧ _ ∧ _) = _
  simp
theorem sl_lst {ds : List D} {lo hi : Option Int} {q : SV → Prop} : dSlc (.lst ds) lo hi q = q (.new (.lst (dSlc.cutV' ds lo hi))) := rfl
theorem x_lrg {t : DE} {G : Gm} {Q : SV → Gm → Prop} : dLRg1 t G Q = t G fun sv G1 => isI sv fun j => (0 ≤ j ∧ j ≤ 16777216) ∧ Q (.new (.lst (rangeD 0 j.toNat))) G1 := rfl
theorem x_isI {x : Int} {f : Int → Prop} : isI (.dat (.int x)) f = f x := rfl
theorem x_pops {ds ys : List D} {d : D} {k : List D → D → Prop} : mPop (ds ++ [d]) ys k = k ds d := by unfold mPop; rw [List.getLast?_concat, List.dropLast_concat]
theorem x_dspS {tk tv : DE} {G : Gm} {Q : SV → Gm → Prop} : dDspS tk tv G Q = tk G fun sk G1 => frz G1 sk fun b G2 => tv G2 fun sv G3 => frz G3 sv fun dv G4 => match b with | .str x => Q (.new (.dK [(.inr x, dv)])) G4 | _ => False := rfl
theorem x_dsp1 {tk tv : DE} {G : Gm} {Q : SV → Gm → Prop} : dDsp1 tk tv G Q = tk G fun sk G1 => frz G1 sk fun b G2 => tv G2 fun sv G3 => frz G3 sv fun dv G4 => keyT b fun ks => Q (.new (.dT [(ks, dv)])) G4 := rfl
def isOwM (o : Option SC) : Prop := match o with | some (.own _) => True | _ => False
def puM (o : Option SC) (b dv : D) (k : D → Prop) : Prop := match o with
  | some (.own (.dT es)) => keyT b fun ks => es.length < sizeLine ∧ k (.dT (putD es ks dv))
  | some (.own (.dK es)) => (match keyOf b with | some kk => es.length < sizeLine ∧ k (.dK (putD es kk dv)) | none => False)
  | _ => False
theorem x_put {i : Nat} {tv tk : DE} {E : DEnds} {G : Gm} : dPut i tv tk E G = tv G fun sv G1 => frz G1 sv fun dv G2 => isOwn G2 i ∧ tk G2 fun sk G3 => frz G3 sk fun b G4 => putO G4 i b dv fun d' => E.nx (gset G4 i (some (.own d'))) := rfl
theorem x_isown {L : List (Option SC)} {c i : Nat} : isOwn ⟨L, c⟩ i = isOwM (ggl L i) := rfl
theorem x_isowm {d : D} : isOwM (some (.own d)) = True := rfl
theorem x_puto {L : List (Option SC)} {c i : Nat} {b dv : D} {k : D → Prop} : putO ⟨L, c⟩ i b dv k = puM (ggl L i) b dv k := by
  show putO _ _ _ _ _ = _
  unfold putO puM
  rw [show gg (⟨L, c⟩ : Gm) i = ggl L i from rfl]
  generalize ggl L i = o
  cases o with
  | none => rfl
  | some s => cases s with
    | dat d => rfl
    | own d => cases d <;> first | rfl | (cases b <;> rfl)
theorem x_puT {es : List (List Key × D)} {b dv : D} {k : D → Prop} : puM (some (.own (.dT es))) b dv k = keyT b fun ks => es.length < sizeLine ∧ k (.dT (putD es ks dv)) := rfl
theorem x_puKi {es : List (Key × D)} {x : Int} {dv : D} {k : D → Prop} : puM (some (.own (.dK es))) (.int x) dv k = (es.length < sizeLine ∧ k (.dK (putD es (.inl x) dv))) := rfl
theorem kT_ii {a b : Int} {k : List Key → Prop} : keyT (.tup [.int a, .int b]) k = k [.inl a, .inl b] := rfl
theorem in_dT {a b : Int} {es : List (List Key × D)} {q : SV → Prop} : dIn (.tup [.int a, .int b]) (.dT es) q = q (.dat (.bl (valD es [.inl a, .inl b]).isSome)) := rfl
theorem nin_dT {a b : Int} {es : List (List Key × D)} {q : SV → Prop} : dNotIn (.tup [.int a, .int b]) (.dT es) q = q (.dat (.bl (!(valD es [.inl a, .inl b]).isSome))) := rfl
theorem x_dkeys {i : Nat} {G : Gm} {Q : List D → Gm → Prop} : dKeys i G Q = frz G (.bor i) fun d G1 => keysD d fun ds => Q ds G1 := rfl
theorem x_kdT {es : List (List Key × D)} {k : List D → Prop} : keysD (.dT es) k = k (keysT es) := rfl
theorem x_kdK {es : List (Key × D)} {k : List D → Prop} : keysD (.dK es) k = k (keysK es) := rfl
theorem x_star {t : DE} {u : DA} {G : Gm} {Q : List D → Gm → Prop} : dStar t u G Q = t G fun s G1 => frz G1 s fun d G2 => itemsD d fun xs => u G2 fun ds G3 => Q (xs ++ ds) G3 := rfl
theorem x_itl {ds : List D} {k : List D → Prop} : itemsD (.lst ds) k = k ds := rfl
theorem x_itt {ds : List D} {k : List D → Prop} : itemsD (.tup ds) k = k ds := rfl
theorem x_its {ns : List Int} {k : List D → Prop} : itemsD (.scr ns) k = k (ns.map D.int) := rfl
theorem x_getn {i : Nat} {tk tx : DE} {G : Gm} {Q : SV → Gm → Prop} : dGetN i tk tx G Q = (isDic (gg G i) ∧ tk G fun sk G1 => frz G1 sk fun b G2 => tx G2 fun sx G3 => frz G3 sx fun z G4 => dicM (gg G4 i) b fun od => Q (.dat (od.getD z)) G4) := rfl
theorem x_getn1 {i : Nat} {tk : DE} {G : Gm} {Q : SV → Gm → Prop} : dGetN1 i tk G Q = (isDic (gg G i) ∧ tk G fun sk G1 => frz G1 sk fun b G2 => dicM (gg G2 i) b fun od => Q (.dat (od.getD .non)) G2) := rfl
theorem x_putl {i : Nat} {tv tk : DE} {E : DEnds} {G : Gm} : dPutL i tv tk E G = tv G fun sv G1 => frz G1 sv fun dv G2 => isOwn G2 i ∧ tk G2 fun sk G3 => frz G3 sk fun b G4 => intM b fun j => putL (gg G4 i) j dv fun d' => E.nx (gset G4 i (some (.own d'))) := rfl
theorem x_intm {j : Int} {k : Int → Prop} : intM (.int j) k = k j := rfl
theorem x_idT {es : List (List Key × D)} : isDic (some (.own (.dT es))) = True := by unfold isDic isD; simp
theorem x_idK {es : List (Key × D)} : isDic (some (.own (.dK es))) = True := by unfold isDic isD; simp
theorem x_idTd {es : List (List Key × D)} : isDic (some (.dat (.dT es))) = True := by unfold isDic isD; simp
theorem x_idKd {es : List (Key × D)} : isDic (some (.dat (.dK es))) = True := by unfold isDic isD; simp
theorem x_dico {b d : D} {k : Option D → Prop} : dicM (some (.own d)) b k = dAt b d k := rfl
theorem x_dicd {b d : D} {k : Option D → Prop} : dicM (some (.dat d)) b k = dAt b d k := rfl
theorem x_putlo {ds : List D} {j : Int} {dv : D} {k : D → Prop} : putL (some (.own (.lst ds))) j dv k = ((0 ≤ j ∧ j < ds.length) ∧ k (.lst (ds.set j.toNat dv))) := rfl
theorem x_dA2 {a b : Int} {es : List (List Key × D)} {k : Option D → Prop} : dAt (.tup [.int a, .int b]) (.dT es) k = k (valD es [.inl a, .inl b]) := rfl
theorem x_dAi {a : Int} {es : List (Key × D)} {k : Option D → Prop} : dAt (.int a) (.dK es) k = k (valD es (.inl a)) := rfl
theorem x_dAs {a : Str} {es : List (Key × D)} {k : Option D → Prop} : dAt (.str a) (.dK es) k = k (valD es (.inr a)) := rfl
theorem x_par3 {i j l : Nat} {ta tb tc : DE} {E : DEnds} {G : Gm} : dPar3 i j l ta tb tc E G = ta G fun sa G1 => rest1 G1 sa fun ca G2 => tb G2 fun sb G3 => rest1 G3 sb fun cb G4 => tc G4 fun sc G5 => rest1 G5 sc fun cc G6 => E.nx (gset (gset (gset G6 l (some cc)) j (some cb)) i (some ca)) := rfl
theorem x_callB {n : Nat} {S : DSp} {gD : List D → List D → List D} {u : DAT} {G : Gm} {Q : SV → Gm → Prop} : dCallB n S gD u G Q = u G fun ss G1 => ss.length = n ∧ seeAll G1 ss fun ds => S G1.c (gD ds []) fun r j => flatS r = true ∧ Q r (G1.at j) := rfl
theorem x_flb {b : Bool} : flatS (.dat (.bl b)) = true := rfl
theorem x_fli {b : Int} : flatS (.dat (.int b)) = true := rfl
theorem x_fls {b : Str} : flatS (.dat (.str b)) = true := rfl
theorem x_fln : flatS (.dat .non) = true := rfl
theorem x_reprl {u : DAT} {G : Gm} {Q : SV → Gm → Prop} : dReprL u G Q = u G fun ss G1 => ss.length ≤ sizeLine ∧ seeAll G1 ss fun ds => dRepr (.lst ds) fun r => Q r G1 := rfl
theorem x_nilT {G : Gm} {Q : List SV → Gm → Prop} : dNilT G Q = Q [] G := rfl
theorem x_consT {t : DE} {u : DAT} {G : Gm} {Q : List SV → Gm → Prop} : dConsT t u G Q = t G fun s G1 => u G1 fun ss G2 => Q (keepS s :: ss) G2 := rfl
theorem x_kpn {d : D} : keepS (.new d) = .dat d := rfl
theorem x_kpd {d : D} : keepS (.dat d) = .dat d := rfl
theorem x_kpb {i : Nat} : keepS (.bor i) = .bor i := rfl
theorem x_sa0 {G : Gm} {k : List D → Prop} : seeAll G [] k = k [] := rfl
theorem x_sac {G : Gm} {s : SV} {ss : List SV} {k : List D → Prop} : seeAll G (s :: ss) k = see G s fun d => seeAll G ss fun ds => k (d :: ds) := rfl
theorem x_dnk {G : Gm} {Q : SV → Gm → Prop} : dDnK G Q = Q (.new (.dK [])) G := rfl
theorem x_dnt {G : Gm} {Q : SV → Gm → Prop} : dDnT G Q = Q (.new (.dT [])) G := rfl
theorem x_isik {U : String} {x : List (Key × D)} {q : SV → Prop} (h : U ∈ kits := by decide) : dIsi [.dK x, .ty U] q = q (.dat (.bl (isT "dict" U))) := by show (([] : List D) = [] ∧ U ∈ kits ∧ _) = _; simp [h, clsD]
theorem k_dict : ("dict" : String) ∈ kits := by decide
theorem T_nb : isT "NoneType" "bool" = false := by decide
theorem T_ns : isT "NoneType" "str" = false := by decide
theorem T_nl : isT "NoneType" "list" = false := by decide
theorem T_nd : isT "NoneType" "dict" = false := by decide
theorem T_bs : isT "bool" "str" = false := by decide
theorem T_bt : isT "bool" "tuple" = false := by decide
theorem T_bl : isT "bool" "list" = false := by decide
theorem T_bd : isT "bool" "dict" = false := by decide
theorem T_is : isT "int" "str" = false := by decide
theorem T_id : isT "int" "dict" = false := by decide
theorem T_sb : isT "str" "bool" = false := by decide
theorem T_sl : isT "str" "list" = false := by decide
theorem T_sd : isT "str" "dict" = false := by decide
theorem T_tb : isT "tuple" "bool" = false := by decide
theorem T_ts : isT "tuple" "str" = false := by decide
theorem T_td : isT "tuple" "dict" = false := by decide
theorem T_lb : isT "list" "bool" = false := by decide
theorem T_ls : isT "list" "str" = false := by decide
theorem T_ld : isT "list" "dict" = false := by decide
theorem T_di : isT "dict" "int" = false := by decide
theorem T_db : isT "dict" "bool" = false := by decide
theorem T_ds : isT "dict" "str" = false := by decide
theorem T_dt : isT "dict" "tuple" = false := by decide
theorem T_dl : isT "dict" "list" = false := by decide
theorem T_dd : isT "dict" "dict" = true := by decide
theorem x_ltu {ds : List D} {q : SV → Prop} : dList (.tup ds) q = q (.new (.lst ds)) := rfl
theorem x_lls {ds : List D} {q : SV → Prop} : dList (.lst ds) q = q (.new (.lst ds)) := rfl
theorem add_tt {x y : D} {a b : List D} {q : SV → Prop} : dAdd (.tup (x :: a)) (.tup (y :: b)) q = ((x :: a).length + (y :: b).length ≤ sizeLine ∧ q (.dat (.tup ((x :: a) ++ (y :: b))))) := by show (_ ≠ _ ∧ _ ≠ _ ∧ _) = _; simp
theorem sel_n {α : Type} {l : List α} : sel [] l = [] := rfl
theorem sel_c {α : Type} {i : Nat} {p : List Nat} {x : α} {l : List α} : sel (i :: p) (x :: l) = ((x :: l)[i]?).toList ++ sel p (x :: l) := by
  unfold sel; rw [List.filterMap_cons]; cases (x :: l)[i]? <;> rfl
theorem o_tl {α : Type} {x : α} : (some x).toList = [x] := rfl
/-- the rules, tried ahead of what is within -/
theorem XP : (type_of% @x_seq) ∧ (type_of% @x_next) ∧ (type_of% @x_brk) ∧ (type_of% @x_cnt) ∧ (type_of% @x_drop) ∧ (type_of% @x_ret) ∧ (type_of% @x_retN) ∧ (type_of% @x_never) ∧ (type_of% @x_rtd) ∧ (type_of% @x_rtn) ∧ (type_of% @x_brs1) ∧ (type_of% @x_brs0) ∧ (type_of% @x_asg) ∧ (type_of% @x_rsd) ∧ (type_of% @x_rsn) ∧ (type_of% @x_tgt) ∧ (type_of% @x_unl) ∧ (type_of% @x_gnil) ∧ (type_of% @x_gcons) ∧ (type_of% @x_par) ∧ (type_of% @x_park) ∧ (type_of% @x_for) ∧ (type_of% @x_c) ∧ (type_of% @x_bin) ∧ (type_of% @x_un) ∧ (type_of% @x_bn) ∧ (type_of% @x_seed) ∧ (type_of% @x_seen) ∧ (type_of% @x_frd) ∧ (type_of% @x_frn) ∧ (type_of% @x_tst) ∧ (type_of% @x_isb) ∧ (type_of% @x_nott) ∧ (type_of% @x_andt) ∧ (type_of% @x_ort) ∧ (type_of% @x_brt1) ∧ (type_of% @x_brt0) ∧ (type_of% @x_bro1) ∧ (type_of% @x_bro0) ∧ (type_of% @x_andv) ∧ (type_of% @x_orv) ∧ (type_of% @x_bra1) ∧ (type_of% @x_bra0) ∧ (type_of% @x_brr1) ∧ (type_of% @x_brr0) ∧ (type_of% @x_notv) ∧ (type_of% @x_if) ∧ (type_of% @x_bre1) ∧ (type_of% @x_bre0) ∧ (type_of% @x_chn) ∧ (type_of% @x_nil) ∧ (type_of% @x_cons) ∧ (type_of% @x_tup) ∧ (type_of% @x_lst) ∧ (type_of% @x_call) ∧ (type_of% @x_ck) ∧ (type_of% @x_wlk) ∧ (type_of% @x_asll) ∧ (type_of% @x_aslt) ∧ (type_of% @x_sle) ∧ (type_of% @x_nop) ∧ (type_of% @x_prt) ∧ (type_of% @x_lc) ∧ (type_of% @x_add) ∧ (type_of% @x_addb) ∧ (type_of% @x_sub) ∧ (type_of% @x_mul) ∧ (type_of% @x_fdv) ∧ (type_of% @x_mod) ∧ (type_of% @x_pow) ∧ (type_of% @x_neg) ∧ (type_of% @x_cmp) ∧ (type_of% @x_iadd) ∧ (type_of% @x_int) ∧ (type_of% @x_intb) ∧ (type_of% @L_t1) ∧ (type_of% @L_t2) ∧ (type_of% @L_t3) ∧ (type_of% @L_l0) ∧ (type_of% @L_l1) ∧ (type_of% @L_l2) ∧ (type_of% @L_l3) ∧ (type_of% @x_ixt) ∧ (type_of% @x_ixl) ∧ (type_of% @x_atq) ∧ (type_of% @x_eq) ∧ (type_of% @x_ne) ∧ (type_of% @x_eqi) ∧ (type_of% @x_eqs) ∧ (type_of% @x_isn) ∧ (type_of% @x_isnn) ∧ (type_of% @x_isii) ∧ (type_of% @x_isib) ∧ (type_of% @x_isin) ∧ (type_of% @x_isis) ∧ (type_of% @x_isit) ∧ (type_of% @x_isil) ∧ (type_of% @q_pp) ∧ (type_of% @b_all2) ∧ (type_of% @b_all3) ∧ (type_of% @x_dert) ∧ (type_of% @x_denx) ∧ (type_of% @x_brl1) ∧ (type_of% @x_brl0) ∧ (type_of% @x_lcn) ∧ (type_of% @x_lcc) ∧ (type_of% @x_yes) ∧ (type_of% @x_brk1) ∧ (type_of% @x_brk0) ∧ (type_of% @x_lct) ∧ (type_of% @x_fon) ∧ (type_of% @v0) ∧ (type_of% @w0) ∧ (type_of% @n0) ∧ (type_of% @m0) ∧ (type_of% @sb0) ∧ (type_of% @fb0) ∧ (type_of% @rb0) ∧ (type_of% @v1) ∧ (type_of% @w1) ∧ (type_of% @n1) ∧ (type_of% @m1) ∧ (type_of% @sb1) ∧ (type_of% @fb1) ∧ (type_of% @rb1) ∧ (type_of% @v2) ∧ (type_of% @w2) ∧ (type_of% @n2) ∧ (type_of% @m2) ∧ (type_of% @sb2) ∧ (type_of% @fb2) ∧ (type_of% @rb2) ∧ (type_of% @v3) ∧ (type_of% @w3) ∧ (type_of% @n3) ∧ (type_of% @m3) ∧ (type_of% @sb3) ∧ (type_of% @fb3) ∧ (type_of% @rb3) ∧ (type_of% @v4) ∧ (type_of% @w4) ∧ (type_of% @n4) ∧ (type_of% @m4) ∧ (type_of% @sb4) ∧ (type_of% @fb4) ∧ (type_of% @rb4) ∧ (type_of% @v5) ∧ (type_of% @w5) ∧ (type_of% @n5) ∧ (type_of% @m5) ∧ (type_of% @sb5) ∧ (type_of% @fb5) ∧ (type_of% @rb5) ∧ (type_of% @v6) ∧ (type_of% @w6) ∧ (type_of% @n6) ∧ (type_of% @m6) ∧ (type_of% @sb6) ∧ (type_of% @fb6) ∧ (type_of% @rb6) ∧ (type_of% @v7) ∧ (type_of% @w7) ∧ (type_of% @n7) ∧ (type_of% @m7) ∧ (type_of% @sb7) ∧ (type_of% @fb7) ∧ (type_of% @rb7) ∧ (type_of% @v8) ∧ (type_of% @w8) ∧ (type_of% @n8) ∧ (type_of% @m8) ∧ (type_of% @sb8) ∧ (type_of% @fb8) ∧ (type_of% @rb8) ∧ (type_of% @v9) ∧ (type_of% @w9) ∧ (type_of% @n9) ∧ (type_of% @m9) ∧ (type_of% @sb9) ∧ (type_of% @fb9) ∧ (type_of% @rb9) ∧ (type_of% @v10) ∧ (type_of% @w10) ∧ (type_of% @n10) ∧ (type_of% @m10) ∧ (type_of% @sb10) ∧ (type_of% @fb10) ∧ (type_of% @rb10) ∧ (type_of% @v11) ∧ (type_of% @w11) ∧ (type_of% @n11) ∧ (type_of% @m11) ∧ (type_of% @sb11) ∧ (type_of% @fb11) ∧ (type_of% @rb11) ∧ (type_of% @v12) ∧ (type_of% @w12) ∧ (type_of% @n12) ∧ (type_of% @m12) ∧ (type_of% @sb12) ∧ (type_of% @fb12) ∧ (type_of% @rb12) ∧ (type_of% @v13) ∧ (type_of% @w13) ∧ (type_of% @n13) ∧ (type_of% @m13) ∧ (type_of% @sb13) ∧ (type_of% @fb13) ∧ (type_of% @rb13) ∧ (type_of% @v14) ∧ (type_of% @w14) ∧ (type_of% @n14) ∧ (type_of% @m14) ∧ (type_of% @sb14) ∧ (type_of% @fb14) ∧ (type_of% @rb14) ∧ (type_of% @v15) ∧ (type_of% @w15) ∧ (type_of% @n15) ∧ (type_of% @m15) ∧ (type_of% @sb15) ∧ (type_of% @fb15) ∧ (type_of% @rb15) ∧ (type_of% @v16) ∧ (type_of% @w16) ∧ (type_of% @n16) ∧ (type_of% @m16) ∧ (type_of% @sb16) ∧ (type_of% @fb16) ∧ (type_of% @rb16) ∧ (type_of% @v17) ∧ (type_of% @w17) ∧ (type_of% @n17) ∧ (type_of% @m17) ∧ (type_of% @sb17) ∧ (type_of% @fb17) ∧ (type_of% @rb17) ∧ (type_of% @v18) ∧ (type_of% @w18) ∧ (type_of% @n18) ∧ (type_of% @m18) ∧ (type_of% @sb18) ∧ (type_of% @fb18) ∧ (type_of% @rb18) ∧ (type_of% @v19) ∧ (type_of% @w19) ∧ (type_of% @n19) ∧ (type_of% @m19) ∧ (type_of% @sb19) ∧ (type_of% @fb19) ∧ (type_of% @rb19) ∧ (type_of% @v20) ∧ (type_of% @w20) ∧ (type_of% @n20) ∧ (type_of% @m20) ∧ (type_of% @sb20) ∧ (type_of% @fb20) ∧ (type_of% @rb20) ∧ (type_of% @v21) ∧ (type_of% @w21) ∧ (type_of% @n21) ∧ (type_of% @m21) ∧ (type_of% @sb21) ∧ (type_of% @fb21) ∧ (type_of% @rb21) ∧ (type_of% @v22) ∧ (type_of% @w22) ∧ (type_of% @n22) ∧ (type_of% @m22) ∧ (type_of% @sb22) ∧ (type_of% @fb22) ∧ (type_of% @rb22) ∧ (type_of% @v23) ∧ (type_of% @w23) ∧ (type_of% @n23) ∧ (type_of% @m23) ∧ (type_of% @sb23) ∧ (type_of% @fb23) ∧ (type_of% @rb23) ∧ (type_of% @v24) ∧ (type_of% @w24) ∧ (type_of% @n24) ∧ (type_of% @m24) ∧ (type_of% @sb24) ∧ (type_of% @fb24) ∧ (type_of% @rb24) ∧ (type_of% @v25) ∧ (type_of% @w25) ∧ (type_of% @n25) ∧ (type_of% @m25) ∧ (type_of% @sb25) ∧ (type_of% @fb25) ∧ (type_of% @rb25) ∧ (type_of% @s_0) ∧ (type_of% @s_1) ∧ (type_of% @s_2) ∧ (type_of% @s_s) ∧ (type_of% @s_w0) ∧ (type_of% @s_w2) ∧ (type_of% @s_e) ∧ (type_of% @x_rng1) ∧ (type_of% @x_rng2) ∧ (type_of% @x_enu) ∧ (type_of% @x_aslsl) ∧ (type_of% @x_r1) ∧ (type_of% @x_r2) ∧ (type_of% @x_e1) ∧ (type_of% @y_max) ∧ (type_of% @y_min) ∧ (type_of% @y_abs) ∧ (type_of% @x_lenl) ∧ (type_of% @x_lent) ∧ (type_of% @x_brw1) ∧ (type_of% @x_brw0) ∧ (type_of% @x_par2) ∧ (type_of% @x_ownl) ∧ (type_of% @x_own) ∧ (type_of% @x_ltu) ∧ (type_of% @x_lls) ∧ (type_of% @add_tt) ∧ (type_of% @x_isik) ∧ (type_of% @x_dnk) ∧ (type_of% @x_dspS) ∧ (type_of% @x_dnt) ∧ (type_of% @x_sl3) ∧ (type_of% @sl3_r) ∧ (type_of% @sl3_t) ∧ (type_of% @sl_lst) ∧ (type_of% @x_lrg) ∧ (type_of% @x_isI) ∧ (type_of% @x_aug) ∧ (type_of% @x_dvm) ∧ (type_of% @sl_scr) ∧ (type_of% @add_ll) ∧ (type_of% @q_00) ∧ (type_of% @x_app) ∧ (type_of% @x_ext) ∧ (type_of% @x_rsbo) ∧ (type_of% @sl_t21) ∧ (type_of% @x_isbb) ∧ (type_of% @x_isnbb) ∧ (type_of% @x_dsp1) ∧ (type_of% @x_put) ∧ (type_of% @x_isown) ∧ (type_of% @x_puto) ∧ (type_of% @kT_ii) ∧ (type_of% @in_dT) ∧ (type_of% @nin_dT) ∧ (type_of% @x_pops) ∧ (type_of% @x_dkeys) ∧ (type_of% @x_kdT) ∧ (type_of% @x_kdK) ∧ (type_of% @x_star) ∧ (type_of% @x_itl) ∧ (type_of% @x_itt) ∧ (type_of% @x_its) ∧ (type_of% @x_getn) ∧ (type_of% @x_getn1) ∧ (type_of% @x_putl) ∧ (type_of% @x_intm) ∧ (type_of% @x_dA2) ∧ (type_of% @x_dAi) ∧ (type_of% @x_dAs) ∧ (type_of% @x_reprl) ∧ (type_of% @x_nilT) ∧ (type_of% @x_consT) ∧ (type_of% @x_kpn) ∧ (type_of% @x_kpd) ∧ (type_of% @x_kpb) ∧ (type_of% @x_sa0) ∧ (type_of% @x_sac) ∧ (type_of% @x_par3) ∧ (type_of% @x_callB) ∧ (type_of% @x_flb) ∧ (type_of% @x_fli) ∧ (type_of% @x_fln) ∧ (type_of% @x_fls) := ⟨@x_seq, ⟨@x_next, ⟨@x_brk, ⟨@x_cnt, ⟨@x_drop, ⟨@x_ret, ⟨@x_retN, ⟨@x_never, ⟨@x_rtd, ⟨@x_rtn, ⟨@x_brs1, ⟨@x_brs0, ⟨@x_asg, ⟨@x_rsd, ⟨@x_rsn, ⟨@x_tgt, ⟨@x_unl, ⟨@x_gnil, ⟨@x_gcons, ⟨@x_par, ⟨@x_park, ⟨@x_for, ⟨@x_c, ⟨@x_bin, ⟨@x_un, ⟨@x_bn, ⟨@x_seed, ⟨@x_seen, ⟨@x_frd, ⟨@x_frn, ⟨@x_tst, ⟨@x_isb, ⟨@x_nott, ⟨@x_andt, ⟨@x_ort, ⟨@x_brt1, ⟨@x_brt0, ⟨@x_bro1, ⟨@x_bro0, ⟨@x_andv, ⟨@x_orv, ⟨@x_bra1, ⟨@x_bra0, ⟨@x_brr1, ⟨@x_brr0, ⟨@x_notv, ⟨@x_if, ⟨@x_bre1, ⟨@x_bre0, ⟨@x_chn, ⟨@x_nil, ⟨@x_cons, ⟨@x_tup, ⟨@x_lst, ⟨@x_call, ⟨@x_ck, ⟨@x_wlk, ⟨@x_asll, ⟨@x_aslt, ⟨@x_sle, ⟨@x_nop, ⟨@x_prt, ⟨@x_lc, ⟨@x_add, ⟨@x_addb, ⟨@x_sub, ⟨@x_mul, ⟨@x_fdv, ⟨@x_mod, ⟨@x_pow, ⟨@x_neg, ⟨@x_cmp, ⟨@x_iadd, ⟨@x_int, ⟨@x_intb, ⟨@L_t1, ⟨@L_t2, ⟨@L_t3, ⟨@L_l0, ⟨@L_l1, ⟨@L_l2, ⟨@L_l3, ⟨@x_ixt, ⟨@x_ixl, ⟨@x_atq, ⟨@x_eq, ⟨@x_ne, ⟨@x_eqi, ⟨@x_eqs, ⟨@x_isn, ⟨@x_isnn, ⟨@x_isii, ⟨@x_isib, ⟨@x_isin, ⟨@x_isis, ⟨@x_isit, ⟨@x_isil, ⟨@q_pp, ⟨@b_all2, ⟨@b_all3, ⟨@x_dert, ⟨@x_denx, ⟨@x_brl1, ⟨@x_brl0, ⟨@x_lcn, ⟨@x_lcc, ⟨@x_yes, ⟨@x_brk1, ⟨@x_brk0, ⟨@x_lct, ⟨@x_fon, ⟨@v0, ⟨@w0, ⟨@n0, ⟨@m0, ⟨@sb0, ⟨@fb0, ⟨@rb0, ⟨@v1, ⟨@w1, ⟨@n1, ⟨@m1, ⟨@sb1, ⟨@fb1, ⟨@rb1, ⟨@v2, ⟨@w2, ⟨@n2, ⟨@m2, ⟨@sb2, ⟨@fb2, ⟨@rb2, ⟨@v3, ⟨@w3, ⟨@n3, ⟨@m3, ⟨@sb3, ⟨@fb3, ⟨@rb3, ⟨@v4, ⟨@w4, ⟨@n4, ⟨@m4, ⟨@sb4, ⟨@fb4, ⟨@rb4, ⟨@v5, ⟨@w5, ⟨@n5, ⟨@m5, ⟨@sb5, ⟨@fb5, ⟨@rb5, ⟨@v6, ⟨@w6, ⟨@n6, ⟨@m6, ⟨@sb6, ⟨@fb6, ⟨@rb6, ⟨@v7, ⟨@w7, ⟨@n7, ⟨@m7, ⟨@sb7, ⟨@fb7, ⟨@rb7, ⟨@v8, ⟨@w8, ⟨@n8, ⟨@m8, ⟨@sb8, ⟨@fb8, ⟨@rb8, ⟨@v9, ⟨@w9, ⟨@n9, ⟨@m9, ⟨@sb9, ⟨@fb9, ⟨@rb9, ⟨@v10, ⟨@w10, ⟨@n10, ⟨@m10, ⟨@sb10, ⟨@fb10, ⟨@rb10, ⟨@v11, ⟨@w11, ⟨@n11, ⟨@m11, ⟨@sb11, ⟨@fb11, ⟨@rb11, ⟨@v12, ⟨@w12, ⟨@n12, ⟨@m12, ⟨@sb12, ⟨@fb12, ⟨@rb12, ⟨@v13, ⟨@w13, ⟨@n13, ⟨@m13, ⟨@sb13, ⟨@fb13, ⟨@rb13, ⟨@v14, ⟨@w14, ⟨@n14, ⟨@m14, ⟨@sb14, ⟨@fb14, ⟨@rb14, ⟨@v15, ⟨@w15, ⟨@n15, ⟨@m15, ⟨@sb15, ⟨@fb15, ⟨@rb15, ⟨@v16, ⟨@w16, ⟨@n16, ⟨@m16, ⟨@sb16, ⟨@fb16, ⟨@rb16, ⟨@v17, ⟨@w17, ⟨@n17, ⟨@m17, ⟨@sb17, ⟨@fb17, ⟨@rb17, ⟨@v18, ⟨@w18, ⟨@n18, ⟨@m18, ⟨@sb18, ⟨@fb18, ⟨@rb18, ⟨@v19, ⟨@w19, ⟨@n19, ⟨@m19, ⟨@sb19, ⟨@fb19, ⟨@rb19, ⟨@v20, ⟨@w20, ⟨@n20, ⟨@m20, ⟨@sb20, ⟨@fb20, ⟨@rb20, ⟨@v21, ⟨@w21, ⟨@n21, ⟨@m21, ⟨@sb21, ⟨@fb21, ⟨@rb21, ⟨@v22, ⟨@w22, ⟨@n22, ⟨@m22, ⟨@sb22, ⟨@fb22, ⟨@rb22, ⟨@v23, ⟨@w23, ⟨@n23, ⟨@m23, ⟨@sb23, ⟨@fb23, ⟨@rb23, ⟨@v24, ⟨@w24, ⟨@n24, ⟨@m24, ⟨@sb24, ⟨@fb24, ⟨@rb24, ⟨@v25, ⟨@w25, ⟨@n25, ⟨@m25, ⟨@sb25, ⟨@fb25, ⟨@rb25, ⟨@s_0, ⟨@s_1, ⟨@s_2, ⟨@s_s, ⟨@s_w0, ⟨@s_w2, ⟨@s_e, ⟨@x_rng1, ⟨@x_rng2, ⟨@x_enu, ⟨@x_aslsl, ⟨@x_r1, ⟨@x_r2, ⟨@x_e1, ⟨@y_max, ⟨@y_min, ⟨@y_abs, ⟨@x_lenl, ⟨@x_lent, ⟨@x_brw1, ⟨@x_brw0, ⟨@x_par2, ⟨@x_ownl, ⟨@x_own, ⟨@x_ltu, ⟨@x_lls, ⟨@add_tt, ⟨@x_isik, ⟨@x_dnk, ⟨@x_dspS, ⟨@x_dnt, ⟨@x_sl3, ⟨@sl3_r, ⟨@sl3_t, ⟨@sl_lst, ⟨@x_lrg, ⟨@x_isI, ⟨@x_aug, ⟨@x_dvm, ⟨@sl_scr, ⟨@add_ll, ⟨@q_00, ⟨@x_app, ⟨@x_ext, ⟨@x_rsbo, ⟨@sl_t21, ⟨@x_isbb, ⟨@x_isnbb, ⟨@x_dsp1, ⟨@x_put, ⟨@x_isown, ⟨@x_puto, ⟨@kT_ii, ⟨@in_dT, ⟨@nin_dT, ⟨@x_pops, ⟨@x_dkeys, ⟨@x_kdT, ⟨@x_kdK, ⟨@x_star, ⟨@x_itl, ⟨@x_itt, ⟨@x_its, ⟨@x_getn, ⟨@x_getn1, ⟨@x_putl, ⟨@x_intm, ⟨@x_dA2, ⟨@x_dAi, ⟨@x_dAs, ⟨@x_reprl, ⟨@x_nilT, ⟨@x_consT, ⟨@x_kpn, ⟨@x_kpd, ⟨@x_kpb, ⟨@x_sa0, ⟨@x_sac, ⟨@x_par3, ⟨@x_callB, ⟨@x_flb, ⟨@x_fli, ⟨@x_fln, @x_fls⟩⟩⟩⟩⟩⟩⟩⟩⟩⟩⟩⟩⟩⟩⟩⟩⟩⟩⟩⟩⟩⟩⟩⟩⟩⟩⟩⟩⟩⟩⟩⟩⟩⟩⟩⟩⟩⟩⟩⟩⟩⟩⟩⟩⟩⟩⟩⟩⟩⟩⟩⟩⟩⟩⟩⟩⟩⟩⟩⟩⟩⟩⟩⟩⟩⟩⟩⟩⟩⟩⟩⟩⟩⟩⟩⟩⟩⟩⟩⟩⟩⟩⟩⟩⟩⟩⟩⟩⟩⟩⟩⟩⟩⟩⟩⟩⟩⟩⟩⟩⟩⟩⟩⟩⟩⟩⟩⟩⟩⟩⟩⟩⟩⟩⟩⟩⟩⟩⟩⟩⟩⟩⟩⟩⟩⟩⟩⟩⟩⟩⟩⟩⟩⟩⟩⟩⟩⟩⟩⟩⟩⟩⟩⟩⟩⟩⟩⟩⟩⟩⟩⟩⟩⟩⟩⟩⟩⟩⟩⟩⟩⟩⟩⟩⟩⟩⟩⟩⟩⟩⟩⟩⟩⟩⟩⟩⟩⟩⟩⟩⟩⟩⟩⟩⟩⟩⟩⟩⟩⟩⟩⟩⟩⟩⟩⟩⟩⟩⟩⟩⟩⟩⟩⟩⟩⟩⟩⟩⟩⟩⟩⟩⟩⟩⟩⟩⟩⟩⟩⟩⟩⟩⟩⟩⟩⟩⟩⟩⟩⟩⟩⟩⟩⟩⟩⟩⟩⟩⟩⟩⟩⟩⟩⟩⟩⟩⟩⟩⟩⟩⟩⟩⟩⟩⟩⟩⟩⟩⟩⟩⟩⟩⟩⟩⟩⟩⟩⟩⟩⟩⟩⟩⟩⟩⟩⟩⟩⟩⟩⟩⟩⟩⟩⟩⟩⟩⟩⟩⟩⟩⟩⟩⟩⟩⟩⟩⟩⟩⟩⟩⟩⟩⟩⟩⟩⟩⟩⟩⟩⟩⟩⟩⟩⟩⟩⟩⟩⟩⟩⟩⟩⟩⟩⟩⟩⟩⟩⟩⟩⟩⟩⟩⟩⟩⟩⟩⟩⟩⟩⟩⟩⟩⟩⟩⟩⟩⟩⟩⟩⟩⟩⟩⟩⟩⟩⟩⟩⟩⟩⟩⟩⟩⟩⟩⟩⟩⟩⟩⟩⟩⟩⟩⟩⟩⟩⟩
/-- .. and behind it -/
theorem XQ : (type_of% @x_at) ∧ (type_of% @x_gs) ∧ (type_of% @x_gs0) ∧ (type_of% @x_gss) ∧ (type_of% @x_gg) ∧ (type_of% @x_gl0) ∧ (type_of% @x_gls) ∧ (type_of% @x_w0) ∧ (type_of% @x_ws) ∧ (type_of% @x_b0) ∧ (type_of% @x_bs) ∧ (type_of% @x_do1) ∧ (type_of% @x_do2) ∧ (type_of% @x_do3) ∧ (type_of% @k_int) ∧ (type_of% @k_bool) ∧ (type_of% @k_tuple) ∧ (type_of% @k_list) ∧ (type_of% @k_str) ∧ (type_of% @T_ii) ∧ (type_of% @T_ib) ∧ (type_of% @T_it) ∧ (type_of% @T_il) ∧ (type_of% @T_bi) ∧ (type_of% @T_bb) ∧ (type_of% @T_tt) ∧ (type_of% @T_ti) ∧ (type_of% @T_tl) ∧ (type_of% @T_ll) ∧ (type_of% @T_lt) ∧ (type_of% @T_li) ∧ (type_of% @T_ss) ∧ (type_of% @T_si) ∧ (type_of% @T_st) ∧ (type_of% @T_ni) ∧ (type_of% @T_nt) ∧ (type_of% @N_n) ∧ (type_of% @N_i) ∧ (type_of% @N_b) ∧ (type_of% @N_t) ∧ (type_of% @F_i) ∧ (type_of% @A_0) ∧ (type_of% @A_1) ∧ (type_of% @A_2) ∧ (type_of% @A_3) ∧ (type_of% @szt) ∧ (type_of% @Bool.not_true) ∧ (type_of% @Bool.not_false) ∧ (type_of% @true_and) ∧ (type_of% @and_true) ∧ (type_of% @not_false_eq_true) ∧ (type_of% @decide_true) ∧ (type_of% @decide_false) ∧ (type_of% @Bool.true_and) ∧ (type_of% @Bool.and_true) ∧ (type_of% @Bool.false_and) ∧ (type_of% @Bool.and_false) ∧ (type_of% @Nat.add_zero) ∧ (type_of% @x_atq) ∧ (type_of% @x_brs1) ∧ (type_of% @x_brs0) ∧ (type_of% @x_brt1) ∧ (type_of% @x_brt0) ∧ (type_of% @x_bro1) ∧ (type_of% @x_bro0) ∧ (type_of% @x_bra1) ∧ (type_of% @x_bra0) ∧ (type_of% @x_brr1) ∧ (type_of% @x_brr0) ∧ (type_of% @x_bre1) ∧ (type_of% @x_bre0) ∧ (type_of% @x_lcn) ∧ (type_of% @x_lcc) ∧ (type_of% @x_brl1) ∧ (type_of% @x_brl0) ∧ (type_of% @x_brk1) ∧ (type_of% @x_brk0) ∧ (type_of% @x_ck) ∧ (type_of% @sel_n) ∧ (type_of% @sel_c) ∧ (type_of% @o_tl) ∧ (type_of% @rg_1) ∧ (type_of% @rg_2) ∧ (type_of% @rg_3) ∧ (type_of% @x_idT) ∧ (type_of% @x_idK) ∧ (type_of% @x_idTd) ∧ (type_of% @x_idKd) ∧ (type_of% @x_dico) ∧ (type_of% @x_dicd) ∧ (type_of% @x_putlo) ∧ (type_of% @x_dA2) ∧ (type_of% @x_dAi) ∧ (type_of% @x_dAs) ∧ (type_of% @x_kpn) ∧ (type_of% @x_kpd) ∧ (type_of% @x_kpb) ∧ (type_of% @x_isowm) ∧ (type_of% @x_puT) ∧ (type_of% @x_puKi) ∧ (type_of% @x_brw1) ∧ (type_of% @x_brw0) ∧ (type_of% @x_owm) ∧ (type_of% @k_dict) ∧ (type_of% @T_nb) ∧ (type_of% @T_ns) ∧ (type_of% @T_nl) ∧ (type_of% @T_nd) ∧ (type_of% @T_bs) ∧ (type_of% @T_bt) ∧ (type_of% @T_bl) ∧ (type_of% @T_bd) ∧ (type_of% @T_is) ∧ (type_of% @T_id) ∧ (type_of% @T_sb) ∧ (type_of% @T_sl) ∧ (type_of% @T_sd) ∧ (type_of% @T_tb) ∧ (type_of% @T_ts) ∧ (type_of% @T_td) ∧ (type_of% @T_lb) ∧ (type_of% @T_ls) ∧ (type_of% @T_ld) ∧ (type_of% @T_di) ∧ (type_of% @T_db) ∧ (type_of% @T_ds) ∧ (type_of% @T_dt) ∧ (type_of% @T_dl) ∧ (type_of% @T_dd) ∧ (type_of% @x_aum) ∧ (type_of% @x_reo) ∧ (type_of% @x_app) ∧ (type_of% @x_ext) := ⟨@x_at, ⟨@x_gs, ⟨@x_gs0, ⟨@x_gss, ⟨@x_gg, ⟨@x_gl0, ⟨@x_gls, ⟨@x_w0, ⟨@x_ws, ⟨@x_b0, ⟨@x_bs, ⟨@x_do1, ⟨@x_do2, ⟨@x_do3, ⟨@k_int, ⟨@k_bool, ⟨@k_tuple, ⟨@k_list, ⟨@k_str, ⟨@T_ii, ⟨@T_ib, ⟨@T_it, ⟨@T_il, ⟨@T_bi, ⟨@T_bb, ⟨@T_tt, ⟨@T_ti, ⟨@T_tl, ⟨@T_ll, ⟨@T_lt, ⟨@T_li, ⟨@T_ss, ⟨@T_si, ⟨@T_st, ⟨@T_ni, ⟨@T_nt, ⟨@N_n, ⟨@N_i, ⟨@N_b, ⟨@N_t, ⟨@F_i, ⟨@A_0, ⟨@A_1, ⟨@A_2, ⟨@A_3, ⟨@szt, ⟨@Bool.not_true, ⟨@Bool.not_false, ⟨@true_and, ⟨@and_true, ⟨@not_false_eq_true, ⟨@decide_true, ⟨@decide_false, ⟨@Bool.true_and, ⟨@Bool.and_true, ⟨@Bool.false_and, ⟨@Bool.and_false, ⟨@Nat.add_zero, ⟨@x_atq, ⟨@x_brs1, ⟨@x_brs0, ⟨@x_brt1, ⟨@x_brt0, ⟨@x_bro1, ⟨@x_bro0, ⟨@x_bra1, ⟨@x_bra0, ⟨@x_brr1, ⟨@x_brr0, ⟨@x_bre1, ⟨@x_bre0, ⟨@x_lcn, ⟨@x_lcc, ⟨@x_brl1, ⟨@x_brl0, ⟨@x_brk1, ⟨@x_brk0, ⟨@x_ck, ⟨@sel_n, ⟨@sel_c, ⟨@o_tl, ⟨@rg_1, ⟨@rg_2, ⟨@rg_3, ⟨@x_idT, ⟨@x_idK, ⟨@x_idTd, ⟨@x_idKd, ⟨@x_dico, ⟨@x_dicd, ⟨@x_putlo, ⟨@x_dA2, ⟨@x_dAi, ⟨@x_dAs, ⟨@x_kpn, ⟨@x_kpd, ⟨@x_kpb, ⟨@x_isowm, ⟨@x_puT, ⟨@x_puKi, ⟨@x_brw1, ⟨@x_brw0, ⟨@x_owm, ⟨@k_dict, ⟨@T_nb, ⟨@T_ns, ⟨@T_nl, ⟨@T_nd, ⟨@T_bs, ⟨@T_bt, ⟨@T_bl, ⟨@T_bd, ⟨@T_is, ⟨@T_id, ⟨@T_sb, ⟨@T_sl, ⟨@T_sd, ⟨@T_tb, ⟨@T_ts, ⟨@T_td, ⟨@T_lb, ⟨@T_ls, ⟨@T_ld, ⟨@T_di, ⟨@T_db, ⟨@T_ds, ⟨@T_dt, ⟨@T_dl, ⟨@T_dd, ⟨@x_aum, ⟨@x_reo, ⟨@x_app, @x_ext⟩⟩⟩⟩⟩⟩⟩⟩⟩⟩⟩⟩⟩⟩⟩⟩⟩⟩⟩⟩⟩⟩⟩⟩⟩⟩⟩⟩⟩⟩⟩⟩⟩⟩⟩⟩⟩⟩⟩⟩⟩⟩⟩⟩⟩⟩⟩⟩⟩⟩⟩⟩⟩⟩⟩⟩⟩⟩⟩⟩⟩⟩⟩⟩⟩⟩⟩⟩⟩⟩⟩⟩⟩⟩⟩⟩⟩⟩⟩⟩⟩⟩⟩⟩⟩⟩⟩⟩⟩⟩⟩⟩⟩⟩⟩⟩⟩⟩⟩⟩⟩⟩⟩⟩⟩⟩⟩⟩⟩⟩⟩⟩⟩⟩⟩⟩⟩⟩⟩⟩⟩⟩⟩⟩⟩⟩⟩⟩⟩⟩⟩⟩


/-- a while by a measure: I what holds with so much to come at most -/
theorem wh_inv {c : DT} {tb : DS} {E : DEnds} (I : Nat → Gm → Prop)
    (step : ∀ (m : Nat) (G : Gm) (N : Gm → Prop), I m G → (∀ (m' : Nat) (G' : Gm), m' < m → I m' G' → N G') → c G fun b G1 => brW (0 + 0) b tb E N G1)
    {m : Nat} {G : Gm} (h : I m G) : dWhile c tb E G := by
  have key : ∀ (n m : Nat), m < n → ∀ G, I m G → whN c tb E n G := by
    intro n
    induction n with
    | zero => intro m h; exact absurd h (Nat.not_lt_zero _)
    | succ n ih =>
      intro m hm G h
      exact step m G (whN c tb E n) h fun m' G' h1 h2 => ih m' (by omega) G' h2
  exact ⟨m + 1, key (m + 1) m (Nat.lt_succ_self _) G h⟩

/-! ### to know a test as a whole -/
def EvD (e : DE) (G : Gm) (d : D) : Prop := ∀ Q, e G Q = Q (.dat d) G
def EvT (t : DT) (G : Gm) (b : Bool) : Prop := ∀ Q, t G Q = Q b G
section
variable {e e1 e2 e3 : DE} {t u : DT} {G : Gm} {a b c : Int} {p q : Bool} {d : D}
theorem ed_c : EvD (dC d) G d := fun _ => rfl
theorem ed_var {i : Nat} (h : gg G i = some (.dat d)) : EvD (dVar i) G d := fun Q => by unfold dVar; rw [h]
theorem ed_ix {ds : List D} {k : Int} (h1 : EvD e1 G (.tup ds)) (h2 : EvD e2 G (.int k)) (h : atI ds k = some d) : EvD (dBin dIx e1 e2) G d := fun Q => by
  unfold dBin; rw [h1]; simp only [h2 _]
  show atQ (atI ds k) (fun r => Q r G) = _
  rw [h]; rfl
theorem ed_add (h1 : EvD e1 G (.int a)) (h2 : EvD e2 G (.int b)) : EvD (dBin dAdd e1 e2) G (.int (a + b)) := fun Q => by unfold dBin; rw [h1]; simp only [h2 _]; rfl
theorem ed_sub (h1 : EvD e1 G (.int a)) (h2 : EvD e2 G (.int b)) : EvD (dBin dSub e1 e2) G (.int (a - b)) := fun Q => by unfold dBin; rw [h1]; simp only [h2 _]; rfl
theorem ed_neg (h1 : EvD e1 G (.int a)) : EvD (dUn dNeg e1) G (.int (-a)) := fun Q => by unfold dUn; rw [h1]; rfl
theorem et_chn (h1 : EvD e1 G (.int a)) (h2 : EvD e2 G (.int b)) (h3 : EvD e3 G (.int c)) : EvT (dTst (dChn dLe dLt e1 e2 e3)) G (decide (a ≤ b ∧ b < c)) := fun Q => by
  unfold dTst dChn; rw [h1]; simp only [h2 _, x_seed, F_i, true_and, x_cmp, x_isb]
  by_cases z : a ≤ b
  · simp only [z, decide_true, true_and, if_true, h3 _, x_seed, x_cmp, x_isb]
  · simp only [z, decide_false, false_and, Bool.false_eq_true, if_false, x_isb]
theorem et_chle (h1 : EvD e1 G (.int a)) (h2 : EvD e2 G (.int b)) (h3 : EvD e3 G (.int c)) : EvT (dTst (dChn dLe dLe e1 e2 e3)) G (decide (a ≤ b ∧ b ≤ c)) := fun Q => by
  unfold dTst dChn; rw [h1]; simp only [h2 _, x_seed, F_i, true_and, x_cmp, x_isb]
  by_cases z : a ≤ b
  · simp only [z, decide_true, true_and, if_true, h3 _, x_seed, x_cmp, x_isb]
  · simp only [z, decide_false, false_and, Bool.false_eq_true, if_false, x_isb]
theorem et_cmp {f : Int → Int → Bool} (h1 : EvD e1 G (.int a)) (h2 : EvD e2 G (.int b)) : EvT (dTst (dBin (dCmp f) e1 e2)) G (f a b) := fun Q => by unfold dTst dBin; rw [h1]; simp only [h2 _]; rfl
theorem et_eq (h1 : EvD e1 G (.int a)) (h2 : EvD e2 G (.int b)) : EvT (dTst (dBin dEq e1 e2)) G (decide (a = b)) := fun Q => by unfold dTst dBin; rw [h1]; simp only [h2 _, x_seed, x_eq, x_eqi, x_isb]
theorem et_ne (h1 : EvD e1 G (.int a)) (h2 : EvD e2 G (.int b)) : EvT (dTst (dBin dNe e1 e2)) G (!decide (a = b)) := fun Q => by unfold dTst dBin; rw [h1]; simp only [h2 _, x_seed, x_ne, x_eqi, x_isb]
theorem et_val (h1 : EvD e1 G (.bl p)) : EvT (dTst e1) G p := fun Q => by unfold dTst; rw [h1]; rfl
theorem et_not (h : EvT t G p) : EvT (dNotT t) G (!p) := fun Q => by unfold dNotT; rw [h]
theorem et_and (h1 : EvT t G p) (h2 : EvT u G q) : EvT (dAndT t u) G (p && q) := fun Q => by
  unfold dAndT; rw [h1]
  cases p with
  | true => rw [if_pos rfl, h2]; rfl
  | false => rw [if_neg Bool.false_ne_true]; rfl
theorem et_or (h1 : EvT t G p) (h2 : EvT u G q) : EvT (dOrT t u) G (p || q) := fun Q => by
  unfold dOrT; rw [h1]
  cases p with
  | true => rw [if_pos rfl]; rfl
  | false => rw [if_neg Bool.false_ne_true, h2]; rfl
theorem ed_chn (h1 : EvD e1 G (.int a)) (h2 : EvD e2 G (.int b)) (h3 : EvD e3 G (.int c)) : EvD (dChn dLe dLt e1 e2 e3) G (.bl (decide (a ≤ b ∧ b < c))) := fun Q => by
  unfold dChn; rw [h1]; simp only [h2 _, x_seed, F_i, true_and, x_cmp, x_isb]
  by_cases z : a ≤ b
  · simp only [z, decide_true, true_and, if_true, h3 _, x_seed, x_cmp]
  · simp only [z, decide_false, false_and, Bool.false_eq_true, if_false]
theorem ed_chle (h1 : EvD e1 G (.int a)) (h2 : EvD e2 G (.int b)) (h3 : EvD e3 G (.int c)) : EvD (dChn dLe dLe e1 e2 e3) G (.bl (decide (a ≤ b ∧ b ≤ c))) := fun Q => by
  unfold dChn; rw [h1]; simp only [h2 _, x_seed, F_i, true_and, x_cmp, x_isb]
  by_cases z : a ≤ b
  · simp only [z, decide_true, true_and, if_true, h3 _, x_seed, x_cmp]
  · simp only [z, decide_false, false_and, Bool.false_eq_true, if_false]
theorem ed_cmp {f : Int → Int → Bool} (h1 : EvD e1 G (.int a)) (h2 : EvD e2 G (.int b)) : EvD (dBin (dCmp f) e1 e2) G (.bl (f a b)) := fun Q => by unfold dBin; rw [h1]; simp only [h2 _]; rfl
theorem ed_eq (h1 : EvD e1 G (.int a)) (h2 : EvD e2 G (.int b)) : EvD (dBin dEq e1 e2) G (.bl (decide (a = b))) := fun Q => by unfold dBin; rw [h1]; simp only [h2 _, x_seed, x_eq, x_eqi]
theorem ed_ne (h1 : EvD e1 G (.int a)) (h2 : EvD e2 G (.int b)) : EvD (dBin dNe e1 e2) G (.bl (!decide (a = b))) := fun Q => by unfold dBin; rw [h1]; simp only [h2 _, x_seed, x_ne, x_eqi]
theorem ed_not (h1 : EvD e1 G (.bl p)) : EvD (dNotV e1) G (.bl (!p)) := fun Q => by unfold dNotV; rw [h1]; rfl
theorem ed_and (h1 : EvD e1 G (.bl p)) (h2 : EvD e2 G (.bl q)) : EvD (dAndV e1 e2) G (.bl (p && q)) := fun Q => by
  unfold dAndV; rw [h1, x_isb]
  cases p with
  | true => rw [if_pos rfl, h2]; rfl
  | false => rw [if_neg Bool.false_ne_true]; rfl
theorem ed_or (h1 : EvD e1 G (.bl p)) (h2 : EvD e2 G (.bl q)) : EvD (dOrV e1 e2) G (.bl (p || q)) := fun Q => by
  unfold dOrV; rw [h1, x_isb]
  cases p with
  | true => rw [if_pos rfl]; rfl
  | false => rw [if_neg Bool.false_ne_true, h2]; rfl
end
theorem ev_if {c : DT} {t u : DS} {E : DEnds} {G : Gm} {b b' : Bool} (h : EvT c G b) (hb : b = b') (q : brS (0 + 0) b' t u E G) : dIfS c t u E G := by
  show c G fun p G1 => brS (0 + 0) p t u E G1
  rw [h, hb]; exact q
theorem ev_t {c : DT} {G : Gm} {b b' : Bool} {Q : Bool → Gm → Prop} (h : EvT c G b) (hb : b = b') (q : Q b' G) : c G Q := by rw [h, hb]; exact q
theorem ev_e {e : DE} {G : Gm} {d d' : D} {Q : SV → Gm → Prop} (h : EvD e G d) (hb : d = d') (q : Q (.dat d') G) : e G Q := by rw [h, hb]; exact q

/-! ### texts of data, and how long they are -/
structure Shw (k m : Nat) (d : D) : Prop where
  pl : Pd k d
  sh : (toPy d).showable = true
  len : (shownD d).length ≤ m
theorem Pd_up {k : Nat} {d : D} (h : Pd k d) : Pd (k + 1) d := by
  induction k generalizing d with
  | zero => cases d <;> first | exact h | exact False.elim h
  | succ k ih => cases d <;> first | exact h | exact False.elim h | exact fun d hd => ih (h d hd)
theorem Pd_mono {k j : Nat} {d : D} (h : Pd k d) (hj : k ≤ j) : Pd j d := by
  induction hj with
  | refl => exact h
  | step _ ih => exact Pd_up ih
theorem Shw.mono {k m j n : Nat} {d : D} (h : Shw k m d) (hj : k ≤ j) (hn : m ≤ n) : Shw j n d := ⟨Pd_mono h.pl hj, h.sh, Nat.le_trans h.len hn⟩
theorem shw_int {i : Int} (h : i.natAbs < 10 ^ 300) : Shw 0 301 (.int i) := by
  refine ⟨trivial, ?_, ?_⟩
  · have := log2_lt (n := i.natAbs) (k := 1000) (Nat.lt_of_lt_of_le h (by decide +kernel)) (by decide)
    simp only [toPy, PyData.showable, decide_eq_true_eq]; omega
  · have h2 := int_text_length_le10 (a := i) (k := 300) (by decide) h
    show (Str.ofString (toString i)).length ≤ 301
    rw [PySem.ofString_length]; exact h2
theorem shw_bl {b : Bool} : Shw 0 5 (.bl b) := ⟨trivial, by cases b <;> decide +kernel, by cases b <;> decide +kernel⟩
theorem shw_non : Shw 0 4 .non := ⟨trivial, by decide +kernel, by decide +kernel⟩
theorem shw_all {k m : Nat} : ∀ {ds : List D}, (∀ d ∈ ds, Shw k m d) → PyData.showableAll (toPys ds) = true ∧ ((PyData.shownAll (toPys ds)).map (·.length)).sum ≤ ds.length * m ∧ (PyData.shownAll (toPys ds)).length = ds.length
  | [], _ => ⟨rfl, by simp [toPys, PyData.shownAll], rfl⟩
  | d :: ds, h => by
    obtain ⟨h1, h2, h3⟩ := shw_all (ds := ds) fun x hx => h x (List.mem_cons_of_mem _ hx)
    have h0 := h d List.mem_cons_self
    refine ⟨by simp only [toPys, PyData.showableAll, Bool.and_eq_true]; exact ⟨h0.sh, h1⟩, ?_, ?_⟩
    · simp only [toPys, PyData.shownAll, List.map_cons, List.sum_cons, List.length_cons, Nat.add_mul, Nat.one_mul]
      have : (toPy d).shown.length ≤ m := h0.len
      omega
    · simp only [toPys, PyData.shownAll, List.length_cons, h3]
theorem shw_lst {k m : Nat} {ds : List D} (h : ∀ d ∈ ds, Shw k m d) : Shw (k + 1) (ds.length * (m + 2) + 3) (.lst ds) := by
  obtain ⟨h1, h2, h3⟩ := shw_all h
  refine ⟨fun d hd => (h d hd).pl, by simp only [toPy, PyData.showable]; exact h1, ?_⟩
  have e := PySem.listText_len_le (PyData.shownAll (toPys ds))
  have e2 : (shownD (.lst ds)).length = (listText (PyData.shownAll (toPys ds))).length := by unfold shownD; simp only [toPy, PyData.shown]
  rw [e2, Nat.mul_add]; omega
theorem shw_tup {k m : Nat} {ds : List D} (h : ∀ d ∈ ds, Shw k m d) : Shw (k + 1) (ds.length * (m + 2) + 3) (.tup ds) := by
  obtain ⟨h1, h2, h3⟩ := shw_all h
  refine ⟨fun d hd => (h d hd).pl, by simp only [toPy, PyData.showable]; exact h1, ?_⟩
  have e := PySem.tupleText_len_le (PyData.shownAll (toPys ds))
  have e2 : (shownD (.tup ds)).length = (tupleText (PyData.shownAll (toPys ds))).length := by unfold shownD; simp only [toPy, PyData.shown]
  rw [e2, Nat.mul_add]; omega
theorem shw_pair {a b : Int} (h : a.natAbs < 10 ^ 300) (h2 : b.natAbs < 10 ^ 300) : Shw 1 609 (.tup [.int a, .int b]) := by
  refine (shw_tup (k := 0) (m := 301) fun d hd => ?_).mono (by decide) (by show 2 * (301 + 2) + 3 ≤ 609; decide)
  simp only [List.mem_cons, List.not_mem_nil, or_false] at hd
  rcases hd with rfl | rfl
  · exact shw_int h
  · exact shw_int h2
theorem rp_of {k m : Nat} {d : D} {q : SV → Prop} (s : Shw k m d) (h : q (.dat (.str (shownD d)))) (hk : k ≤ 20 := by decide) (hm : m ≤ 1000000 := by decide) : dRepr d q :=
  ⟨Pd_mono s.pl hk, s.sh, Nat.le_trans s.len (Nat.le_trans hm (by decide)), h⟩
theorem rp_int {i : Int} {q : SV → Prop} (h : i.natAbs < 10 ^ 300) (hq : q (.dat (.str (shownD (.int i))))) : dRepr (.int i) q := rp_of (shw_int h) hq
/-- a comprehension that keeps nothing -/
theorem lc_none {vs : List Nat} {g : DG} {tt : DT} {te : DE} {Qe : List D → Gm → Prop} {G : Gm} {ds : List D} (st : ∀ d ∈ ds, ∀ (k : D → Gm → Prop) (k' : Gm → Prop), k' G → lcT vs g tt te d G k k') (q : Qe [] G) : lcL vs g tt te Qe ds [] G := by
  refine lc_map (f := fun _ => none) (fun d hd k k' h => st d hd k k' h) ?_
  rw [show ds.filterMap (fun _ => (none : Option D)) = [] by induction ds <;> simp_all]
  exact q
theorem enum_at {ds : List D} {k : Int} {e : D} (h : e ∈ enumD k ds) : ∃ (j : Nat) (d : D), e = .tup [.int (k + j), d] ∧ ds[j]? = some d := by
  obtain ⟨j, hj⟩ := List.mem_iff_getElem?.mp h
  rw [enumD_get] at hj
  cases e1 : ds[j]? with
  | none => rw [e1] at hj; cases hj
  | some d => rw [e1] at hj; cases hj; exact ⟨j, d, rfl, e1⟩
/-- the last item -/
theorem atI_neg1 {α : Type} {xs : List α} {v : α} (h : xs.getLast? = some v) : atI xs (-1) = some v := by
  obtain ⟨ys, rfl⟩ : ∃ ys, xs = ys ++ [v] := by
    rw [List.getLast?_eq_some_iff] at h; exact h
  exact atI_last ys v
/-- the first cells of the script -/
theorem cut_scr (n : Nat) {ns : List Int} : (dSlc.cutV' (ns.map D.int) none (some (n : Int))).length ≤ n ∧ ∀ d ∈ dSlc.cutV' (ns.map D.int) none (some (n : Int)), ∃ i, d = .int i := by
  unfold dSlc.cutV'
  refine ⟨?_, fun d hd => ?_⟩
  · rw [List.length_take]
    have e : HT.sIx (ns.map D.int).length (ns.map D.int).length (some (n : Int)) = min n (ns.map D.int).length := HT.sIx_nat _ _ n
    rw [e]
    omega
  · obtain ⟨i, _, rfl⟩ := List.mem_map.mp (List.mem_of_mem_drop (List.mem_of_mem_take hd))
    exact ⟨i, rfl⟩
/-- the cells that a law walks -/
theorem cells_of (n m : Nat) (v : Int) {ns : List Int} (hm : n + 1 = m) (hs : m ≤ 64 := by decide) : (dSlc.cutV' (ns.map D.int) none (some (n : Int))).length + 1 ≤ sizeLine ∧ ∃ B : List D, dSlc.cutV' (ns.map D.int) none (some (n : Int)) ++ [D.int v] = B ∧ B.length ≤ m ∧ (∀ d ∈ B, ∃ i, d = .int i) := by
  obtain ⟨c1, c2⟩ := cut_scr n (ns := ns)
  refine ⟨Nat.le_trans (Nat.le_trans (Nat.add_le_add_right c1 1) (hm ▸ hs)) (by decide), _, rfl, by rw [List.length_append, ← hm]; exact Nat.add_le_add_right c1 1, fun d hd => ?_⟩
  rcases List.mem_append.mp hd with hd | hd
  · exact c2 d hd
  · exact ⟨v, List.mem_singleton.mp hd⟩
theorem at_ints {ds : List D} {i : Int} {q : SV → Prop} (ns : List Int) (lo hi : Int) (h1 : 0 ≤ i) (h2 : i < ns.length) (h : ∀ f : Int, lo ≤ f → f ≤ hi → q (.dat (.int f))) (e : ds = ns.map D.int := by rfl) (hb : ∀ x ∈ ns, lo ≤ x ∧ x ≤ hi := by decide) : atQ (atI ds i) q := by
  subst e
  obtain ⟨k, rfl⟩ : ∃ k : Nat, i = k := ⟨i.toNat, by omega⟩
  have hk : k < ns.length := by omega
  rw [atI_nat (j := k) (v := .int ns[k]) (by rw [List.getElem?_map, List.getElem?_eq_getElem hk]; rfl)]
  have := hb ns[k] (List.getElem_mem hk)
  exact h _ this.1 this.2
/-- a join behind an if -/
theorem brS_gen {z : Nat} {p : Bool} {t u : DS} {E : DEnds} {G : Gm} (P : Gm → Prop) (rest : ∀ G, P G → E.nx G) (run : ∀ N : Gm → Prop, (∀ G, P G → N G) → brS z p t u { E with nx := N } G) : brS z p t u E G := run E.nx rest
theorem pl_ints {n : Nat} {ds : List D} {ns : List Int} (h : intsOf ds = some ns) : Pl (n + 1) (.lst ds) := by
  rw [intsOf_eq h]
  intro d hd
  obtain ⟨i, _, rfl⟩ := List.mem_map.mp hd
  cases n <;> trivial
theorem eqv_refl_all : ∀ {ds : List D} {n : Nat}, (∀ d ∈ ds, Pl n d → PyData.eqv (toPy d) (toPy d) = true) → (∀ d ∈ ds, Pl n d) → PyData.eqvAll (toPys ds) (toPys ds) = true
  | [], _, _, _ => by simp [toPys, PyData.eqvAll]
  | d :: ds, n, f, h => by
    simp only [toPys, PyData.eqvAll, Bool.and_eq_true]
    exact ⟨f d List.mem_cons_self (h d List.mem_cons_self), eqv_refl_all (fun x hx => f x (List.mem_cons_of_mem _ hx)) fun x hx => h x (List.mem_cons_of_mem _ hx)⟩
theorem eqD_refl {n : Nat} : ∀ {d : D}, Pl n d → eqD d d = true := by
  induction n with
  | zero => intro d h; unfold eqD; cases d <;> first | exact False.elim h | simp [toPy, PyData.eqv]
  | succ n ih =>
    intro d h
    unfold eqD
    cases d <;> first
      | exact False.elim h
      | (simp [toPy, PyData.eqv]; done)
      | (simp only [toPy, PyData.eqv]; exact eqv_refl_all (fun d _ p => ih p) h)
      | (rw [toPy, ← toPys_ints]; simp only [PyData.eqv]; exact eqv_refl_all (n := 1) (fun d hd _ => by obtain ⟨i, _, rfl⟩ := List.mem_map.mp hd; simp [toPy, PyData.eqv]) fun d hd => by obtain ⟨i, _, rfl⟩ := List.mem_map.mp hd; trivial)
theorem q_same {d : D} {f : Bool → Prop} (h : Pl 20 d) (hf : f true) : eqQ d d f := by
  unfold eqQ
  cases e : strsD d d with
  | none => exact ⟨h, h, by rw [eqD_refl h]; exact hf⟩
  | some p =>
    obtain ⟨e1, e2⟩ := strsD_of e
    rw [e1] at e2
    injection e2 with e2
    show f (decide (p.1 = p.2))
    rw [decide_eq_true e2]; exact hf
theorem q_scr {ns : List Int} {f : Bool → Prop} (h : f (decide (ns = []))) : eqQ (.scr ns) (.lst []) f := by
  refine ⟨trivial, fun d hd => (by cases hd), ?_⟩
  rw [show eqD (.scr ns) (.lst []) = decide (ns = []) by
    unfold eqD
    cases ns with
    | nil => simp [toPy, toPys, PyData.eqv, PyData.eqvAll]
    | cons a b => simp [toPy, toPys, PyData.eqv, PyData.eqvAll]]
  exact h
theorem q_ints {as bs : List D} {ns : List Int} {f : Bool → Prop} (h1 : intsOf as = some ns) (h2 : intsOf bs = some ns) (hf : f true) : eqQ (.lst as) (.lst bs) f := by
  rw [intsOf_eq h1, intsOf_eq h2]
  exact q_same (pl_ints (intsOf_map ns)) hf
def plB : Nat → D → Bool
  | 0, d => match d with
    | .non => true
    | .bl _ => true
    | .int _ => true
    | .str x => PyData.strOk x
    | _ => false
  | n + 1, d => match d with
    | .non => true
    | .bl _ => true
    | .int _ => true
    | .str x => PyData.strOk x
    | .tup ds => ds.all (plB n)
    | .lst ds => ds.all (plB n)
    | _ => false
theorem plB_pl {n : Nat} : ∀ {d : D}, plB n d = true → Pl n d := by
  induction n with
  | zero => intro d h; cases d <;> first | exact trivial | exact h | exact absurd h Bool.false_ne_true
  | succ n ih =>
    intro d h
    cases d <;> first
      | exact trivial
      | exact fun d hd => ih (List.all_eq_true.mp h d hd)
      | exact h
      | exact absurd h Bool.false_ne_true
theorem q_clo {a b : D} {f : Bool → Prop} (h1 : plB 20 a = true) (h2 : plB 20 b = true) (h3 : eqD a b = true) (hf : f true) (hs : strsD a b = none := by rfl) : eqQ a b f := by
  unfold eqQ
  rw [hs]
  exact ⟨plB_pl h1, plB_pl h2, by rw [h3]; exact hf⟩
/-- a comprehension turn by turn: I what holds with so many to come and so much made -/
theorem lc_for {vs : List Nat} {g : DG} {c : DT} {e : DE} {Qe : List D → Gm → Prop} (I : List D → List D → Gm → Prop) (fin : ∀ acc G, I [] acc G → Qe acc G) :
    ∀ (ds : List D) (_ : ∀ (d : D) (r acc : List D) (G : Gm) (K : D → Gm → Prop) (K' : Gm → Prop), (d :: r) <:+ ds → I (d :: r) acc G → (∀ y G', I r (acc ++ [y]) G' → K y G') → (∀ G', I r acc G' → K' G') → lcT vs g c e d G K K') (acc : List D) (G : Gm), I ds acc G → lcL vs g c e Qe ds acc G
  | [], _, acc, G, h => fin acc G h
  | d :: r, st, acc, G, h => st d r acc G (fun y G' => lcL vs g c e Qe r (acc ++ [y]) G') (fun G' => lcL vs g c e Qe r acc G') (List.suffix_refl _) h
      (fun y G' h' => lc_for I fin r (fun x s a G K K' hs => st x s a G K K' (List.IsSuffix.trans hs (List.suffix_cons _ _))) (acc ++ [y]) G' h')
      fun G' h' => lc_for I fin r (fun x s a G K K' hs => st x s a G K K' (List.IsSuffix.trans hs (List.suffix_cons _ _))) acc G' h'
theorem cut_mem {ds : List D} {lo hi : Option Int} {d : D} (h : d ∈ dSlc.cutV' ds lo hi) : d ∈ ds := List.mem_of_mem_drop (List.mem_of_mem_take h)
theorem cut_len {ds : List D} {lo hi : Option Int} : (dSlc.cutV' ds lo hi).length ≤ ds.length := by
  unfold dSlc.cutV'; rw [List.length_take, List.length_drop]; omega
theorem at_mem {ds : List D} {i : Int} {q : SV → Prop} (h1 : 0 ≤ i) (h2 : i < ds.length) (h : ∀ d ∈ ds, q (.dat d)) : atQ (atI ds i) q := by
  obtain ⟨k, rfl⟩ : ∃ k : Nat, i = k := ⟨i.toNat, by omega⟩
  have hk : k < ds.length := by omega
  rw [atI_nat (j := k) (v := ds[k]) (List.getElem?_eq_getElem hk)]
  exact h _ (List.getElem_mem hk)
def pdB : Nat → D → Bool
  | 0, d => match d with
    | .non => true
    | .bl _ => true
    | .int _ => true
    | .str _ => true
    | _ => false
  | n + 1, d => match d with
    | .non => true
    | .bl _ => true
    | .int _ => true
    | .str _ => true
    | .tup ds => ds.all (pdB n)
    | .lst ds => ds.all (pdB n)
    | .dK es => es.all fun e => pdB n e.2
    | _ => false
theorem pdB_pd {n : Nat} : ∀ {d : D}, pdB n d = true → Pd n d := by
  induction n with
  | zero => intro d h; cases d <;> first | exact trivial | exact absurd h Bool.false_ne_true
  | succ n ih =>
    intro d h
    cases d <;> first
      | exact trivial
      | exact fun d hd => ih (List.all_eq_true.mp h d hd)
      | exact fun e he => ih (List.all_eq_true.mp h e he)
      | exact absurd h Bool.false_ne_true
/-- of a written datum -/
theorem shw_clo {k m : Nat} {d : D} (h1 : pdB k d = true) (h2 : (toPy d).showable = true) (h3 : (shownD d).length ≤ m) : Shw k m d := ⟨pdB_pd h1, h2, h3⟩
theorem shw_ints {k : Nat} {ds : List D} (t : Bool) (h : ∀ d ∈ ds, ∃ i : Int, d = .int i ∧ i.natAbs < 10 ^ 300) : Shw (k + 1) (ds.length * 303 + 3) (if t then .tup ds else .lst ds) := by
  have f : ∀ d ∈ ds, Shw k 301 d := fun d hd => by
    obtain ⟨i, rfl, hi⟩ := h d hd
    exact (shw_int hi).mono (Nat.zero_le _) (Nat.le_refl _)
  cases t with
  | true => exact shw_tup f
  | false => exact shw_lst f
theorem abs_mul {a b : Int} {x y z : Nat} (h1 : a.natAbs ≤ x) (h2 : b.natAbs ≤ y) (hz : x * y ≤ z) : (a * b).natAbs ≤ z := by
  rw [Int.natAbs_mul]; exact Nat.le_trans (Nat.mul_le_mul h1 h2) hz

abbrev N__law_source : List Str := ["_law_cell", "_law_k", "_law_great"]
abbrev ps__law_source : List Str := ["_law_cell", "_law_k"]
abbrev N__law_draw : List Str := ["_law_source_here", "_law_count", "_law_mixed", "_law_digit"]
abbrev ps__law_draw : List Str := ["_law_source_here", "_law_count"]
abbrev N__law_move : List Str := ["_law_source_here", "_law_far", "_law_across"]
abbrev ps__law_move : List Str := ["_law_source_here", "_law_far"]
abbrev N__law_moves : List Str := ["_law_source_here", "_law_far", "_law_most_many", "_law_found", "_law_turn", "_law_move_here"]
abbrev ps__law_moves : List Str := ["_law_source_here", "_law_far", "_law_most_many"]
abbrev N__law_some_moves : List Str := ["_law_source_here", "_law_way", "_law_found", "_law_times", "_law_across", "_law_along", "_law_first", "_law_second", "_law_turn", "_law_spot", "_law_x", "_law_y"]
abbrev ps__law_some_moves : List Str := ["_law_source_here"]
abbrev N__law_box : List Str := ["_law_source_here", "_law_room", "_law_high", "_law_wide"]
abbrev ps__law_box : List Str := ["_law_source_here", "_law_room"]
abbrev N__law_spots : List Str := ["_law_high", "_law_wide", "_law_spot"]
abbrev ps__law_spots : List Str := ["_law_high", "_law_wide"]
abbrev N__law_behind : List Str := ["_law_moves_here", "_law_spot", "_law_high", "_law_wide", "_law_found", "_law_x", "_law_y", "_law_one"]
abbrev ps__law_behind : List Str := ["_law_moves_here", "_law_spot", "_law_high", "_law_wide"]
abbrev N__law_ahead : List Str := ["_law_moves_here", "_law_spot", "_law_high", "_law_wide", "_law_found", "_law_x", "_law_y", "_law_one"]
abbrev ps__law_ahead : List Str := ["_law_moves_here", "_law_spot", "_law_high", "_law_wide"]
abbrev N__law_list : List Str := ["_law_source_here", "_law_moves_here", "_law_high", "_law_wide", "_law_size", "_law_ready", "_law_found", "_law_placed", "_law_at", "_law_spot", "_law_later", "_law_early"]
abbrev ps__law_list : List Str := ["_law_source_here", "_law_moves_here", "_law_high", "_law_wide", "_law_size"]
def dd_is_integer : List D := [.non, .non]
abbrev N_is_integer : List Str := ["value", "low", "high"]
abbrev ps_is_integer : List Str := ["value", "low", "high"]
abbrev N_is_pair : List Str := ["value", "item"]
abbrev ps_is_pair : List Str := ["value"]
abbrev N_is_step : List Str := ["value"]
abbrev ps_is_step : List Str := ["value"]
abbrev N_steps_fault : List Str := ["value", "index", "step"]
abbrev ps_steps_fault : List Str := ["value"]
abbrev N_need_steps : List Str := ["steps", "fault"]
abbrev ps_need_steps : List Str := ["steps"]
abbrev N_need_size : List Str := ["number"]
abbrev ps_need_size : List Str := ["number"]
abbrev N_need_box : List Str := ["rows", "columns"]
abbrev ps_need_box : List Str := ["rows", "columns"]
abbrev N_in_box : List Str := ["rows", "columns", "spot"]
abbrev ps_in_box : List Str := ["rows", "columns", "spot"]
abbrev N_taken : List Str := ["one", "other"]
abbrev ps_taken : List Str := ["one", "other"]
abbrev N_sources_of : List Str := ["steps", "rows", "columns", "spot", "some", "step", "place"]
abbrev ps_sources_of : List Str := ["steps", "rows", "columns", "spot"]
abbrev N_can_stand : List Str := ["steps", "rows", "columns", "ahead", "spot", "source"]
abbrev ps_can_stand : List Str := ["steps", "rows", "columns", "ahead", "spot"]
abbrev N_list_fault : List Str := ["steps", "rows", "columns", "value", "ahead", "index", "item"]
abbrev ps_list_fault : List Str := ["steps", "rows", "columns", "value"]
abbrev N_is_list : List Str := ["steps", "rows", "columns", "value"]
abbrev ps_is_list : List Str := ["steps", "rows", "columns", "value"]
abbrev N__law_odd_spot : List Str := ["_law_source_here", "_law_high", "_law_wide", "_law_some"]
abbrev ps__law_odd_spot : List Str := ["_law_source_here", "_law_high", "_law_wide"]
abbrev N__law_bent : List Str := ["_law_source_here", "_law_items", "_law_high", "_law_wide", "_law_found", "_law_way", "_law_at", "_law_first", "_law_second", "_law_kept"]
abbrev ps__law_bent : List Str := ["_law_source_here", "_law_items", "_law_high", "_law_wide"]
abbrev N__law_is_list : List Str := ["_law_moves_here", "_law_high", "_law_wide", "_law_thing", "_law_placed", "_law_item", "_law_part", "_law_early"]
abbrev ps__law_is_list : List Str := ["_law_moves_here", "_law_high", "_law_wide", "_law_thing"]
abbrev N__law_told_right : List Str := ["_law_moves_here", "_law_high", "_law_wide", "_law_thing", "_law_told", "_law_due", "_law_kept"]
abbrev ps__law_told_right : List Str := ["_law_moves_here", "_law_high", "_law_wide", "_law_thing"]
abbrev N__law_right : List Str := ["_law_source_here", "_law_most", "_law_moves_here", "_law_items", "_law_things", "_law_thing", "_law_far", "_law_high", "_law_wide", "_law_turn"]
abbrev ps__law_right : List Str := ["_law_source_here", "_law_most"]
abbrev N_law : List Str := ["_law_script", "_law_k", "_law_cell", "_law_source_here", "_law_turn", "_law_moves_here", "_law_items", "_law_some"]
abbrev ps_law : List Str := ["_law_script"]
def okD (d : D) : Bool := (clsD d).isSome
def intD : D → Bool
  | .int _ => true
  | _ => false
def rngD (d : D) (lo hi : Int) : Bool := match d with
  | .int v => decide (lo ≤ v) && decide (v ≤ hi)
  | _ => false
def okE (d : D) : Bool := match d with
  | .tup ds => ds.all okD
  | d => okD d
def pairD (d : D) : Bool := match d with
  | .tup ds => decide (ds.length = 2) && ds.all intD
  | _ => false
def vecD (d : D) : Bool := match d with
  | .tup [.int a, .int b] => !(decide (a = 0) && decide (b = 0))
  | _ => false
def spotD (w : Int) : D → D
  | .int s => .tup [.int (s.fdiv w), .int (s.fmod w)]
  | d => d
def spotsD (h w : Int) : List D := (rangeD 0 (h * w).toNat).map (spotD w)
def inB (r c x y : Int) : Prop := 0 ≤ x ∧ x < r ∧ 0 ≤ y ∧ y < c
instance inst_inB {r c x y : Int} : Decidable (inB r c x y) := by unfold inB; infer_instance
abbrev spotP (w s : Int) : Int × Int := (s.fdiv w, s.fmod w)
def prLt (p q : Int × Int) : Prop := p.1 < q.1 ∨ (p.1 = q.1 ∧ p.2 < q.2)
def spotsL (g w : Int) : List (Int × Int) := (List.range (g * w).toNat).map fun s : Nat => spotP w s
def stepOk (p : Int × Int) : Prop := 0 ≤ p.1 ∧ p.1 ≤ 6 ∧ -6 ≤ p.2 ∧ p.2 ≤ 6 ∧ (p.1 = 0 → 1 ≤ p.2)
instance inst_stepOk {p : Int × Int} : Decidable (stepOk p) := by unfold stepOk; infer_instance
/-- so far at most -/
def stepTo (f : Int) (p : Int × Int) : Prop := 0 ≤ p.1 ∧ p.1 ≤ f ∧ -f ≤ p.2 ∧ p.2 ≤ f ∧ (p.1 = 0 → 1 ≤ p.2)
def StepsOk (ms : List (Int × Int)) : Prop := 1 ≤ ms.length ∧ ms.length ≤ 4 ∧ (∀ p ∈ ms, stepOk p) ∧ ms.Nodup
def scD (a b : Int) : D → D
  | .tup [.int x, .int y] => .tup [.int (a * x), .int (b * y)]
  | d => d
def stepD (d : D) : Bool := match d with
  | .tup [.int a, .int b] => decide (stepOk (a, b))
  | _ => false
def pairOf (d : D) : Int × Int := match d with
  | .tup [.int a, .int b] => (a, b)
  | _ => (0, 0)
def okL (d : D) : Bool := match d with
  | .lst ds => ds.all okE
  | d => okD d
def faultAt (ps : List (Int × Int)) : List D → D
  | [] => .tup []
  | d :: r => if stepD d = true then (if pairOf d ∈ ps then .tup [.int ps.length] else faultAt (ps ++ [pairOf d]) r) else .tup [.int ps.length]
def faultD (d : D) : D := match d with
  | .lst ds => if 1 ≤ ds.length ∧ ds.length ≤ 4 then faultAt [] ds else .tup [.non]
  | _ => .tup [.non]
def keyP (p : Int × Int) : List Key := [.inl p.1, .inl p.2]
def dictD (F : List (Int × Int)) : List (List Key × D) := F.map fun p => (keyP p, .bl true)
inductive Reach (ms : List (Int × Int)) (A lo hi : Int) : Int × Int → Prop
  | zero : Reach ms A lo hi (0, 0)
  | step {p s : Int × Int} : Reach ms A lo hi p → s ∈ ms → p.1 + s.1 ≤ A → lo ≤ p.2 + s.2 → p.2 + s.2 ≤ hi → Reach ms A lo hi (p.1 + s.1, p.2 + s.2)
def insE (F : List (Int × Int)) (p : Int × Int) : List (Int × Int) := if p ∈ F then F else F ++ [p]
def insAll (F L : List (Int × Int)) : List (Int × Int) := L.foldl insE F
instance inst_prLt {p q : Int × Int} : Decidable (prLt p q) := by unfold prLt; infer_instance
/-- ascending, without repeats, just these -/
def SortSet (S : Int × Int → Prop) (qs : List (Int × Int)) : Prop := qs.Pairwise prLt ∧ ∀ p, p ∈ qs ↔ S p
def boxB (r c : Int) (p : Int × Int) : Bool := decide (0 ≤ p.1) && decide (p.1 < r) && (decide (0 ≤ p.2) && decide (p.2 < c))
def SrcP (ms : List (Int × Int)) (r c : Int) (p q : Int × Int) : Prop := inB r c q.1 q.2 ∧ ∃ s ∈ ms, q = (p.1 - s.1, p.2 - s.2)
def RedP (ms : List (Int × Int)) (r c : Int) (p q : Int × Int) : Prop := inB r c q.1 q.2 ∧ ∃ s ∈ ms, q = (p.1 + s.1, p.2 + s.2)
def standB (ms : List (Int × Int)) (r c : Int) (F : List (Int × Int)) (p : Int × Int) : Bool := boxB r c p && (!decide (p ∈ F) && ms.all fun s => !boxB r c (p.1 - s.1, p.2 - s.2) || decide ((p.1 - s.1, p.2 - s.2) ∈ F))
def HasKeys (es : List (List Key × D)) (F : List (Int × Int)) : Prop := ∀ a b : Int, (valD es [.inl a, .inl b]).isSome = decide ((a, b) ∈ F)
def faultLs (ms : List (Int × Int)) (r c : Int) : List (Int × Int) → List D → D
  | _, [] => .tup []
  | F, d :: re => if pairD d = true then (if standB ms r c F (pairOf d) = true then faultLs ms r c (F ++ [pairOf d]) re else .tup [.int F.length]) else .tup [.int F.length]
def faultLD (ms : List (Int × Int)) (r c : Int) (d : D) : D := match d with
  | .lst ds => if ds.length ≤ 400 then faultLs ms r c [] ds else .tup [.non]
  | _ => .tup [.non]
def LegalF (ms : List (Int × Int)) (r c : Int) : List (Int × Int) → List (Int × Int) → Prop
  | _, [] => True
  | F, p :: L => standB ms r c F p = true ∧ LegalF ms r c (F ++ [p]) L
def DemP (ms : List (Int × Int)) (v : Int × Int) (r c : Int) (p q : Int × Int) : Prop := inB r c (p.1 - v.1) (p.2 - v.2) ∧ (q = (p.1 - v.1, p.2 - v.2) ∨ (RedP ms r c (p.1 - v.1, p.2 - v.2) q ∧ q ≠ p))
/-- the first item at which something is absent, and the least such -/
def BreakP (ms : List (Int × Int)) (v : Int × Int) (r c : Int) : List (Int × Int) → List (Int × Int) → Option (Int × (Int × Int)) → Prop
  | _, [], o => o = none
  | F, p :: L, o => ((∃ q, DemP ms v r c p q ∧ q ∉ F) ∧ ∃ q, DemP ms v r c p q ∧ q ∉ F ∧ (∀ q', DemP ms v r c p q' → q' ∉ F → prLe q q') ∧ o = some ((F.length : Int), q)) ∨ ((∀ q, DemP ms v r c p q → q ∈ F) ∧ BreakP ms v r c (F ++ [p]) L o)
def sizeB (n : Int) : Prop := 1 ≤ n ∧ n ≤ 999999999999999999999999999999
def breakD : Option (Int × (Int × Int)) → D
  | none => .non
  | some (i, q) => .tup [.int i, .tup [.int q.1, .int q.2]]
structure ListInv (ms : List (Int × Int)) (h w : Int) (F R : List (Int × Int)) : Prop where
  legal : LegalF ms h w [] F
  nd : F.Nodup
  bx : ∀ p ∈ F, inB h w p.1 p.2
  cl : ∀ q ∈ F, ∀ p, SrcP ms h w q p → p ∈ F
  rn : R.Nodup
  rs : ∀ q ∈ R, standB ms h w F q = true
def legalB (ms : List (Int × Int)) (r c : Int) : List (Int × Int) → List D → Bool
  | _, [] => true
  | F, d :: re => pairD d && (standB ms r c F (pairOf d) && legalB ms r c (F ++ [pairOf d]) re)
def listB (ms : List (Int × Int)) (r c : Int) (d : D) : Bool := match d with
  | .lst ds => decide (ds.length ≤ 400) && legalB ms r c [] ds
  | _ => false
structure AnyOk (d : D) : Prop where
  ok : okL d = true
  sh : Shw 6 400000 d
structure ItemOk (d : D) : Prop where
  ok : okE d = true
  sh : Shw 3 700 d
theorem okD_i {x : Int} : okD (.int x) = true := rfl
theorem okE_p {x y : Int} : okE (.tup [.int x, .int y]) = true := rfl
theorem intD_i {x : Int} : intD (.int x) = true := rfl
theorem rngD_i {x lo hi : Int} : rngD (.int x) lo hi = (decide (lo ≤ x) && decide (x ≤ hi)) := rfl
theorem pairD_p {x y : Int} : pairD (.tup [.int x, .int y]) = true := rfl
theorem vecD_p {x y : Int} : vecD (.tup [.int x, .int y]) = !(decide (x = 0) && decide (y = 0)) := rfl
theorem stepD_p {x y : Int} : stepD (.tup [.int x, .int y]) = decide (stepOk (x, y)) := rfl
def most : Nat := 63
def S_is_integer : DSp := fun n ds Q => match ds with
  | [d, .non, .non] => okD d = true ∧ Q (.dat (.bl (intD d))) n
  | [d, .int lo, .int hi] => okD d = true ∧ Q (.dat (.bl (rngD d lo hi))) n
  | [d, .int lo, .non] => okD d = true ∧ Q (.dat (.bl (intD d && (match d with | .int v => decide (lo ≤ v) | _ => false)))) n
  | _ => False
def S_is_pair : DSp := fun n ds Q => match ds with
  | [d] => okE d = true ∧ Q (.dat (.bl (pairD d))) n
  | _ => False
def S__law_draw : DSp := fun n ds Q => match ds with
  | [.src, .int m] => 1 ≤ m ∧ m.natAbs < 10 ^ 300 ∧ n < 10 ^ 18 ∧ ∀ (i : Int) (j : Nat), 0 ≤ i → i < m → n ≤ j → j ≤ n + 1 → Q (.dat (.int i)) j
  | _ => False
def S__law_source : DSp := fun n ds Q => match ds with
  | [.int _, .int k] => 0 ≤ k ∧ k < 1000 ∧ Q (.dat .src) n
  | _ => False
def S_need_size : DSp := fun n ds Q => match ds with
  | [.int a] => (1 ≤ a ∧ a ≤ 999999999999999999999999999999) ∧ Q (.dat .non) n
  | _ => False
def S_need_box : DSp := fun n ds Q => match ds with
  | [.int a, .int b] => (1 ≤ a ∧ a ≤ 999999999999999999999999999999) ∧ (1 ≤ b ∧ b ≤ 999999999999999999999999999999) ∧ Q (.dat .non) n
  | _ => False
def S_in_box : DSp := fun n ds Q => match ds with
  | [.int r, .int c, .tup [.int x, .int y]] => Q (.dat (.bl (decide (0 ≤ x) && decide (x < r) && (decide (0 ≤ y) && decide (y < c))))) n
  | _ => False
def S_taken : DSp := fun n ds Q => match ds with
  | [.tup [.int a, .int b], .tup [.int c, .int d]] => Q (.dat (.tup [.int (a - c), .int (b - d)])) n
  | _ => False
def S__law_spots : DSp := fun n ds Q => match ds with
  | [.int h, .int w] => 0 ≤ h ∧ 1 ≤ w ∧ h ≤ 1000 ∧ w ≤ 1000 ∧ h * w ≤ 10000 ∧ Q (.new (.lst (spotsD h w))) n
  | _ => False
def S__law_move : DSp := fun n ds Q => match ds with
  | [.src, .int f] => 1 ≤ f ∧ f ≤ 6 ∧ n + 2 ≤ 10 ^ 18 ∧ ∀ (p : Int × Int) (j : Nat), stepTo f p → n ≤ j → j ≤ n + 2 → Q (.dat (.tup [.int p.1, .int p.2])) j
  | _ => False
def S__law_moves : DSp := fun n ds Q => match ds with
  | [.src, .int f, .int m] => (1 ≤ f ∧ f ≤ 6) ∧ (1 ≤ m ∧ m ≤ 4) ∧ n + 9 ≤ 10 ^ 18 ∧ ∀ (ms : List (Int × Int)) (j : Nat), 1 ≤ ms.length → ms.length ≤ 4 → (∀ p ∈ ms, stepTo f p) → ms.Nodup → n ≤ j → j ≤ n + 9 → Q (.new (.lst (ms.map prD))) j
  | _ => False
def S__law_some_moves : DSp := fun n ds Q => match ds with
  | [.src] => n + 12 ≤ 10 ^ 18 ∧ ∀ (ms : List (Int × Int)) (j : Nat), StepsOk ms → n ≤ j → j ≤ n + 12 → Q (.new (.lst (ms.map prD))) j
  | _ => False
def S_steps_fault : DSp := fun n ds Q => match ds with
  | [d] => okL d = true ∧ Q (.dat (faultD d)) n
  | _ => False
def S_need_steps : DSp := fun n ds Q => match ds with
  | [d] => okL d = true ∧ faultD d = .tup [] ∧ Q (.dat .non) n
  | _ => False
def S_is_step : DSp := fun n ds Q => match ds with
  | [d] => okE d = true ∧ Q (.dat (.bl (stepD d))) n
  | _ => False
def S_sources_of : DSp := fun n ds Q => match ds with
  | [.lst ds, .int r, .int c, .tup [.int x, .int y]] => (∃ ms, ds = ms.map prD ∧ StepsOk ms ∧ ∀ qs, SortSet (SrcP ms r c (x, y)) qs → Q (.new (.lst (qs.map prD))) n)
  | _ => False
def S__law_behind : DSp := fun n ds Q => match ds with
  | [.lst ds, .tup [.int x, .int y], .int r, .int c] => (∃ ms, ds = ms.map prD ∧ StepsOk ms ∧ ∀ qs, SortSet (SrcP ms r c (x, y)) qs → Q (.new (.lst (qs.map prD))) n)
  | _ => False
def S__law_ahead : DSp := fun n ds Q => match ds with
  | [.lst ds, .tup [.int x, .int y], .int r, .int c] => (∃ ms, ds = ms.map prD ∧ StepsOk ms ∧ ∀ qs, SortSet (RedP ms r c (x, y)) qs → Q (.new (.lst (qs.map prD))) n)
  | _ => False
def S_can_stand : DSp := fun n ds Q => match ds with
  | [.lst ds, .int r, .int c, .dT es, .tup [.int x, .int y]] => (∃ ms F, ds = ms.map prD ∧ StepsOk ms ∧ HasKeys es F ∧ Q (.dat (.bl (standB ms r c F (x, y)))) n)
  | _ => False
def S_list_fault : DSp := fun n ds Q => match ds with
  | [.lst ds, .int r, .int c, d] => (∃ ms, ds = ms.map prD ∧ StepsOk ms ∧ okL d = true ∧ Q (.dat (faultLD ms r c d)) n)
  | _ => False
def S__law_box : DSp := fun n ds Q => match ds with
  | [.src, .int m] => (1 ≤ m ∧ m ≤ 1000) ∧ n + 3 ≤ 10 ^ 18 ∧ ∀ (a b : Int) (j : Nat), 1 ≤ a → 1 ≤ b → a ≤ m → b ≤ m → a * b ≤ m → n ≤ j → j ≤ n + 3 → Q (.dat (.tup [.int a, .int b])) j
  | _ => False
def S__law_list : DSp := fun n ds Q => match ds with
  | [.src, .lst ds, .int a, .int b, .int m] => (∃ ms, ds = ms.map prD ∧ StepsOk ms ∧ (1 ≤ a ∧ a ≤ 1000) ∧ (1 ≤ b ∧ b ≤ 1000) ∧ a * b ≤ 1000 ∧ n + (a * b).toNat ≤ 10 ^ 18 ∧ ∀ (L : List (Int × Int)) (j : Nat), LegalF ms a b [] L → L.Nodup → L.length ≤ (a * b).toNat → (0 ≤ m → (L.length : Int) ≤ m) → n ≤ j → j ≤ n + (a * b).toNat → Q (.new (.lst (L.map prD))) j)
  | _ => False
def S_is_list : DSp := fun n ds Q => match ds with
  | [.lst ds, .int r, .int c, d] => (∃ ms, ds = ms.map prD ∧ StepsOk ms ∧ sizeB r ∧ sizeB c ∧ okL d = true ∧ Q (.dat (.bl (listB ms r c d))) n)
  | _ => False
def S__law_is_list : DSp := fun n ds Q => match ds with
  | [.lst ds, .int r, .int c, d] => (∃ ms, ds = ms.map prD ∧ StepsOk ms ∧ okL d = true ∧ Q (.dat (.bl (listB ms r c d))) n)
  | _ => False
def S__law_odd_spot : DSp := fun n ds Q => match ds with
  | [.src, .int h, .int w] => (0 ≤ h ∧ h ≤ 1000) ∧ (0 ≤ w ∧ w ≤ 1000) ∧ n + 2 ≤ 10 ^ 18 ∧ ∀ (d : D) (j : Nat), ItemOk d → n ≤ j → j ≤ n + 2 → Q (.dat d) j
  | _ => False
def S__law_bent : DSp := fun n ds Q => match ds with
  | [.src, .lst ds, .int h, .int w] => (∃ L : List (Int × Int), ds = L.map prD ∧ L.length ≤ 400 ∧ (∀ p ∈ L, inB h w p.1 p.2)) ∧ (1 ≤ h ∧ h ≤ 1000) ∧ (1 ≤ w ∧ w ≤ 1000) ∧ n + 5 ≤ 10 ^ 18 ∧ ∀ (es : List D) (j : Nat), es.length ≤ ds.length + 1 → (∀ d ∈ es, ItemOk d) → n ≤ j → j ≤ n + 5 → Q (.new (.lst es)) j
  | _ => False
def S__law_told_right : DSp := fun n ds Q => match ds with
  | [.lst ds, .int r, .int c, d] => (∃ ms, ds = ms.map prD ∧ StepsOk ms ∧ sizeB r ∧ sizeB c ∧ AnyOk d ∧ Q (.dat (.bl true)) n)
  | _ => False
def S__law_right : DSp := fun n ds Q => match ds with
  | [.src, .int m] => (1 ≤ m ∧ m ≤ 60) ∧ n + 120 ≤ 10 ^ 18 ∧ ∀ j : Nat, n ≤ j → j ≤ n + 120 → Q (.dat (.bl true)) j
  | _ => False
def S_law : DSp := lawS most

def t__law_source : DS := dSeq (dAsg (dUn dAbs (dVar 0)) (dgName 2))
    (dRet (dSrcE (dLst (dCons (dBn dMax2 (dCons (dC (.int 0)) (dCons (dBin dSub (dVar 2) (dBin dPow (dC (.int 10)) (dC (.int 18)))) (dNil)))) (dCons (dBin dAdd (dBin dAdd (dBin dMul (dBin dMod (dUn dInt (dVar 2)) (dBin dAdd (dBin dPow (dC (.int 10)) (dC (.int 41))) (dC (.int 81)))) (dC (.int 97))) (dBin dMul (dC (.int 2)) (dVar 1))) (dUn dInt (dBin dLt (dVar 0) (dC (.int 0))))) (dCons (dC (.int 0)) (dNil)))))))
def t__law_draw : DS := dSeq (dIfS (dTst (dBin dGt (dSrcIx 0 0) (dC (.int 0)))) (dSeq (dAsg (dBin dMod (dUn dInt (dSrcIx 0 0)) (dVar 1)) (dgName 3))
    (dSeq (dSrcSet 0 0 (dBin dFdv (dSrcIx 0 0) (dVar 1)))
    (dRet (dVar 3)))) (dNext))
    (dSeq (dSrcSet 0 2 (dBin dAdd (dSrcIx 0 2) (dC (.int 1))))
    (dSeq (dAsg (dBin dMod (dUn dInt (dBin dPow (dBin dAdd (dSrcIx 0 1) (dBin dMul (dC (.int 900007)) (dSrcIx 0 2))) (dC (.int 3)))) (dBin dAdd (dBin dPow (dC (.int 10)) (dC (.int 37))) (dC (.int 43)))) (dgName 2))
    (dSeq (dAsg (dBin dMod (dUn dInt (dBin dPow (dBin dAdd (dBin dMul (dVar 2) (dSrcIx 0 2)) (dC (.int 80021))) (dC (.int 3)))) (dBin dAdd (dBin dPow (dC (.int 10)) (dC (.int 39))) (dC (.int 3)))) (dgName 2))
    (dRet (dBin dMod (dUn dInt (dBin dFdv (dVar 2) (dC (.int 65539)))) (dVar 1))))))
def t__law_move : DS := dSeq (dAsg (dCall 2 0 S__law_draw (fun ds _ => ds) (dCons (dVar 0) (dCons (dBin dAdd (dVar 1) (dC (.int 1))) (dNil))) dNil) (dgName 2))
    (dSeq (dIfS (dTst (dBin dEq (dVar 2) (dC (.int 0)))) (dRet (dTup (dCons (dC (.int 0)) (dCons (dBin dAdd (dC (.int 1)) (dCall 2 0 S__law_draw (fun ds _ => ds) (dCons (dVar 0) (dCons (dVar 1) (dNil))) dNil)) (dNil))))) (dNext))
    (dRet (dTup (dCons (dVar 2) (dCons (dBin dSub (dCall 2 0 S__law_draw (fun ds _ => ds) (dCons (dVar 0) (dCons (dBin dAdd (dBin dMul (dC (.int 2)) (dVar 1)) (dC (.int 1))) (dNil))) dNil) (dVar 1)) (dNil))))))
def t__law_moves : DS := dSeq (dAsg (dLst (dNil)) (dgName 3))
    (dSeq (dFor (dRng1 (dCons (dBin dAdd (dC (.int 1)) (dCall 2 0 S__law_draw (fun ds _ => ds) (dCons (dVar 0) (dCons (dVar 2) (dNil))) dNil)) (dNil))) (dgName 4) (dSeq (dAsg (dCall 2 0 S__law_move (fun ds _ => ds) (dCons (dVar 0) (dCons (dVar 1) (dNil))) dNil) (dgName 5))
    (dIfS (dTst (dBin dNotIn (dVar 5) (dVar 3))) (dDrop (dOwnL 3 mApp (dCons (dVar 5) (dNil)))) (dNext))))
    (dRet (dVar 3)))
def t__law_some_moves : DS := dSeq (dAsg (dCall 2 0 S__law_draw (fun ds _ => ds) (dCons (dVar 0) (dCons (dC (.int 6)) (dNil))) dNil) (dgName 1))
    (dSeq (dIfS (dTst (dBin dEq (dVar 1) (dC (.int 0)))) (dRet (dCall 3 0 S__law_moves (fun ds _ => ds) (dCons (dVar 0) (dCons (dC (.int 6)) (dCons (dC (.int 4)) (dNil)))) dNil)) (dNext))
    (dSeq (dIfS (dTst (dBin dEq (dVar 1) (dC (.int 1)))) (dRet (dCall 3 0 S__law_moves (fun ds _ => ds) (dCons (dVar 0) (dCons (dC (.int 2)) (dCons (dC (.int 4)) (dNil)))) dNil)) (dNext))
    (dSeq (dIfS (dTst (dBin dEq (dVar 1) (dC (.int 2)))) (dSeq (dAsg (dBin dIx (dLst (dCons (dTup (dCons (dC (.int 0)) (dCons (dC (.int 1)) (dNil)))) (dCons (dTup (dCons (dC (.int 1)) (dCons (dC (.int 0)) (dNil)))) (dCons (dTup (dCons (dC (.int 1)) (dCons (dC (.int 1)) (dNil)))) (dCons (dTup (dCons (dC (.int 1)) (dCons (dUn dNeg (dC (.int 1))) (dNil)))) (dCons (dTup (dCons (dC (.int 1)) (dCons (dC (.int 2)) (dNil)))) (dCons (dTup (dCons (dC (.int 2)) (dCons (dUn dNeg (dC (.int 1))) (dNil)))) (dNil)))))))) (dCall 2 0 S__law_draw (fun ds _ => ds) (dCons (dVar 0) (dCons (dC (.int 6)) (dNil))) dNil)) (dgTup 2 (dgCons (dgName 4) (dgCons (dgName 5) (dgNil)))))
    (dSeq (dAsg (dLst (dNil)) (dgName 2))
    (dSeq (dFor (dWalk (dLc [8] (dRng1 (dCons (dBin dAdd (dC (.int 1)) (dCall 2 0 S__law_draw (fun ds _ => ds) (dCons (dVar 0) (dCons (dC (.int 3)) (dNil))) dNil)) (dNil))) (dgName 8) (dYes) (dBin dAdd (dC (.int 1)) (dCall 2 0 S__law_draw (fun ds _ => ds) (dCons (dVar 0) (dCons (dC (.int 3)) (dNil))) dNil)))) (dgName 3) (dIfS (dTst (dBin dNotIn (dTup (dCons (dBin dMul (dVar 4) (dVar 3)) (dCons (dBin dMul (dVar 5) (dVar 3)) (dNil)))) (dVar 2))) (dDrop (dOwnL 2 mApp (dCons (dTup (dCons (dBin dMul (dVar 4) (dVar 3)) (dCons (dBin dMul (dVar 5) (dVar 3)) (dNil)))) (dNil)))) (dNext)))
    (dRet (dVar 2))))) (dNext))
    (dSeq (dIfS (dTst (dBin dEq (dVar 1) (dC (.int 3)))) (dSeq (dPar2 6 7 (dBin dAdd (dC (.int 1)) (dCall 2 0 S__law_draw (fun ds _ => ds) (dCons (dVar 0) (dCons (dC (.int 3)) (dNil))) dNil)) (dBin dAdd (dC (.int 1)) (dCall 2 0 S__law_draw (fun ds _ => ds) (dCons (dVar 0) (dCons (dC (.int 3)) (dNil))) dNil)))
    (dRet (dLc [10, 11] (dWalk (dCall 3 0 S__law_moves (fun ds _ => ds) (dCons (dVar 0) (dCons (dC (.int 2)) (dCons (dC (.int 4)) (dNil)))) dNil)) (dgTup 2 (dgCons (dgName 10) (dgCons (dgName 11) (dgNil)))) (dYes) (dTup (dCons (dBin dMul (dVar 6) (dVar 10)) (dCons (dBin dMul (dVar 7) (dVar 11)) (dNil))))))) (dNext))
    (dSeq (dIfS (dTst (dBin dEq (dVar 1) (dC (.int 4)))) (dRet (dLc [9] (dRng1 (dCons (dBin dAdd (dC (.int 2)) (dCall 2 0 S__law_draw (fun ds _ => ds) (dCons (dVar 0) (dCons (dC (.int 3)) (dNil))) dNil)) (dNil))) (dgName 9) (dYes) (dTup (dCons (dBin dAdd (dC (.int 1)) (dCall 2 0 S__law_draw (fun ds _ => ds) (dCons (dVar 0) (dCons (dC (.int 2)) (dNil))) dNil)) (dCons (dBin dSub (dVar 9) (dC (.int 1))) (dNil)))))) (dNext))
    (dRet (dCall 3 0 S__law_moves (fun ds _ => ds) (dCons (dVar 0) (dCons (dC (.int 3)) (dCons (dC (.int 4)) (dNil)))) dNil)))))))
def t__law_box : DS := dSeq (dAsg (dBin dAdd (dC (.int 1)) (dCall 2 0 S__law_draw (fun ds _ => ds) (dCons (dVar 0) (dCons (dVar 1) (dNil))) dNil)) (dgName 2))
    (dSeq (dAsg (dBin dAdd (dC (.int 1)) (dCall 2 0 S__law_draw (fun ds _ => ds) (dCons (dVar 0) (dCons (dBin dFdv (dVar 1) (dVar 2)) (dNil))) dNil)) (dgName 3))
    (dRet (dBin dIx (dLst (dCons (dTup (dCons (dVar 2) (dCons (dVar 3) (dNil)))) (dCons (dTup (dCons (dVar 3) (dCons (dVar 2) (dNil)))) (dNil)))) (dCall 2 0 S__law_draw (fun ds _ => ds) (dCons (dVar 0) (dCons (dC (.int 2)) (dNil))) dNil))))
def t__law_spots : DS := dRet (dLc [2] (dRng1 (dCons (dBin dMul (dVar 0) (dVar 1)) (dNil))) (dgName 2) (dYes) (dTup (dCons (dBin dFdv (dVar 2) (dVar 1)) (dCons (dBin dMod (dUn dInt (dVar 2)) (dVar 1)) (dNil)))))
def t__law_behind : DS := dSeq (dAsg (dLc [5, 6] (dWalk (dVar 0)) (dgTup 2 (dgCons (dgName 5) (dgCons (dgName 6) (dgNil)))) (dYes) (dTup (dCons (dBin dSub (dBin dIx (dVar 1) (dC (.int 0))) (dVar 5)) (dCons (dBin dSub (dBin dIx (dVar 1) (dC (.int 1))) (dVar 6)) (dNil))))) (dgName 4))
    (dRet (dUn dSorted (dLc [7] (dWalk (dVar 4)) (dgName 7) (dAndT (dTst (dChn dLe dLt (dC (.int 0)) (dBin dIx (dVar 7) (dC (.int 0))) (dVar 2))) (dTst (dChn dLe dLt (dC (.int 0)) (dBin dIx (dVar 7) (dC (.int 1))) (dVar 3)))) (dVar 7))))
def t__law_ahead : DS := dSeq (dAsg (dLc [5, 6] (dWalk (dVar 0)) (dgTup 2 (dgCons (dgName 5) (dgCons (dgName 6) (dgNil)))) (dYes) (dTup (dCons (dBin dAdd (dBin dIx (dVar 1) (dC (.int 0))) (dVar 5)) (dCons (dBin dAdd (dBin dIx (dVar 1) (dC (.int 1))) (dVar 6)) (dNil))))) (dgName 4))
    (dRet (dUn dSorted (dLc [7] (dWalk (dVar 4)) (dgName 7) (dAndT (dTst (dChn dLe dLt (dC (.int 0)) (dBin dIx (dVar 7) (dC (.int 0))) (dVar 2))) (dTst (dChn dLe dLt (dC (.int 0)) (dBin dIx (dVar 7) (dC (.int 1))) (dVar 3)))) (dVar 7))))
def t__law_list : DS := dSeq (dAsg (dLc [9] (dWalk (dCall 2 0 S__law_spots (fun ds _ => ds) (dCons (dVar 2) (dCons (dVar 3) (dNil))) dNil)) (dgName 9) (dTst (dBin dEq (dCall 4 0 S__law_behind (fun ds _ => ds) (dCons (dVar 1) (dCons (dVar 9) (dCons (dVar 2) (dCons (dVar 3) (dNil))))) dNil) (dLst (dNil)))) (dVar 9)) (dgName 5))
    (dSeq (dPar2 6 7 (dLst (dNil)) (dDnT))
    (dSeq (dWhile (dAndT (dTst (dBin dNe (dVar 5) (dLst (dNil)))) (dTst (dBin dLt (dUn dLen (dVar 6)) (dVar 4)))) (dSeq (dAsg (dCall 2 0 S__law_draw (fun ds _ => ds) (dCons (dVar 0) (dCons (dUn dLen (dVar 5)) (dNil))) dNil) (dgName 8))
    (dSeq (dAsg (dBin dIx (dVar 5) (dVar 8)) (dgName 9))
    (dSeq (dAsg (dBin dAdd (dSl (dVar 5) (dNoP) (dPart (dVar 8))) (dSl (dVar 5) (dPart (dBin dAdd (dVar 8) (dC (.int 1)))) (dNoP))) (dgName 5))
    (dSeq (dDrop (dOwnL 6 mApp (dCons (dVar 9) (dNil))))
    (dSeq (dPut 7 (dC (.bl true)) (dVar 9))
    (dFor (dWalk (dCall 4 0 S__law_ahead (fun ds _ => ds) (dCons (dVar 1) (dCons (dVar 9) (dCons (dVar 2) (dCons (dVar 3) (dNil))))) dNil)) (dgName 10) (dIfS (dTst (dBin dEq (dLc [11] (dWalk (dCall 4 0 S__law_behind (fun ds _ => ds) (dCons (dVar 1) (dCons (dVar 10) (dCons (dVar 2) (dCons (dVar 3) (dNil))))) dNil)) (dgName 11) (dTst (dBin dNotIn (dVar 11) (dVar 7))) (dVar 11)) (dLst (dNil)))) (dDrop (dOwnL 5 mApp (dCons (dVar 10) (dNil)))) (dNext)))))))))
    (dRet (dVar 6))))
def t_is_integer : DS := dSeq (dIfS (dOrT (dNotT (dTst (dBn dIsi (dCons (dVar 0) (dCons (dC (.ty "int")) (dNil)))))) (dTst (dBn dIsi (dCons (dVar 0) (dCons (dC (.ty "bool")) (dNil)))))) (dRet (dC (.bl false))) (dNext))
    (dRet (dAndV (dOrV (dBin dIs (dVar 1) (dC (.non))) (dBin dGe (dVar 0) (dVar 1))) (dOrV (dBin dIs (dVar 2) (dC (.non))) (dBin dLe (dVar 0) (dVar 2)))))
def t_is_pair : DS := dRet (dAndV (dBn dIsi (dCons (dVar 0) (dCons (dC (.ty "tuple")) (dNil)))) (dAndV (dBin dEq (dUn dLen (dVar 0)) (dC (.int 2))) (dUn dAll (dLc [1] (dWalk (dVar 0)) (dgName 1) (dYes) (dCall 1 0 S_is_integer (fun ds es => sel [0, 1, 2] (ds ++ es ++ dd_is_integer)) (dCons (dVar 1) (dNil)) dNil)))))
def t_is_step : DS := dSeq (dIfS (dOrT (dNotT (dTst (dCall 1 0 S_is_pair (fun ds _ => ds) (dCons (dVar 0) (dNil)) dNil))) (dNotT (dTst (dChn dLe dLe (dC (.int 0)) (dBin dIx (dVar 0) (dC (.int 0))) (dC (.int 6)))))) (dRet (dC (.bl false))) (dNext))
    (dRet (dChn dLe dLe (dIf (dTst (dBin dEq (dBin dIx (dVar 0) (dC (.int 0))) (dC (.int 0)))) (dC (.int 1)) (dUn dNeg (dC (.int 6)))) (dBin dIx (dVar 0) (dC (.int 1))) (dC (.int 6))))
def t_steps_fault : DS := dSeq (dIfS (dOrT (dNotT (dTst (dBn dIsi (dCons (dVar 0) (dCons (dC (.ty "list")) (dNil)))))) (dNotT (dTst (dChn dLe dLe (dC (.int 1)) (dUn dLen (dVar 0)) (dC (.int 4)))))) (dRet (dTup (dCons (dC (.non)) (dNil)))) (dNext))
    (dSeq (dFor (dEnum (dCons (dVar 0) (dNil))) (dgTup 2 (dgCons (dgName 1) (dgCons (dgName 2) (dgNil)))) (dIfS (dOrT (dNotT (dTst (dCall 1 0 S_is_step (fun ds _ => ds) (dCons (dVar 2) (dNil)) dNil))) (dTst (dBin dIn (dVar 2) (dSl (dVar 0) (dNoP) (dPart (dVar 1)))))) (dRet (dTup (dCons (dVar 1) (dNil)))) (dNext)))
    (dRet (dTup (dNil))))
def t_need_steps : DS := dSeq (dAsg (dCall 1 0 S_steps_fault (fun ds _ => ds) (dCons (dVar 0) (dNil)) dNil) (dgName 1))
    (dIfS (dTst (dBin dNe (dVar 1) (dTup (dNil)))) (dNever) (dNext))
def t_need_size : DS := dIfS (dNotT (dTst (dCall 3 0 S_is_integer (fun ds es => sel [0, 1, 2] (ds ++ es ++ dd_is_integer)) (dCons (dVar 0) (dCons (dC (.int 1)) (dCons (dC (.int 999999999999999999999999999999)) (dNil)))) dNil))) (dNever) (dNext)
def t_need_box : DS := dSeq (dDrop (dCall 1 0 S_need_size (fun ds _ => ds) (dCons (dVar 0) (dNil)) dNil))
    (dDrop (dCall 1 0 S_need_size (fun ds _ => ds) (dCons (dVar 1) (dNil)) dNil))
def t_in_box : DS := dRet (dAndV (dChn dLe dLt (dC (.int 0)) (dBin dIx (dVar 2) (dC (.int 0))) (dVar 0)) (dChn dLe dLt (dC (.int 0)) (dBin dIx (dVar 2) (dC (.int 1))) (dVar 1)))
def t_taken : DS := dRet (dTup (dCons (dBin dSub (dBin dIx (dVar 0) (dC (.int 0))) (dBin dIx (dVar 1) (dC (.int 0)))) (dCons (dBin dSub (dBin dIx (dVar 0) (dC (.int 1))) (dBin dIx (dVar 1) (dC (.int 1)))) (dNil))))
def t_sources_of : DS := dSeq (dAsg (dLc [5] (dWalk (dVar 0)) (dgName 5) (dYes) (dCall 2 0 S_taken (fun ds _ => ds) (dCons (dVar 3) (dCons (dVar 5) (dNil))) dNil)) (dgName 4))
    (dRet (dUn dSorted (dLc [6] (dWalk (dVar 4)) (dgName 6) (dTst (dCall 3 0 S_in_box (fun ds _ => ds) (dCons (dVar 1) (dCons (dVar 2) (dCons (dVar 6) (dNil)))) dNil)) (dVar 6))))
def t_can_stand : DS := dSeq (dIfS (dOrT (dNotT (dTst (dCall 3 0 S_in_box (fun ds _ => ds) (dCons (dVar 1) (dCons (dVar 2) (dCons (dVar 4) (dNil)))) dNil))) (dTst (dBin dIn (dVar 4) (dVar 3)))) (dRet (dC (.bl false))) (dNext))
    (dRet (dUn dAll (dLc [5] (dWalk (dCall 4 0 S_sources_of (fun ds _ => ds) (dCons (dVar 0) (dCons (dVar 1) (dCons (dVar 2) (dCons (dVar 4) (dNil))))) dNil)) (dgName 5) (dYes) (dBin dIn (dVar 5) (dVar 3)))))
def t_list_fault : DS := dSeq (dIfS (dOrT (dNotT (dTst (dBn dIsi (dCons (dVar 3) (dCons (dC (.ty "list")) (dNil)))))) (dTst (dBin dGt (dUn dLen (dVar 3)) (dC (.int 400))))) (dRet (dTup (dCons (dC (.non)) (dNil)))) (dNext))
    (dSeq (dAsg (dDnT) (dgName 4))
    (dSeq (dFor (dEnum (dCons (dVar 3) (dNil))) (dgTup 2 (dgCons (dgName 5) (dgCons (dgName 6) (dgNil)))) (dSeq (dIfS (dOrT (dNotT (dTst (dCall 1 0 S_is_pair (fun ds _ => ds) (dCons (dVar 6) (dNil)) dNil))) (dNotT (dTst (dCallB 5 S_can_stand (fun ds _ => ds) (dConsT (dVar 0) (dConsT (dVar 1) (dConsT (dVar 2) (dConsT (dVar 4) (dConsT (dVar 6) (dNilT)))))))))) (dRet (dTup (dCons (dVar 5) (dNil)))) (dNext))
    (dPut 4 (dVar 5) (dVar 6))))
    (dRet (dTup (dNil)))))
def t_is_list : DS := dSeq (dDrop (dCall 1 0 S_need_steps (fun ds _ => ds) (dCons (dVar 0) (dNil)) dNil))
    (dSeq (dDrop (dCall 2 0 S_need_box (fun ds _ => ds) (dCons (dVar 1) (dCons (dVar 2) (dNil))) dNil))
    (dRet (dBin dEq (dCall 4 0 S_list_fault (fun ds _ => ds) (dCons (dVar 0) (dCons (dVar 1) (dCons (dVar 2) (dCons (dVar 3) (dNil))))) dNil) (dTup (dNil)))))
def t__law_odd_spot : DS := dSeq (dAsg (dLst (dCons (dC (.non)) (dCons (dTup (dCons (dVar 1) (dCons (dC (.int 0)) (dNil)))) (dCons (dTup (dCons (dC (.int 0)) (dCons (dVar 2) (dNil)))) (dCons (dTup (dCons (dUn dNeg (dC (.int 1))) (dCons (dC (.int 0)) (dNil)))) (dCons (dTup (dCons (dC (.int 0)) (dCons (dUn dNeg (dC (.int 1))) (dNil)))) (dCons (dLst (dCons (dC (.int 0)) (dCons (dC (.int 0)) (dNil)))) (dCons (dTup (dCons (dC (.int 0)) (dNil))) (dCons (dTup (dCons (dC (.int 0)) (dCons (dC (.int 0)) (dCons (dC (.int 0)) (dNil))))) (dCons (dTup (dCons (dC (.bl true)) (dCons (dC (.int 0)) (dNil)))) (dCons (dTup (dCons (dC (.int 0)) (dCons (dC (.bl false)) (dNil)))) (dCons (dC (.str "0,0")) (dNil))))))))))))) (dgName 3))
    (dSeq (dAsg (dBin dAdd (dVar 3) (dLst (dCons (dTup (dCons (dC (.int 0)) (dCons (dC (.str "0")) (dNil)))) (dCons (dTup (dCons (dTup (dCons (dC (.int 0)) (dCons (dC (.int 0)) (dNil)))) (dNil))) (dCons (dDnK) (dCons (dC (.int 0)) (dCons (dTup (dNil)) (dCons (dTup (dCons (dC (.non)) (dCons (dC (.int 0)) (dNil)))) (dCons (dTup (dCons (dBin dAdd (dVar 1) (dCall 2 0 S__law_draw (fun ds _ => ds) (dCons (dVar 0) (dCons (dBin dPow (dC (.int 10)) (dC (.int 20))) (dNil))) dNil)) (dCons (dC (.int 0)) (dNil)))) (dCons (dTup (dCons (dTup (dCons (dC (.int 0)) (dNil))) (dCons (dC (.int 0)) (dNil)))) (dNil))))))))))) (dgName 3))
    (dRet (dBin dIx (dVar 3) (dCall 2 0 S__law_draw (fun ds _ => ds) (dCons (dVar 0) (dCons (dUn dLen (dVar 3)) (dNil))) dNil))))
def t__law_bent : DS := dSeq (dPar2 4 5 (dUn dList (dVar 1)) (dCall 2 0 S__law_draw (fun ds _ => ds) (dCons (dVar 0) (dCons (dC (.int 7)) (dNil))) dNil))
    (dSeq (dIfS (dOrT (dTst (dBin dEq (dVar 4) (dLst (dNil)))) (dTst (dBin dEq (dVar 5) (dC (.int 0))))) (dSeq (dAsg (dCall 2 0 S__law_draw (fun ds _ => ds) (dCons (dVar 0) (dCons (dBin dAdd (dUn dLen (dVar 4)) (dC (.int 1))) (dNil))) dNil) (dgName 6))
    (dRet (dBin dAdd (dBin dAdd (dSl (dVar 4) (dNoP) (dPart (dVar 6))) (dLst (dCons (dCall 3 0 S__law_odd_spot (fun ds _ => ds) (dCons (dVar 0) (dCons (dVar 2) (dCons (dVar 3) (dNil)))) dNil) (dNil)))) (dSl (dVar 4) (dPart (dVar 6)) (dNoP))))) (dNext))
    (dSeq (dPar2 7 8 (dCall 2 0 S__law_draw (fun ds _ => ds) (dCons (dVar 0) (dCons (dUn dLen (dVar 4)) (dNil))) dNil) (dCall 2 0 S__law_draw (fun ds _ => ds) (dCons (dVar 0) (dCons (dUn dLen (dVar 4)) (dNil))) dNil))
    (dSeq (dIfS (dTst (dBin dEq (dVar 5) (dC (.int 1)))) (dSeq (dAsg (dBin dIx (dVar 4) (dVar 7)) (dgName 9))
    (dSeq (dPutL 4 (dBin dIx (dVar 4) (dVar 8)) (dVar 7))
    (dPutL 4 (dVar 9) (dVar 8)))) (dIfS (dTst (dBin dEq (dVar 5) (dC (.int 2)))) (dAsg (dBin dAdd (dBin dAdd (dSl (dVar 4) (dNoP) (dPart (dVar 8))) (dLst (dCons (dBin dIx (dVar 4) (dVar 7)) (dNil)))) (dSl (dVar 4) (dPart (dVar 8)) (dNoP))) (dgName 4)) (dIfS (dTst (dBin dEq (dVar 5) (dC (.int 3)))) (dSeq (dAsg (dBin dIx (dVar 4) (dVar 7)) (dgName 9))
    (dSeq (dAsg (dBin dAdd (dSl (dVar 4) (dNoP) (dPart (dVar 7))) (dSl (dVar 4) (dPart (dBin dAdd (dVar 7) (dC (.int 1)))) (dNoP))) (dgName 4))
    (dAsg (dBin dAdd (dBin dAdd (dSl (dVar 4) (dNoP) (dPart (dVar 8))) (dLst (dCons (dVar 9) (dNil)))) (dSl (dVar 4) (dPart (dVar 8)) (dNoP))) (dgName 4)))) (dIfS (dTst (dBin dEq (dVar 5) (dC (.int 4)))) (dAsg (dBin dAdd (dSl (dVar 4) (dNoP) (dPart (dVar 7))) (dSl (dVar 4) (dPart (dBin dAdd (dVar 7) (dC (.int 1)))) (dNoP))) (dgName 4)) (dIfS (dTst (dBin dEq (dVar 5) (dC (.int 5)))) (dAsg (dSl3 (dVar 4) (dNoP) (dNoP) (dPart (dUn dNeg (dC (.int 1))))) (dgName 4)) (dDrop (dOwnL 4 mApp (dCons (dTup (dCons (dCall 2 0 S__law_draw (fun ds _ => ds) (dCons (dVar 0) (dCons (dVar 2) (dNil))) dNil) (dCons (dCall 2 0 S__law_draw (fun ds _ => ds) (dCons (dVar 0) (dCons (dVar 3) (dNil))) dNil) (dNil)))) (dNil)))))))))
    (dRet (dVar 4)))))
def t__law_is_list : DS := dSeq (dIfS (dOrT (dNotT (dTst (dBn dIsi (dCons (dVar 3) (dCons (dC (.ty "list")) (dNil)))))) (dTst (dBin dGt (dUn dLen (dVar 3)) (dC (.int 400))))) (dRet (dC (.bl false))) (dNext))
    (dSeq (dAsg (dDnT) (dgName 4))
    (dSeq (dFor (dWalk (dVar 3)) (dgName 5) (dSeq (dIfS (dOrT (dNotT (dTst (dBn dIsi (dCons (dVar 5) (dCons (dC (.ty "tuple")) (dNil)))))) (dTst (dBin dNe (dUn dLen (dVar 5)) (dC (.int 2))))) (dRet (dC (.bl false))) (dNext))
    (dSeq (dFor (dWalk (dVar 5)) (dgName 6) (dIfS (dOrT (dNotT (dTst (dBn dIsi (dCons (dVar 6) (dCons (dC (.ty "int")) (dNil)))))) (dTst (dBn dIsi (dCons (dVar 6) (dCons (dC (.ty "bool")) (dNil)))))) (dRet (dC (.bl false))) (dNext)))
    (dSeq (dIfS (dOrT (dNotT (dTst (dChn dLe dLt (dC (.int 0)) (dBin dIx (dVar 5) (dC (.int 0))) (dVar 1)))) (dOrT (dNotT (dTst (dChn dLe dLt (dC (.int 0)) (dBin dIx (dVar 5) (dC (.int 1))) (dVar 2)))) (dTst (dBin dIn (dVar 5) (dVar 4))))) (dRet (dC (.bl false))) (dNext))
    (dSeq (dIfS (dTst (dBin dNe (dLc [7] (dWalk (dCall 4 0 S__law_behind (fun ds _ => ds) (dCons (dVar 0) (dCons (dVar 5) (dCons (dVar 1) (dCons (dVar 2) (dNil))))) dNil)) (dgName 7) (dTst (dBin dNotIn (dVar 7) (dVar 4))) (dVar 7)) (dLst (dNil)))) (dRet (dC (.bl false))) (dNext))
    (dPut 4 (dC (.bl true)) (dVar 5)))))))
    (dRet (dC (.bl true)))))
def t__law_told_right : DS := dSeq (dPar2 5 6 (dCall 4 0 S__law_is_list (fun ds _ => ds) (dCons (dVar 0) (dCons (dVar 1) (dCons (dVar 2) (dCons (dVar 3) (dNil))))) dNil) (dUn dRepr (dVar 3)))
    (dSeq (dAsg (dLst (dCons (dCall 4 0 S_is_list (fun ds _ => ds) (dCons (dVar 0) (dCons (dVar 1) (dCons (dVar 2) (dCons (dVar 3) (dNil))))) dNil) (dCons (dCall 0 4 S_is_list (fun ds es => sel [3, 2, 1, 0] (ds ++ es)) dNil (dCons (dVar 3) (dCons (dVar 2) (dCons (dVar 1) (dCons (dVar 0) (dNil)))))) (dNil)))) (dgName 4))
    (dRet (dAndV (dBin dEq (dUn dRepr (dVar 4)) (dReprL (dConsT (dVar 5) (dConsT (dVar 5) (dNilT))))) (dBin dEq (dUn dRepr (dVar 3)) (dVar 6)))))
def t__law_right : DS := dSeq (dAsg (dCall 1 0 S__law_some_moves (fun ds _ => ds) (dCons (dVar 0) (dNil)) dNil) (dgName 2))
    (dSeq (dAsg (dCall 2 0 S__law_box (fun ds _ => ds) (dCons (dVar 0) (dCons (dVar 1) (dNil))) dNil) (dgTup 2 (dgCons (dgName 7) (dgCons (dgName 8) (dgNil)))))
    (dSeq (dAsg (dCall 5 0 S__law_list (fun ds _ => ds) (dCons (dVar 0) (dCons (dVar 2) (dCons (dVar 7) (dCons (dVar 8) (dCons (dCall 2 0 S__law_draw (fun ds _ => ds) (dCons (dVar 0) (dCons (dBin dAdd (dVar 1) (dC (.int 1))) (dNil))) dNil) (dNil)))))) dNil) (dgName 3))
    (dSeq (dIfS (dTst (dBin dIsn (dCall 4 0 S_is_list (fun ds _ => ds) (dCons (dVar 2) (dCons (dVar 7) (dCons (dVar 8) (dCons (dVar 3) (dNil))))) dNil) (dC (.bl true)))) (dRet (dC (.bl false))) (dNext))
    (dSeq (dAsg (dLc [9] (dRng1 (dCons (dC (.int 4)) (dNil))) (dgName 9) (dYes) (dCall 4 0 S__law_bent (fun ds _ => ds) (dCons (dVar 0) (dCons (dVar 3) (dCons (dVar 7) (dCons (dVar 8) (dNil))))) dNil)) (dgName 4))
    (dSeq (dAsg (dBin dAdd (dVar 4) (dLst (dCons (dUn dTuple (dVar 3)) (dCons (dC (.non)) (dCons (dC (.int 0)) (dCons (dC (.bl true)) (dCons (dC (.str "0,0")) (dCons (dDnK) (dCons (dDspS (dC (.str "a")) (dVar 3)) (dCons (dLst (dCons (dVar 3) (dNil))) (dCons (dTup (dCons (dC (.int 0)) (dCons (dC (.int 0)) (dNil)))) (dCons (dLst (dCons (dUn dList (dTup (dCons (dC (.int 0)) (dCons (dC (.int 0)) (dNil))))) (dNil))) (dCons (dLst (dNil)) (dNil)))))))))))))) (dgName 4))
    (dSeq (dFor (dWalk (dVar 4)) (dgName 5) (dIfS (dNotT (dTst (dCall 4 0 S__law_told_right (fun ds _ => ds) (dCons (dVar 2) (dCons (dVar 7) (dCons (dVar 8) (dCons (dVar 5) (dNil))))) dNil))) (dRet (dC (.bl false))) (dNext)))
    (dSeq (dAsg (dBin dIx (dLst (dCons (dBin dSub (dBin dPow (dC (.int 10)) (dC (.int 30))) (dC (.int 1))) (dCons (dVar 7) (dNil)))) (dCall 2 0 S__law_draw (fun ds _ => ds) (dCons (dVar 0) (dCons (dC (.int 2)) (dNil))) dNil)) (dgName 6))
    (dRet (dAndV (dCall 4 0 S__law_told_right (fun ds _ => ds) (dCons (dVar 2) (dCons (dVar 6) (dCons (dBin dSub (dBin dPow (dC (.int 10)) (dC (.int 30))) (dC (.int 1))) (dCons (dVar 3) (dNil))))) dNil) (dCall 4 0 S__law_told_right (fun ds _ => ds) (dCons (dVar 2) (dCons (dVar 8) (dCons (dVar 7) (dCons (dVar 3) (dNil))))) dNil))))))))))
def t_law : DS := dSeq (dFor (dEnum (dCons (dSl (dBin dAdd (dVar 0) (dLst (dCons (dC (.int 0)) (dNil)))) (dNoP) (dPart (dBn dMax2 (dCons (dC (.int 1)) (dCons (dBn dMin2 (dCons (dUn dLen (dVar 0)) (dCons (dC (.int 8)) (dNil)))) (dNil)))))) (dNil))) (dgTup 2 (dgCons (dgName 1) (dgCons (dgName 2) (dgNil)))) (dSeq (dAsg (dCall 2 0 S__law_source (fun ds _ => ds) (dCons (dVar 2) (dCons (dVar 1) (dNil))) dNil) (dgName 3))
    (dSeq (dFor (dRng1 (dCons (dC (.int 4)) (dNil))) (dgName 4) (dIfS (dNotT (dTst (dCall 2 0 S__law_right (fun ds _ => ds) (dCons (dVar 3) (dCons (dBin dIx (dLst (dCons (dC (.int 9)) (dCons (dC (.int 60)) (dNil)))) (dUn dInt (dBin dNe (dVar 0) (dLst (dNil))))) (dNil))) dNil))) (dRet (dC (.bl false))) (dNext)))
    (dIfS (dAndT (dTst (dBin dEq (dVar 1) (dC (.int 0)))) (dTst (dBin dNe (dVar 0) (dLst (dNil))))) (dSeq (dAsg (dCall 1 0 S__law_some_moves (fun ds _ => ds) (dCons (dVar 3) (dNil)) dNil) (dgName 5))
    (dSeq (dAsg (dCall 5 0 S__law_list (fun ds _ => ds) (dCons (dVar 3) (dCons (dVar 5) (dCons (dC (.int 20)) (dCons (dC (.int 21)) (dCons (dC (.int 401)) (dNil)))))) dNil) (dgName 6))
    (dFor (dWalk (dTup (dCons (dSl (dVar 6) (dNoP) (dPart (dC (.int 400)))) (dCons (dVar 6) (dCons (dBin dAdd (dSl (dVar 6) (dNoP) (dPart (dC (.int 399)))) (dLst (dCons (dTup (dCons (dC (.int 20)) (dCons (dC (.int 0)) (dNil)))) (dNil)))) (dCons (dBin dAdd (dSl (dVar 6) (dNoP) (dPart (dC (.int 400)))) (dLst (dCons (dC (.non)) (dNil)))) (dNil))))))) (dgName 7) (dIfS (dNotT (dTst (dCall 4 0 S__law_told_right (fun ds _ => ds) (dCons (dVar 5) (dCons (dC (.int 20)) (dCons (dC (.int 21)) (dCons (dVar 7) (dNil))))) dNil))) (dRet (dC (.bl false))) (dNext))))) (dNext)))))
    (dRet (dAndV (dCall 4 0 S_is_list (fun ds _ => ds) (dCons (dLst (dCons (dTup (dCons (dC (.int 1)) (dCons (dC (.int 0)) (dNil)))) (dCons (dTup (dCons (dC (.int 0)) (dCons (dC (.int 1)) (dNil)))) (dNil)))) (dCons (dC (.int 2)) (dCons (dC (.int 3)) (dCons (dLst (dCons (dTup (dCons (dC (.int 0)) (dCons (dC (.int 0)) (dNil)))) (dCons (dTup (dCons (dC (.int 1)) (dCons (dC (.int 0)) (dNil)))) (dNil)))) (dNil))))) dNil) (dNotV (dCall 4 0 S_is_list (fun ds _ => ds) (dCons (dLst (dCons (dTup (dCons (dC (.int 1)) (dCons (dC (.int 0)) (dNil)))) (dCons (dTup (dCons (dC (.int 0)) (dCons (dC (.int 1)) (dNil)))) (dNil)))) (dCons (dC (.int 2)) (dCons (dC (.int 3)) (dCons (dLst (dCons (dTup (dCons (dC (.int 1)) (dCons (dC (.int 0)) (dNil)))) (dCons (dTup (dCons (dC (.int 0)) (dCons (dC (.int 0)) (dNil)))) (dNil)))) (dNil))))) dNil))))
theorem u_is_integer_0 {n : Nat} {Q : SV → Nat → Prop} {d : D} : S_is_integer n [d, .non, .non] Q = (okD d = true ∧ Q (.dat (.bl (intD d))) n) := rfl
theorem u_is_integer_1 {n : Nat} {Q : SV → Nat → Prop} {lo : Int} {hi : Int} {d : D} : S_is_integer n [d, .int lo, .int hi] Q = (okD d = true ∧ Q (.dat (.bl (rngD d lo hi))) n) := rfl
theorem u_is_integer_2 {n : Nat} {Q : SV → Nat → Prop} {lo : Int} {d : D} : S_is_integer n [d, .int lo, .non] Q = (okD d = true ∧ Q (.dat (.bl (intD d && (match d with | .int v => decide (lo ≤ v) | _ => false)))) n) := rfl
theorem u_is_pair_0 {n : Nat} {Q : SV → Nat → Prop} {d : D} : S_is_pair n [d] Q = (okE d = true ∧ Q (.dat (.bl (pairD d))) n) := rfl
theorem u__law_draw_0 {n : Nat} {Q : SV → Nat → Prop} {m : Int} : S__law_draw n [.src, .int m] Q = (1 ≤ m ∧ m.natAbs < 10 ^ 300 ∧ n < 10 ^ 18 ∧ ∀ (i : Int) (j : Nat), 0 ≤ i → i < m → n ≤ j → j ≤ n + 1 → Q (.dat (.int i)) j) := rfl
theorem u__law_source_0 {n : Nat} {Q : SV → Nat → Prop} {w1_ : Int} {k : Int} : S__law_source n [.int w1_, .int k] Q = (0 ≤ k ∧ k < 1000 ∧ Q (.dat .src) n) := rfl
theorem u_need_size_0 {n : Nat} {Q : SV → Nat → Prop} {a : Int} : S_need_size n [.int a] Q = ((1 ≤ a ∧ a ≤ 999999999999999999999999999999) ∧ Q (.dat .non) n) := rfl
theorem u_need_box_0 {n : Nat} {Q : SV → Nat → Prop} {a : Int} {b : Int} : S_need_box n [.int a, .int b] Q = ((1 ≤ a ∧ a ≤ 999999999999999999999999999999) ∧ (1 ≤ b ∧ b ≤ 999999999999999999999999999999) ∧ Q (.dat .non) n) := rfl
theorem u_in_box_0 {n : Nat} {Q : SV → Nat → Prop} {r : Int} {c : Int} {x : Int} {y : Int} : S_in_box n [.int r, .int c, .tup [.int x, .int y]] Q = (Q (.dat (.bl (decide (0 ≤ x) && decide (x < r) && (decide (0 ≤ y) && decide (y < c))))) n) := rfl
theorem u_taken_0 {n : Nat} {Q : SV → Nat → Prop} {a : Int} {b : Int} {c : Int} {d : Int} : S_taken n [.tup [.int a, .int b], .tup [.int c, .int d]] Q = (Q (.dat (.tup [.int (a - c), .int (b - d)])) n) := rfl
theorem u__law_spots_0 {n : Nat} {Q : SV → Nat → Prop} {h : Int} {w : Int} : S__law_spots n [.int h, .int w] Q = (0 ≤ h ∧ 1 ≤ w ∧ h ≤ 1000 ∧ w ≤ 1000 ∧ h * w ≤ 10000 ∧ Q (.new (.lst (spotsD h w))) n) := rfl
theorem u__law_move_0 {n : Nat} {Q : SV → Nat → Prop} {f : Int} : S__law_move n [.src, .int f] Q = (1 ≤ f ∧ f ≤ 6 ∧ n + 2 ≤ 10 ^ 18 ∧ ∀ (p : Int × Int) (j : Nat), stepTo f p → n ≤ j → j ≤ n + 2 → Q (.dat (.tup [.int p.1, .int p.2])) j) := rfl
theorem u__law_moves_0 {n : Nat} {Q : SV → Nat → Prop} {f : Int} {m : Int} : S__law_moves n [.src, .int f, .int m] Q = ((1 ≤ f ∧ f ≤ 6) ∧ (1 ≤ m ∧ m ≤ 4) ∧ n + 9 ≤ 10 ^ 18 ∧ ∀ (ms : List (Int × Int)) (j : Nat), 1 ≤ ms.length → ms.length ≤ 4 → (∀ p ∈ ms, stepTo f p) → ms.Nodup → n ≤ j → j ≤ n + 9 → Q (.new (.lst (ms.map prD))) j) := rfl
theorem u__law_some_moves_0 {n : Nat} {Q : SV → Nat → Prop}  : S__law_some_moves n [.src] Q = (n + 12 ≤ 10 ^ 18 ∧ ∀ (ms : List (Int × Int)) (j : Nat), StepsOk ms → n ≤ j → j ≤ n + 12 → Q (.new (.lst (ms.map prD))) j) := rfl
theorem u_steps_fault_0 {n : Nat} {Q : SV → Nat → Prop} {d : D} : S_steps_fault n [d] Q = (okL d = true ∧ Q (.dat (faultD d)) n) := rfl
theorem u_need_steps_0 {n : Nat} {Q : SV → Nat → Prop} {d : D} : S_need_steps n [d] Q = (okL d = true ∧ faultD d = .tup [] ∧ Q (.dat .non) n) := rfl
theorem u_is_step_0 {n : Nat} {Q : SV → Nat → Prop} {d : D} : S_is_step n [d] Q = (okE d = true ∧ Q (.dat (.bl (stepD d))) n) := rfl
theorem u_sources_of_0 {n : Nat} {Q : SV → Nat → Prop} {ds : List D} {r : Int} {c : Int} {x : Int} {y : Int} : S_sources_of n [.lst ds, .int r, .int c, .tup [.int x, .int y]] Q = ((∃ ms, ds = ms.map prD ∧ StepsOk ms ∧ ∀ qs, SortSet (SrcP ms r c (x, y)) qs → Q (.new (.lst (qs.map prD))) n)) := rfl
theorem u__law_behind_0 {n : Nat} {Q : SV → Nat → Prop} {ds : List D} {x : Int} {y : Int} {r : Int} {c : Int} : S__law_behind n [.lst ds, .tup [.int x, .int y], .int r, .int c] Q = ((∃ ms, ds = ms.map prD ∧ StepsOk ms ∧ ∀ qs, SortSet (SrcP ms r c (x, y)) qs → Q (.new (.lst (qs.map prD))) n)) := rfl
theorem u__law_ahead_0 {n : Nat} {Q : SV → Nat → Prop} {ds : List D} {x : Int} {y : Int} {r : Int} {c : Int} : S__law_ahead n [.lst ds, .tup [.int x, .int y], .int r, .int c] Q = ((∃ ms, ds = ms.map prD ∧ StepsOk ms ∧ ∀ qs, SortSet (RedP ms r c (x, y)) qs → Q (.new (.lst (qs.map prD))) n)) := rfl
theorem u_can_stand_0 {n : Nat} {Q : SV → Nat → Prop} {ds : List D} {r : Int} {c : Int} {es : List (List Key × D)} {x : Int} {y : Int} : S_can_stand n [.lst ds, .int r, .int c, .dT es, .tup [.int x, .int y]] Q = ((∃ ms F, ds = ms.map prD ∧ StepsOk ms ∧ HasKeys es F ∧ Q (.dat (.bl (standB ms r c F (x, y)))) n)) := rfl
theorem u_list_fault_0 {n : Nat} {Q : SV → Nat → Prop} {ds : List D} {r : Int} {c : Int} {d : D} : S_list_fault n [.lst ds, .int r, .int c, d] Q = ((∃ ms, ds = ms.map prD ∧ StepsOk ms ∧ okL d = true ∧ Q (.dat (faultLD ms r c d)) n)) := rfl
theorem u__law_box_0 {n : Nat} {Q : SV → Nat → Prop} {m : Int} : S__law_box n [.src, .int m] Q = ((1 ≤ m ∧ m ≤ 1000) ∧ n + 3 ≤ 10 ^ 18 ∧ ∀ (a b : Int) (j : Nat), 1 ≤ a → 1 ≤ b → a ≤ m → b ≤ m → a * b ≤ m → n ≤ j → j ≤ n + 3 → Q (.dat (.tup [.int a, .int b])) j) := rfl
theorem u__law_list_0 {n : Nat} {Q : SV → Nat → Prop} {ds : List D} {a : Int} {b : Int} {m : Int} : S__law_list n [.src, .lst ds, .int a, .int b, .int m] Q = ((∃ ms, ds = ms.map prD ∧ StepsOk ms ∧ (1 ≤ a ∧ a ≤ 1000) ∧ (1 ≤ b ∧ b ≤ 1000) ∧ a * b ≤ 1000 ∧ n + (a * b).toNat ≤ 10 ^ 18 ∧ ∀ (L : List (Int × Int)) (j : Nat), LegalF ms a b [] L → L.Nodup → L.length ≤ (a * b).toNat → (0 ≤ m → (L.length : Int) ≤ m) → n ≤ j → j ≤ n + (a * b).toNat → Q (.new (.lst (L.map prD))) j)) := rfl
theorem u_is_list_0 {n : Nat} {Q : SV → Nat → Prop} {ds : List D} {r : Int} {c : Int} {d : D} : S_is_list n [.lst ds, .int r, .int c, d] Q = ((∃ ms, ds = ms.map prD ∧ StepsOk ms ∧ sizeB r ∧ sizeB c ∧ okL d = true ∧ Q (.dat (.bl (listB ms r c d))) n)) := rfl
theorem u__law_is_list_0 {n : Nat} {Q : SV → Nat → Prop} {ds : List D} {r : Int} {c : Int} {d : D} : S__law_is_list n [.lst ds, .int r, .int c, d] Q = ((∃ ms, ds = ms.map prD ∧ StepsOk ms ∧ okL d = true ∧ Q (.dat (.bl (listB ms r c d))) n)) := rfl
theorem u__law_odd_spot_0 {n : Nat} {Q : SV → Nat → Prop} {h : Int} {w : Int} : S__law_odd_spot n [.src, .int h, .int w] Q = ((0 ≤ h ∧ h ≤ 1000) ∧ (0 ≤ w ∧ w ≤ 1000) ∧ n + 2 ≤ 10 ^ 18 ∧ ∀ (d : D) (j : Nat), ItemOk d → n ≤ j → j ≤ n + 2 → Q (.dat d) j) := rfl
theorem u__law_bent_0 {n : Nat} {Q : SV → Nat → Prop} {ds : List D} {h : Int} {w : Int} : S__law_bent n [.src, .lst ds, .int h, .int w] Q = ((∃ L : List (Int × Int), ds = L.map prD ∧ L.length ≤ 400 ∧ (∀ p ∈ L, inB h w p.1 p.2)) ∧ (1 ≤ h ∧ h ≤ 1000) ∧ (1 ≤ w ∧ w ≤ 1000) ∧ n + 5 ≤ 10 ^ 18 ∧ ∀ (es : List D) (j : Nat), es.length ≤ ds.length + 1 → (∀ d ∈ es, ItemOk d) → n ≤ j → j ≤ n + 5 → Q (.new (.lst es)) j) := rfl
theorem u__law_told_right_0 {n : Nat} {Q : SV → Nat → Prop} {ds : List D} {r : Int} {c : Int} {d : D} : S__law_told_right n [.lst ds, .int r, .int c, d] Q = ((∃ ms, ds = ms.map prD ∧ StepsOk ms ∧ sizeB r ∧ sizeB c ∧ AnyOk d ∧ Q (.dat (.bl true)) n)) := rfl
theorem u__law_right_0 {n : Nat} {Q : SV → Nat → Prop} {m : Int} : S__law_right n [.src, .int m] Q = ((1 ≤ m ∧ m ≤ 60) ∧ n + 120 ≤ 10 ^ 18 ∧ ∀ j : Nat, n ≤ j → j ≤ n + 120 → Q (.dat (.bl true)) j) := rfl
theorem XU : (type_of% @okD_i) ∧ (type_of% @okE_p) ∧ (type_of% @intD_i) ∧ (type_of% @rngD_i) ∧ (type_of% @pairD_p) ∧ (type_of% @vecD_p) ∧ (type_of% @stepD_p) ∧ (type_of% @u_is_integer_0) ∧ (type_of% @u_is_integer_1) ∧ (type_of% @u_is_integer_2) ∧ (type_of% @u_is_pair_0) ∧ (type_of% @u__law_draw_0) ∧ (type_of% @u__law_source_0) ∧ (type_of% @u_need_size_0) ∧ (type_of% @u_need_box_0) ∧ (type_of% @u_in_box_0) ∧ (type_of% @u_taken_0) ∧ (type_of% @u__law_spots_0) ∧ (type_of% @u__law_move_0) ∧ (type_of% @u__law_moves_0) ∧ (type_of% @u__law_some_moves_0) ∧ (type_of% @u_steps_fault_0) ∧ (type_of% @u_need_steps_0) ∧ (type_of% @u_is_step_0) ∧ (type_of% @u_sources_of_0) ∧ (type_of% @u__law_behind_0) ∧ (type_of% @u__law_ahead_0) ∧ (type_of% @u_can_stand_0) ∧ (type_of% @u_list_fault_0) ∧ (type_of% @u__law_box_0) ∧ (type_of% @u__law_list_0) ∧ (type_of% @u_is_list_0) ∧ (type_of% @u__law_is_list_0) ∧ (type_of% @u__law_odd_spot_0) ∧ (type_of% @u__law_bent_0) ∧ (type_of% @u__law_told_right_0) ∧ (type_of% @u__law_right_0) := ⟨@okD_i, @okE_p, @intD_i, @rngD_i, @pairD_p, @vecD_p, @stepD_p, @u_is_integer_0, @u_is_integer_1, @u_is_integer_2, @u_is_pair_0, @u__law_draw_0, @u__law_source_0, @u_need_size_0, @u_need_box_0, @u_in_box_0, @u_taken_0, @u__law_spots_0, @u__law_move_0, @u__law_moves_0, @u__law_some_moves_0, @u_steps_fault_0, @u_need_steps_0, @u_is_step_0, @u_sources_of_0, @u__law_behind_0, @u__law_ahead_0, @u_can_stand_0, @u_list_fault_0, @u__law_box_0, @u__law_list_0, @u_is_list_0, @u__law_is_list_0, @u__law_odd_spot_0, @u__law_bent_0, @u__law_told_right_0, @u__law_right_0⟩

theorem L_is_integer : ∀ n ds Q, S_is_integer n ds Q → ds.length = ps_is_integer.length := by
  intro n ds Q h
  unfold S_is_integer at h
  split at h <;> first | exact h.elim | rfl
theorem l_is_integer : ∀ n ds Q, S_is_integer n ds Q → t_is_integer (defE Q) (startG n N_is_integer ds) := by
  intro n ds Q h
  unfold S_is_integer at h
  split at h
  · rename_i d
    show t_is_integer (defE Q) ⟨[some (.dat (d)), some (.dat (.non)), some (.dat (.non))], n⟩
    obtain ⟨ok, h⟩ := h
    cases d <;> first | exact absurd ok Bool.false_ne_true | (simp -implicitDefEqProofs only [t_is_integer, ↓XP, ↓x_ifs, ↓XU, XU, XQ, eq_self, List.reverse_cons, List.reverse_nil, Int.cast_ofNat_Int, List.length_cons, List.length_nil, List.nil_append, List.cons_append, ne_eq, Nat.reduceAdd, Nat.reduceLeDiff, Int.reduceEq, Int.reduceLT, Int.reduceLE, Int.reduceToNat, Int.reducePow, Int.reduceAdd, Int.reduceMul, Int.reduceSub, Int.reduceNeg, List.getElem?_cons_zero, List.getElem?_cons_succ, dd_is_integer]; exact h)
  · rename_i d lo hi
    show t_is_integer (defE Q) ⟨[some (.dat (d)), some (.dat (.int lo)), some (.dat (.int hi))], n⟩
    obtain ⟨ok, h⟩ := h
    cases d <;> first | exact absurd ok Bool.false_ne_true | (simp -implicitDefEqProofs only [t_is_integer, ↓XP, ↓x_ifs, ↓XU, XU, XQ, eq_self, List.reverse_cons, List.reverse_nil, Int.cast_ofNat_Int, List.length_cons, List.length_nil, List.nil_append, List.cons_append, ne_eq, Nat.reduceAdd, Nat.reduceLeDiff, Int.reduceEq, Int.reduceLT, Int.reduceLE, Int.reduceToNat, Int.reducePow, Int.reduceAdd, Int.reduceMul, Int.reduceSub, Int.reduceNeg, List.getElem?_cons_zero, List.getElem?_cons_succ, dd_is_integer]; exact h) | skip
    rename_i v
    rw [rngD_i] at h
    simp -implicitDefEqProofs only [t_is_integer, ↓XP, ↓x_ifs, ↓XU, XU, XQ, eq_self, List.reverse_cons, List.reverse_nil, Int.cast_ofNat_Int, List.length_cons, List.length_nil, List.nil_append, List.cons_append, ne_eq, Nat.reduceAdd, Nat.reduceLeDiff, Int.reduceEq, Int.reduceLT, Int.reduceLE, Int.reduceToNat, Int.reducePow, Int.reduceAdd, Int.reduceMul, Int.reduceSub, Int.reduceNeg, List.getElem?_cons_zero, List.getElem?_cons_succ, dd_is_integer]
    by_cases c : lo ≤ v
    · rw [decide_eq_true c] at h ⊢
      simp -implicitDefEqProofs only [t_is_integer, ↓XP, ↓x_ifs, ↓XU, XU, XQ, eq_self, List.reverse_cons, List.reverse_nil, Int.cast_ofNat_Int, List.length_cons, List.length_nil, List.nil_append, List.cons_append, ne_eq, Nat.reduceAdd, Nat.reduceLeDiff, Int.reduceEq, Int.reduceLT, Int.reduceLE, Int.reduceToNat, Int.reducePow, Int.reduceAdd, Int.reduceMul, Int.reduceSub, Int.reduceNeg, List.getElem?_cons_zero, List.getElem?_cons_succ, dd_is_integer]
      exact h
    · rw [decide_eq_false c] at h ⊢
      simp -implicitDefEqProofs only [t_is_integer, ↓XP, ↓x_ifs, ↓XU, XU, XQ, eq_self, List.reverse_cons, List.reverse_nil, Int.cast_ofNat_Int, List.length_cons, List.length_nil, List.nil_append, List.cons_append, ne_eq, Nat.reduceAdd, Nat.reduceLeDiff, Int.reduceEq, Int.reduceLT, Int.reduceLE, Int.reduceToNat, Int.reducePow, Int.reduceAdd, Int.reduceMul, Int.reduceSub, Int.reduceNeg, List.getElem?_cons_zero, List.getElem?_cons_succ, dd_is_integer]
      exact h
  · rename_i d lo
    show t_is_integer (defE Q) ⟨[some (.dat (d)), some (.dat (.int lo)), some (.dat (.non))], n⟩
    obtain ⟨ok, h⟩ := h
    cases d <;> first | exact absurd ok Bool.false_ne_true | (simp -implicitDefEqProofs only [t_is_integer, ↓XP, ↓x_ifs, ↓XU, XU, XQ, eq_self, List.reverse_cons, List.reverse_nil, Int.cast_ofNat_Int, List.length_cons, List.length_nil, List.nil_append, List.cons_append, ne_eq, Nat.reduceAdd, Nat.reduceLeDiff, Int.reduceEq, Int.reduceLT, Int.reduceLE, Int.reduceToNat, Int.reducePow, Int.reduceAdd, Int.reduceMul, Int.reduceSub, Int.reduceNeg, List.getElem?_cons_zero, List.getElem?_cons_succ, dd_is_integer]; exact h) | skip
    rename_i v
    simp -implicitDefEqProofs only [t_is_integer, ↓XP, ↓x_ifs, ↓XU, XU, XQ, eq_self, List.reverse_cons, List.reverse_nil, Int.cast_ofNat_Int, List.length_cons, List.length_nil, List.nil_append, List.cons_append, ne_eq, Nat.reduceAdd, Nat.reduceLeDiff, Int.reduceEq, Int.reduceLT, Int.reduceLE, Int.reduceToNat, Int.reducePow, Int.reduceAdd, Int.reduceMul, Int.reduceSub, Int.reduceNeg, List.getElem?_cons_zero, List.getElem?_cons_succ, dd_is_integer]
    by_cases c : lo ≤ v
    · simp -implicitDefEqProofs only [t_is_integer, ↓XP, ↓x_ifs, ↓XU, XU, XQ, eq_self, List.reverse_cons, List.reverse_nil, Int.cast_ofNat_Int, List.length_cons, List.length_nil, List.nil_append, List.cons_append, ne_eq, Nat.reduceAdd, Nat.reduceLeDiff, Int.reduceEq, Int.reduceLT, Int.reduceLE, Int.reduceToNat, Int.reducePow, Int.reduceAdd, Int.reduceMul, Int.reduceSub, Int.reduceNeg, List.getElem?_cons_zero, List.getElem?_cons_succ, dd_is_integer, c]
      simpa [intD, c] using h
    · simp -implicitDefEqProofs only [t_is_integer, ↓XP, ↓x_ifs, ↓XU, XU, XQ, eq_self, List.reverse_cons, List.reverse_nil, Int.cast_ofNat_Int, List.length_cons, List.length_nil, List.nil_append, List.cons_append, ne_eq, Nat.reduceAdd, Nat.reduceLeDiff, Int.reduceEq, Int.reduceLT, Int.reduceLE, Int.reduceToNat, Int.reducePow, Int.reduceAdd, Int.reduceMul, Int.reduceSub, Int.reduceNeg, List.getElem?_cons_zero, List.getElem?_cons_succ, dd_is_integer, c]
      simpa [intD, c] using h
  · exact h.elim
theorem pair_cases {d : D} (h : pairD d = true) : ∃ a b : Int, d = .tup [.int a, .int b] := by
  cases d <;> first | exact absurd h Bool.false_ne_true | skip
  rename_i ds
  simp only [pairD, Bool.and_eq_true, decide_eq_true_iff] at h
  obtain ⟨h1, h2⟩ := h
  match ds, h1, h2 with
  | [x, y], _, h2 =>
    simp only [List.all_cons, List.all_nil, Bool.and_true, Bool.and_eq_true] at h2
    cases x <;> first | exact absurd h2.1 Bool.false_ne_true | skip
    cases y <;> first | exact absurd h2.2 Bool.false_ne_true | skip
    exact ⟨_, _, rfl⟩
theorem L_is_pair : ∀ n ds Q, S_is_pair n ds Q → ds.length = ps_is_pair.length := by
  intro n ds Q h
  unfold S_is_pair at h
  split at h <;> first | exact h.elim | rfl
theorem l_is_pair : ∀ n ds Q, S_is_pair n ds Q → t_is_pair (defE Q) (startG n N_is_pair ds) := by
  intro n ds Q h
  unfold S_is_pair at h
  split at h
  · rename_i d
    show t_is_pair (defE Q) ⟨[some (.dat (d)), none], n⟩
    obtain ⟨ok, h⟩ := h
    cases d <;> first | exact absurd ok Bool.false_ne_true | (simp -implicitDefEqProofs only [t_is_pair, ↓XP, ↓x_ifs, ↓XU, XU, XQ, eq_self, List.reverse_cons, List.reverse_nil, Int.cast_ofNat_Int, List.length_cons, List.length_nil, List.nil_append, List.cons_append, ne_eq, Nat.reduceAdd, Nat.reduceLeDiff, Int.reduceEq, Int.reduceLT, Int.reduceLE, Int.reduceToNat, Int.reducePow, Int.reduceAdd, Int.reduceMul, Int.reduceSub, Int.reduceNeg, List.getElem?_cons_zero, List.getElem?_cons_succ, dd_is_integer]; exact h) | skip
    rename_i ds
    by_cases c : ds.length = 2
    · obtain ⟨x, y, rfl⟩ : ∃ x y, ds = [x, y] := by
        match ds, c with
        | [x, y], _ => exact ⟨x, y, rfl⟩
      simp only [okE, List.all_cons, List.all_nil, Bool.and_true, Bool.and_eq_true] at ok
      obtain ⟨hx, hy⟩ := ok
      rw [show pairD (.tup [x, y]) = (intD x && intD y) by simp [pairD]] at h
      simp -implicitDefEqProofs only [t_is_pair, ↓XP, ↓x_ifs, ↓XU, XU, XQ, eq_self, List.reverse_cons, List.reverse_nil, Int.cast_ofNat_Int, List.length_cons, List.length_nil, List.nil_append, List.cons_append, ne_eq, Nat.reduceAdd, Nat.reduceLeDiff, Int.reduceEq, Int.reduceLT, Int.reduceLE, Int.reduceToNat, Int.reducePow, Int.reduceAdd, Int.reduceMul, Int.reduceSub, Int.reduceNeg, List.getElem?_cons_zero, List.getElem?_cons_succ, dd_is_integer, hx, hy]
      exact h
    · have c2 : ¬ ((ds.length : Int) = 2) := by omega
      rw [show pairD (.tup ds) = false by simp [pairD, c]] at h
      simp -implicitDefEqProofs only [t_is_pair, ↓XP, ↓x_ifs, ↓XU, XU, XQ, eq_self, List.reverse_cons, List.reverse_nil, Int.cast_ofNat_Int, List.length_cons, List.length_nil, List.nil_append, List.cons_append, ne_eq, Nat.reduceAdd, Nat.reduceLeDiff, Int.reduceEq, Int.reduceLT, Int.reduceLE, Int.reduceToNat, Int.reducePow, Int.reduceAdd, Int.reduceMul, Int.reduceSub, Int.reduceNeg, List.getElem?_cons_zero, List.getElem?_cons_succ, dd_is_integer, c2]
      exact h
  · exact h.elim
theorem L_need_size : ∀ n ds Q, S_need_size n ds Q → ds.length = ps_need_size.length := by
  intro n ds Q h
  unfold S_need_size at h
  split at h <;> first | exact h.elim | rfl
theorem l_need_size : ∀ n ds Q, S_need_size n ds Q → t_need_size (defE Q) (startG n N_need_size ds) := by
  intro n ds Q h
  unfold S_need_size at h
  split at h
  · rename_i a
    show t_need_size (defE Q) ⟨[some (.dat (.int a))], n⟩
    obtain ⟨⟨z1, z2⟩, h⟩ := h
    simp -implicitDefEqProofs only [t_need_size, ↓XP, ↓x_ifs, ↓XU, XU, XQ, eq_self, List.reverse_cons, List.reverse_nil, Int.cast_ofNat_Int, List.length_cons, List.length_nil, List.nil_append, List.cons_append, ne_eq, Nat.reduceAdd, Nat.reduceLeDiff, Int.reduceEq, Int.reduceLT, Int.reduceLE, Int.reduceToNat, Int.reducePow, Int.reduceAdd, Int.reduceMul, Int.reduceSub, Int.reduceNeg, List.getElem?_cons_zero, List.getElem?_cons_succ, dd_is_integer]
    rw [decide_eq_true z1, decide_eq_true z2]
    simp -implicitDefEqProofs only [t_need_size, ↓XP, ↓x_ifs, ↓XU, XU, XQ, eq_self, List.reverse_cons, List.reverse_nil, Int.cast_ofNat_Int, List.length_cons, List.length_nil, List.nil_append, List.cons_append, ne_eq, Nat.reduceAdd, Nat.reduceLeDiff, Int.reduceEq, Int.reduceLT, Int.reduceLE, Int.reduceToNat, Int.reducePow, Int.reduceAdd, Int.reduceMul, Int.reduceSub, Int.reduceNeg, List.getElem?_cons_zero, List.getElem?_cons_succ, dd_is_integer]
    exact h
  · exact h.elim
theorem L_need_box : ∀ n ds Q, S_need_box n ds Q → ds.length = ps_need_box.length := by
  intro n ds Q h
  unfold S_need_box at h
  split at h <;> first | exact h.elim | rfl
theorem l_need_box : ∀ n ds Q, S_need_box n ds Q → t_need_box (defE Q) (startG n N_need_box ds) := by
  intro n ds Q h
  unfold S_need_box at h
  split at h
  · rename_i a b
    show t_need_box (defE Q) ⟨[some (.dat (.int a)), some (.dat (.int b))], n⟩
    obtain ⟨z1, z2, h⟩ := h
    simp -implicitDefEqProofs only [t_need_box, ↓XP, ↓x_ifs, ↓XU, XU, XQ, eq_self, List.reverse_cons, List.reverse_nil, Int.cast_ofNat_Int, List.length_cons, List.length_nil, List.nil_append, List.cons_append, ne_eq, Nat.reduceAdd, Nat.reduceLeDiff, Int.reduceEq, Int.reduceLT, Int.reduceLE, Int.reduceToNat, Int.reducePow, Int.reduceAdd, Int.reduceMul, Int.reduceSub, Int.reduceNeg, List.getElem?_cons_zero, List.getElem?_cons_succ, dd_is_integer]
    exact ⟨z1, z2, h⟩
  · exact h.elim
theorem L_in_box : ∀ n ds Q, S_in_box n ds Q → ds.length = ps_in_box.length := by
  intro n ds Q h
  unfold S_in_box at h
  split at h <;> first | exact h.elim | rfl
theorem l_in_box : ∀ n ds Q, S_in_box n ds Q → t_in_box (defE Q) (startG n N_in_box ds) := by
  intro n ds Q h
  unfold S_in_box at h
  split at h
  · rename_i r c x y
    show t_in_box (defE Q) ⟨[some (.dat (.int r)), some (.dat (.int c)), some (.dat (.tup [.int x, .int y]))], n⟩
    simp -implicitDefEqProofs only [t_in_box, ↓XP, ↓x_ifs, ↓XU, XU, XQ, eq_self, List.reverse_cons, List.reverse_nil, Int.cast_ofNat_Int, List.length_cons, List.length_nil, List.nil_append, List.cons_append, ne_eq, Nat.reduceAdd, Nat.reduceLeDiff, Int.reduceEq, Int.reduceLT, Int.reduceLE, Int.reduceToNat, Int.reducePow, Int.reduceAdd, Int.reduceMul, Int.reduceSub, Int.reduceNeg, List.getElem?_cons_zero, List.getElem?_cons_succ, dd_is_integer]
    by_cases h1 : 0 ≤ x
    · rw [decide_eq_true h1] at h ⊢
      simp -implicitDefEqProofs only [t_in_box, ↓XP, ↓x_ifs, ↓XU, XU, XQ, eq_self, List.reverse_cons, List.reverse_nil, Int.cast_ofNat_Int, List.length_cons, List.length_nil, List.nil_append, List.cons_append, ne_eq, Nat.reduceAdd, Nat.reduceLeDiff, Int.reduceEq, Int.reduceLT, Int.reduceLE, Int.reduceToNat, Int.reducePow, Int.reduceAdd, Int.reduceMul, Int.reduceSub, Int.reduceNeg, List.getElem?_cons_zero, List.getElem?_cons_succ, dd_is_integer] at h
      simp -implicitDefEqProofs only [t_in_box, ↓XP, ↓x_ifs, ↓XU, XU, XQ, eq_self, List.reverse_cons, List.reverse_nil, Int.cast_ofNat_Int, List.length_cons, List.length_nil, List.nil_append, List.cons_append, ne_eq, Nat.reduceAdd, Nat.reduceLeDiff, Int.reduceEq, Int.reduceLT, Int.reduceLE, Int.reduceToNat, Int.reducePow, Int.reduceAdd, Int.reduceMul, Int.reduceSub, Int.reduceNeg, List.getElem?_cons_zero, List.getElem?_cons_succ, dd_is_integer]
      by_cases h2 : x < r
      · rw [decide_eq_true h2] at h ⊢
        simp -implicitDefEqProofs only [t_in_box, ↓XP, ↓x_ifs, ↓XU, XU, XQ, eq_self, List.reverse_cons, List.reverse_nil, Int.cast_ofNat_Int, List.length_cons, List.length_nil, List.nil_append, List.cons_append, ne_eq, Nat.reduceAdd, Nat.reduceLeDiff, Int.reduceEq, Int.reduceLT, Int.reduceLE, Int.reduceToNat, Int.reducePow, Int.reduceAdd, Int.reduceMul, Int.reduceSub, Int.reduceNeg, List.getElem?_cons_zero, List.getElem?_cons_succ, dd_is_integer] at h
        simp -implicitDefEqProofs only [t_in_box, ↓XP, ↓x_ifs, ↓XU, XU, XQ, eq_self, List.reverse_cons, List.reverse_nil, Int.cast_ofNat_Int, List.length_cons, List.length_nil, List.nil_append, List.cons_append, ne_eq, Nat.reduceAdd, Nat.reduceLeDiff, Int.reduceEq, Int.reduceLT, Int.reduceLE, Int.reduceToNat, Int.reducePow, Int.reduceAdd, Int.reduceMul, Int.reduceSub, Int.reduceNeg, List.getElem?_cons_zero, List.getElem?_cons_succ, dd_is_integer]
        by_cases h3 : 0 ≤ y
        · rw [decide_eq_true h3] at h ⊢
          simp -implicitDefEqProofs only [t_in_box, ↓XP, ↓x_ifs, ↓XU, XU, XQ, eq_self, List.reverse_cons, List.reverse_nil, Int.cast_ofNat_Int, List.length_cons, List.length_nil, List.nil_append, List.cons_append, ne_eq, Nat.reduceAdd, Nat.reduceLeDiff, Int.reduceEq, Int.reduceLT, Int.reduceLE, Int.reduceToNat, Int.reducePow, Int.reduceAdd, Int.reduceMul, Int.reduceSub, Int.reduceNeg, List.getElem?_cons_zero, List.getElem?_cons_succ, dd_is_integer] at h
          simp -implicitDefEqProofs only [t_in_box, ↓XP, ↓x_ifs, ↓XU, XU, XQ, eq_self, List.reverse_cons, List.reverse_nil, Int.cast_ofNat_Int, List.length_cons, List.length_nil, List.nil_append, List.cons_append, ne_eq, Nat.reduceAdd, Nat.reduceLeDiff, Int.reduceEq, Int.reduceLT, Int.reduceLE, Int.reduceToNat, Int.reducePow, Int.reduceAdd, Int.reduceMul, Int.reduceSub, Int.reduceNeg, List.getElem?_cons_zero, List.getElem?_cons_succ, dd_is_integer]
          exact h
        · rw [decide_eq_false h3] at h ⊢
          simp -implicitDefEqProofs only [t_in_box, ↓XP, ↓x_ifs, ↓XU, XU, XQ, eq_self, List.reverse_cons, List.reverse_nil, Int.cast_ofNat_Int, List.length_cons, List.length_nil, List.nil_append, List.cons_append, ne_eq, Nat.reduceAdd, Nat.reduceLeDiff, Int.reduceEq, Int.reduceLT, Int.reduceLE, Int.reduceToNat, Int.reducePow, Int.reduceAdd, Int.reduceMul, Int.reduceSub, Int.reduceNeg, List.getElem?_cons_zero, List.getElem?_cons_succ, dd_is_integer] at h
          simp -implicitDefEqProofs only [t_in_box, ↓XP, ↓x_ifs, ↓XU, XU, XQ, eq_self, List.reverse_cons, List.reverse_nil, Int.cast_ofNat_Int, List.length_cons, List.length_nil, List.nil_append, List.cons_append, ne_eq, Nat.reduceAdd, Nat.reduceLeDiff, Int.reduceEq, Int.reduceLT, Int.reduceLE, Int.reduceToNat, Int.reducePow, Int.reduceAdd, Int.reduceMul, Int.reduceSub, Int.reduceNeg, List.getElem?_cons_zero, List.getElem?_cons_succ, dd_is_integer]
          exact h
      · rw [decide_eq_false h2] at h ⊢
        simp -implicitDefEqProofs only [t_in_box, ↓XP, ↓x_ifs, ↓XU, XU, XQ, eq_self, List.reverse_cons, List.reverse_nil, Int.cast_ofNat_Int, List.length_cons, List.length_nil, List.nil_append, List.cons_append, ne_eq, Nat.reduceAdd, Nat.reduceLeDiff, Int.reduceEq, Int.reduceLT, Int.reduceLE, Int.reduceToNat, Int.reducePow, Int.reduceAdd, Int.reduceMul, Int.reduceSub, Int.reduceNeg, List.getElem?_cons_zero, List.getElem?_cons_succ, dd_is_integer] at h
        simp -implicitDefEqProofs only [t_in_box, ↓XP, ↓x_ifs, ↓XU, XU, XQ, eq_self, List.reverse_cons, List.reverse_nil, Int.cast_ofNat_Int, List.length_cons, List.length_nil, List.nil_append, List.cons_append, ne_eq, Nat.reduceAdd, Nat.reduceLeDiff, Int.reduceEq, Int.reduceLT, Int.reduceLE, Int.reduceToNat, Int.reducePow, Int.reduceAdd, Int.reduceMul, Int.reduceSub, Int.reduceNeg, List.getElem?_cons_zero, List.getElem?_cons_succ, dd_is_integer]
        exact h
    · rw [decide_eq_false h1] at h ⊢
      simp -implicitDefEqProofs only [t_in_box, ↓XP, ↓x_ifs, ↓XU, XU, XQ, eq_self, List.reverse_cons, List.reverse_nil, Int.cast_ofNat_Int, List.length_cons, List.length_nil, List.nil_append, List.cons_append, ne_eq, Nat.reduceAdd, Nat.reduceLeDiff, Int.reduceEq, Int.reduceLT, Int.reduceLE, Int.reduceToNat, Int.reducePow, Int.reduceAdd, Int.reduceMul, Int.reduceSub, Int.reduceNeg, List.getElem?_cons_zero, List.getElem?_cons_succ, dd_is_integer] at h
      simp -implicitDefEqProofs only [t_in_box, ↓XP, ↓x_ifs, ↓XU, XU, XQ, eq_self, List.reverse_cons, List.reverse_nil, Int.cast_ofNat_Int, List.length_cons, List.length_nil, List.nil_append, List.cons_append, ne_eq, Nat.reduceAdd, Nat.reduceLeDiff, Int.reduceEq, Int.reduceLT, Int.reduceLE, Int.reduceToNat, Int.reducePow, Int.reduceAdd, Int.reduceMul, Int.reduceSub, Int.reduceNeg, List.getElem?_cons_zero, List.getElem?_cons_succ, dd_is_integer]
      exact h
  · exact h.elim
theorem L_taken : ∀ n ds Q, S_taken n ds Q → ds.length = ps_taken.length := by
  intro n ds Q h
  unfold S_taken at h
  split at h <;> first | exact h.elim | rfl
theorem l_taken : ∀ n ds Q, S_taken n ds Q → t_taken (defE Q) (startG n N_taken ds) := by
  intro n ds Q h
  unfold S_taken at h
  split at h
  · rename_i a b c d
    show t_taken (defE Q) ⟨[some (.dat (.tup [.int a, .int b])), some (.dat (.tup [.int c, .int d]))], n⟩
    simp -implicitDefEqProofs only [t_taken, ↓XP, ↓x_ifs, ↓XU, XU, XQ, eq_self, List.reverse_cons, List.reverse_nil, Int.cast_ofNat_Int, List.length_cons, List.length_nil, List.nil_append, List.cons_append, ne_eq, Nat.reduceAdd, Nat.reduceLeDiff, Int.reduceEq, Int.reduceLT, Int.reduceLE, Int.reduceToNat, Int.reducePow, Int.reduceAdd, Int.reduceMul, Int.reduceSub, Int.reduceNeg, List.getElem?_cons_zero, List.getElem?_cons_succ, dd_is_integer]
    exact h
  · exact h.elim
theorem ib_le {x : Int} {k : Nat} (h : x.natAbs < 2 ^ k) (hk : 0 < k) : Builtin.Int.intBits x ≤ k := by
  unfold Builtin.Int.intBits
  split
  · omega
  · have := log2_lt h hk; omega
theorem pw3 {x : Int} (h : x.natAbs < 10 ^ 300) : (Builtin.Int.intBits x : Int) * 3 ≤ 134217728 := by
  have := ib_le (k := 1000) (Nat.lt_of_lt_of_le h (by decide +kernel)) (by decide)
  omega
theorem pw10 {k : Nat} (h : k ≤ 1000) : (Builtin.Int.intBits 10 : Int) * (k : Int) ≤ 134217728 := by
  have e : Builtin.Int.intBits 10 = 4 := by decide +kernel
  rw [e]; omega
theorem fm_lt {x m : Int} (h : 0 < m) : 0 ≤ x.fmod m ∧ x.fmod m < m := ⟨Int.fmod_nonneg_of_pos x h, Int.fmod_lt_of_pos x h⟩
theorem L__law_draw : ∀ n ds Q, S__law_draw n ds Q → ds.length = ps__law_draw.length := by
  intro n ds Q h
  unfold S__law_draw at h
  split at h <;> first | exact h.elim | rfl
theorem l__law_draw : ∀ n ds Q, S__law_draw n ds Q → t__law_draw (defE Q) (startG n N__law_draw ds) := by
  intro n ds Q h
  unfold S__law_draw at h
  split at h
  · rename_i m
    show t__law_draw (defE Q) ⟨[some (.dat (.src)), some (.dat (.int m)), none, none], n⟩
    obtain ⟨h1, h2, h3, h⟩ := h
    simp -implicitDefEqProofs only [t__law_draw, ↓XP, ↓x_ifs, ↓XU, XU, XQ, eq_self, List.reverse_cons, List.reverse_nil, Int.cast_ofNat_Int, List.length_cons, List.length_nil, List.nil_append, List.cons_append, ne_eq, Nat.reduceAdd, Nat.reduceLeDiff, Int.reduceEq, Int.reduceLT, Int.reduceLE, Int.reduceToNat, Int.reducePow, Int.reduceAdd, Int.reduceMul, Int.reduceSub, Int.reduceNeg, List.getElem?_cons_zero, List.getElem?_cons_succ, dd_is_integer]
    intro v
    have fin : ∀ (x : Int) (j : Nat), n ≤ j → j ≤ n + 1 → Q (.dat (.int (x.fmod m))) j := fun x j => h _ j (fm_lt (by omega)).1 (fm_lt (by omega)).2
    by_cases c : 0 < v
    · rw [decide_eq_true c]
      simp -implicitDefEqProofs only [t__law_draw, ↓XP, ↓x_ifs, ↓XU, XU, XQ, eq_self, List.reverse_cons, List.reverse_nil, Int.cast_ofNat_Int, List.length_cons, List.length_nil, List.nil_append, List.cons_append, ne_eq, Nat.reduceAdd, Nat.reduceLeDiff, Int.reduceEq, Int.reduceLT, Int.reduceLE, Int.reduceToNat, Int.reducePow, Int.reduceAdd, Int.reduceMul, Int.reduceSub, Int.reduceNeg, List.getElem?_cons_zero, List.getElem?_cons_succ, dd_is_integer]
      intro w
      exact ⟨by omega, fun u => ⟨by omega, lg h2, fin _ _ (Nat.le_refl _) (Nat.le_succ _)⟩⟩
    · rw [decide_eq_false c]
      simp -implicitDefEqProofs only [t__law_draw, ↓XP, ↓x_ifs, ↓XU, XU, XQ, eq_self, List.reverse_cons, List.reverse_nil, Int.cast_ofNat_Int, List.length_cons, List.length_nil, List.nil_append, List.cons_append, ne_eq, Nat.reduceAdd, Nat.reduceLeDiff, Int.reduceEq, Int.reduceLT, Int.reduceLE, Int.reduceToNat, Int.reducePow, Int.reduceAdd, Int.reduceMul, Int.reduceSub, Int.reduceNeg, List.getElem?_cons_zero, List.getElem?_cons_succ, dd_is_integer]
      intro w w1 w2
      refine ⟨by omega, by omega, fun y y1 y2 z z1 z2 => ⟨cm (by decide +kernel) (by omega), pw3 (by omega), pw10 (k := 37) (by decide), fun u u1 u2 => ?_⟩⟩
      have f1 := fm_lt (x := (y + 900007 * z) ^ 3) (m := 10000000000000000000000000000000000043) (by decide)
      generalize ((y + 900007 * z) ^ 3).fmod 10000000000000000000000000000000000043 = g at f1 ⊢
      have f2 : 0 ≤ g * u ∧ g * u ≤ 10000000000000000000000000000000000043 * 10 ^ 19 := ⟨Int.mul_nonneg f1.1 u1, Int.mul_le_mul (by omega) (by omega) u1 (by decide)⟩
      refine ⟨cm (by omega) (by omega), pw3 (by omega), pw10 (k := 39) (by decide), lg (by decide +kernel), by omega, ?_⟩
      exact fin _ _ (Nat.le_succ _) (Nat.le_refl _)
  · exact h.elim
theorem L__law_source : ∀ n ds Q, S__law_source n ds Q → ds.length = ps__law_source.length := by
  intro n ds Q h
  unfold S__law_source at h
  split at h <;> first | exact h.elim | rfl
theorem l__law_source : ∀ n ds Q, S__law_source n ds Q → t__law_source (defE Q) (startG n N__law_source ds) := by
  intro n ds Q h
  unfold S__law_source at h
  split at h
  · rename_i a k
    show t__law_source (defE Q) ⟨[some (.dat (.int a)), some (.dat (.int k)), none], n⟩
    obtain ⟨h1, h2, h⟩ := h
    simp -implicitDefEqProofs only [t__law_source, ↓XP, ↓x_ifs, ↓XU, XU, XQ, eq_self, List.reverse_cons, List.reverse_nil, Int.cast_ofNat_Int, List.length_cons, List.length_nil, List.nil_append, List.cons_append, ne_eq, Nat.reduceAdd, Nat.reduceLeDiff, Int.reduceEq, Int.reduceLT, Int.reduceLE, Int.reduceToNat, Int.reducePow, Int.reduceAdd, Int.reduceMul, Int.reduceSub, Int.reduceNeg, List.getElem?_cons_zero, List.getElem?_cons_succ, dd_is_integer]
    have f := fm_lt (x := absI a) (m := 100000000000000000000000000000000000000081) (by decide)
    generalize absI a = g at f ⊢
    refine ⟨pw10 (k := 18) (by decide), pw10 (k := 41) (by decide), cm (by omega) (by decide), cm (by decide) (by omega), s_k ⟨?_, ?_, h⟩⟩
    · split <;> omega
    · split <;> omega
  · exact h.elim
theorem L__law_spots : ∀ n ds Q, S__law_spots n ds Q → ds.length = ps__law_spots.length := by
  intro n ds Q h
  unfold S__law_spots at h
  split at h <;> first | exact h.elim | rfl
theorem l__law_spots : ∀ n ds Q, S__law_spots n ds Q → t__law_spots (defE Q) (startG n N__law_spots ds) := by
  intro n ds Q h
  unfold S__law_spots at h
  split at h
  · rename_i a w
    show t__law_spots (defE Q) ⟨[some (.dat (.int a)), some (.dat (.int w)), none], n⟩
    obtain ⟨a1, w1, a2, w2, aw, h⟩ := h
    have aw0 : 0 ≤ a * w := Int.mul_nonneg a1 (by omega)
    simp -implicitDefEqProofs only [t__law_spots, ↓XP, ↓x_ifs, ↓XU, XU, XQ, eq_self, List.reverse_cons, List.reverse_nil, Int.cast_ofNat_Int, List.length_cons, List.length_nil, List.nil_append, List.cons_append, ne_eq, Nat.reduceAdd, Nat.reduceLeDiff, Int.reduceEq, Int.reduceLT, Int.reduceLE, Int.reduceToNat, Int.reducePow, Int.reduceAdd, Int.reduceMul, Int.reduceSub, Int.reduceNeg, List.getElem?_cons_zero, List.getElem?_cons_succ, dd_is_integer]
    refine ⟨cm (by omega) (by omega), by omega, ?_⟩
    refine ⟨by rw [rangeD_len]; exact Nat.le_trans (m := 10000) (by omega) (by decide), ?_⟩
    refine lc_all (f := spotD w) (fun d hd k k' q => ?_) h
    obtain ⟨y, rfl, y1, y2⟩ := rangeD_mem hd
    simp -implicitDefEqProofs only [t__law_spots, ↓XP, ↓x_ifs, ↓XU, XU, XQ, eq_self, List.reverse_cons, List.reverse_nil, Int.cast_ofNat_Int, List.length_cons, List.length_nil, List.nil_append, List.cons_append, ne_eq, Nat.reduceAdd, Nat.reduceLeDiff, Int.reduceEq, Int.reduceLT, Int.reduceLE, Int.reduceToNat, Int.reducePow, Int.reduceAdd, Int.reduceMul, Int.reduceSub, Int.reduceNeg, List.getElem?_cons_zero, List.getElem?_cons_succ, dd_is_integer]
    exact ⟨by omega, lg (by omega), by omega, q⟩
  · exact h.elim
theorem spot_in {r w s : Int} (hw : 1 ≤ w) (h0 : 0 ≤ s) (h1 : s < r * w) : inB r w (s.fdiv w) (s.fmod w) := by
  rw [Int.fdiv_eq_ediv_of_nonneg _ (by omega), Int.fmod_eq_emod_of_nonneg _ (by omega)]
  exact ⟨Int.ediv_nonneg h0 (by omega), Int.ediv_lt_of_lt_mul (by omega) h1, Int.emod_nonneg s (b := w) (by omega), Int.emod_lt_of_pos s (b := w) (by omega)⟩
theorem dm {k c : Int} (hc : 1 ≤ c) (hk : 0 ≤ k) : k / c * c + k % c = k ∧ 0 ≤ k / c ∧ 0 ≤ k % c ∧ k % c < c := by
  have e := Int.mul_ediv_add_emod k c
  rw [Int.mul_comm] at e
  exact ⟨e, Int.ediv_nonneg hk (by omega), Int.emod_nonneg _ (by omega), Int.emod_lt_of_pos _ (by omega)⟩
theorem prLt_ne {p q : Int × Int} (h : prLt p q) : p ≠ q := fun e => by subst e; unfold prLt at h; omega
theorem fdm {s w : Int} (hw : 1 ≤ w) (hs : 0 ≤ s) : s.fdiv w * w + s.fmod w = s ∧ 0 ≤ s.fdiv w ∧ 0 ≤ s.fmod w ∧ s.fmod w < w := by
  rw [Int.fdiv_eq_ediv_of_nonneg _ (by omega), Int.fmod_eq_emod_of_nonneg _ (by omega)]
  exact dm hw hs
theorem spot_lt {w s t : Int} (hw : 1 ≤ w) (hs : 0 ≤ s) (h : s < t) : prLt (spotP w s) (spotP w t) := by
  obtain ⟨a1, a2, a3, a4⟩ := fdm hw hs
  obtain ⟨b1, b2, b3, b4⟩ := fdm hw (show 0 ≤ t by omega)
  show s.fdiv w < t.fdiv w ∨ (s.fdiv w = t.fdiv w ∧ s.fmod w < t.fmod w)
  by_cases c : s.fdiv w < t.fdiv w
  · exact .inl c
  · by_cases d : s.fdiv w = t.fdiv w
    · rw [d] at a1; exact .inr ⟨d, by omega⟩
    · have := Int.mul_le_mul_of_nonneg_right (show t.fdiv w + 1 ≤ s.fdiv w by omega) (show 0 ≤ w by omega)
      rw [Int.add_mul] at this
      omega
theorem spots_asc {g w : Int} (hw : 1 ≤ w) : (spotsL g w).Pairwise prLt := by
  unfold spotsL
  rw [List.pairwise_map]
  exact List.pairwise_lt_range.imp fun h => spot_lt hw (by omega) (by omega)
theorem spots_in {g w : Int} (hw : 1 ≤ w) {q : Int × Int} : q ∈ spotsL g w ↔ inB g w q.1 q.2 := by
  constructor
  · intro h
    obtain ⟨s, hs, rfl⟩ := List.mem_map.mp h
    have := List.mem_range.mp hs
    exact spot_in hw (by omega) (by omega)
  · rintro ⟨h1, h2, h3, h4⟩
    have xc : 0 ≤ q.1 * w := Int.mul_nonneg h1 (by omega)
    have xr : (q.1 + 1) * w ≤ g * w := Int.mul_le_mul_of_nonneg_right (by omega) (by omega)
    rw [Int.add_mul, Int.one_mul] at xr
    refine List.mem_map.mpr ⟨(q.1 * w + q.2).toNat, List.mem_range.mpr (by omega), ?_⟩
    show (_, _) = q
    rw [show (((q.1 * w + q.2).toNat : Nat) : Int) = q.1 * w + q.2 by omega]
    rw [Int.fdiv_eq_ediv_of_nonneg _ (by omega), Int.fmod_eq_emod_of_nonneg _ (by omega), Int.add_comm, Int.add_mul_ediv_right _ _ (by omega), Int.ediv_eq_zero_of_lt h3 h4, Int.zero_add, Int.add_mul_emod_self_right, Int.emod_eq_of_lt h3 h4]
theorem sorted_eq {as bs : List (Int × Int)} (h : as.Perm bs) (ha : as.Pairwise fun a b => a.1 < b.1 ∨ (a.1 = b.1 ∧ a.2 ≤ b.2)) (hb : bs.Pairwise prLt) : as = bs := by
  refine List.Perm.eq_of_pairwise (le := fun a b => a.1 < b.1 ∨ (a.1 = b.1 ∧ a.2 ≤ b.2)) (fun a b _ _ h1 h2 => ?_) ha (hb.imp fun h => ?_) h
  · exact Prod.ext (by omega) (by omega)
  · rcases h with h | h
    · exact .inl h
    · exact .inr ⟨h.1, by omega⟩
theorem rangeD_eq : ∀ (n : Nat) (lo : Int), rangeD lo n = (List.range n).map fun t : Nat => D.int (lo + t)
  | 0, _ => rfl
  | n + 1, lo => by
    rw [rangeD, rangeD_eq n (lo + 1), List.range_succ_eq_map, List.map_cons, List.map_map]
    congr 1
    · simp
    · refine List.map_congr_left fun t _ => ?_
      show D.int (lo + 1 + t) = D.int (lo + ((t + 1 : Nat) : Int))
      rw [Int.natCast_add]; congr 1; omega
theorem spots_eq {g w : Int} : spotsD g w = (spotsL g w).map prD := by
  unfold spotsD spotsL
  rw [rangeD_eq, List.map_map, List.map_map]
  refine List.map_congr_left fun t _ => ?_
  show spotD w (D.int (0 + (t : Int))) = _
  rw [Int.zero_add]; rfl
theorem so_prs {ps : List (Int × Int)} {q : SV → Prop} (h : ∀ qs : List (Int × Int), qs.Perm ps → qs.Pairwise prLe → q (.new (.lst (qs.map prD)))) : dSorted (.lst (ps.map prD)) q := by
  show (match prsOf (ps.map prD) with
    | some ps => ∀ qs : List (Int × Int), qs.Perm ps → qs.Pairwise prLe → q (.new (.lst (qs.map prD)))
    | none => match intsOf (ps.map prD) with
      | some ns => ∀ ms : List Int, ms.Perm ns → ms.Pairwise (· ≤ ·) → q (.new (.lst (ms.map D.int)))
      | none => False)
  rw [prsOf_map]; exact h
theorem stepTo_ok {f : Int} {p : Int × Int} (h : stepTo f p) (hf : f ≤ 6) : stepOk p := by
  unfold stepTo at h; unfold stepOk; omega
theorem eqD_prD {p q : Int × Int} : eqD (prD p) (prD q) = decide (p = q) := by
  obtain ⟨a, b⟩ := p
  obtain ⟨c, d⟩ := q
  unfold eqD prD
  simp only [toPy, toPys, PyData.eqv, PyData.eqvAll, Bool.and_true]
  rw [Bool.eq_iff_iff]; simp
theorem any_prD {ps : List (Int × Int)} {q : Int × Int} : ((ps.map prD).any fun z => eqD z (prD q)) = decide (q ∈ ps) := by
  rw [Bool.eq_iff_iff, decide_eq_true_iff, List.any_eq_true]
  constructor
  · rintro ⟨d, hd, h⟩
    obtain ⟨p, hp, rfl⟩ := List.mem_map.mp hd
    rw [eqD_prD, decide_eq_true_iff] at h
    subst h; exact hp
  · intro h
    exact ⟨prD q, List.mem_map.mpr ⟨q, h, rfl⟩, by rw [eqD_prD]; simp⟩
theorem pl_prD {n : Nat} {p : Int × Int} : Pl (n + 1) (prD p) := by
  intro e he
  simp only [List.mem_cons, List.not_mem_nil, or_false] at he
  rcases he with rfl | rfl <;> (cases n <;> trivial)
theorem pl_prs2 {n : Nat} {ps : List (Int × Int)} : Pl (n + 2) (.lst (ps.map prD)) := by
  intro d hd
  obtain ⟨p, _, rfl⟩ := List.mem_map.mp hd
  exact pl_prD
/-- in, not in -/
theorem in_prs {ps : List (Int × Int)} {a b : Int} {q : SV → Prop} (h : q (.dat (.bl (decide ((a, b) ∈ ps))))) : dIn (.tup [.int a, .int b]) (.lst (ps.map prD)) q := by
  refine ⟨pl_prD (p := (a, b)), pl_prs2, ?_⟩
  rw [show (List.map prD ps).any (fun z => eqD z (.tup [.int a, .int b])) = decide ((a, b) ∈ ps) from any_prD (q := (a, b))]
  exact h
theorem nin_prs {ps : List (Int × Int)} {a b : Int} {q : SV → Prop} (h : q (.dat (.bl (!decide ((a, b) ∈ ps))))) : dNotIn (.tup [.int a, .int b]) (.lst (ps.map prD)) q := by
  refine ⟨pl_prD (p := (a, b)), pl_prs2, ?_⟩
  rw [show (List.map prD ps).any (fun z => eqD z (.tup [.int a, .int b])) = decide ((a, b) ∈ ps) from any_prD (q := (a, b))]
  exact h
theorem sc_ok {a b x y : Int} (a1 : 1 ≤ a) (a2 : a ≤ 3) (b1 : 1 ≤ b) (b2 : b ≤ 3) (h : 0 ≤ x ∧ x ≤ 2 ∧ -2 ≤ y ∧ y ≤ 2 ∧ (x = 0 → 1 ≤ y)) : stepOk (a * x, b * y) := by
  unfold stepOk
  have ha : a = 1 ∨ a = 2 ∨ a = 3 := by omega
  have hb : b = 1 ∨ b = 2 ∨ b = 3 := by omega
  rcases ha with rfl | rfl | rfl <;> rcases hb with rfl | rfl | rfl <;> simp only <;> omega
theorem L__law_move : ∀ n ds Q, S__law_move n ds Q → ds.length = ps__law_move.length := by
  intro n ds Q h
  unfold S__law_move at h
  split at h <;> first | exact h.elim | rfl
theorem l__law_move : ∀ n ds Q, S__law_move n ds Q → t__law_move (defE Q) (startG n N__law_move ds) := by
  intro n ds Q h
  unfold S__law_move at h
  split at h
  · rename_i f
    show t__law_move (defE Q) ⟨[some (.dat (.src)), some (.dat (.int f)), none], n⟩
    obtain ⟨f1, f2, h1, h⟩ := h
    simp -implicitDefEqProofs only [t__law_move, ↓XP, ↓x_ifs, ↓XU, XU, XQ, eq_self, List.reverse_cons, List.reverse_nil, Int.cast_ofNat_Int, List.length_cons, List.length_nil, List.nil_append, List.cons_append, ne_eq, Nat.reduceAdd, Nat.reduceLeDiff, Int.reduceEq, Int.reduceLT, Int.reduceLE, Int.reduceToNat, Int.reducePow, Int.reduceAdd, Int.reduceMul, Int.reduceSub, Int.reduceNeg, List.getElem?_cons_zero, List.getElem?_cons_succ, dd_is_integer]
    (repeat (refine ⟨by (first | omega | exact cm (by omega) (by omega) | exact lg (by omega) | exact pw10 (by decide) | decide +kernel), ?_⟩))
    intro x x_j x_a x_b x_c x_d
    try (simp -implicitDefEqProofs only [t__law_move, ↓XP, ↓x_ifs, ↓XU, XU, XQ, eq_self, List.reverse_cons, List.reverse_nil, Int.cast_ofNat_Int, List.length_cons, List.length_nil, List.nil_append, List.cons_append, ne_eq, Nat.reduceAdd, Nat.reduceLeDiff, Int.reduceEq, Int.reduceLT, Int.reduceLE, Int.reduceToNat, Int.reducePow, Int.reduceAdd, Int.reduceMul, Int.reduceSub, Int.reduceNeg, List.getElem?_cons_zero, List.getElem?_cons_succ, dd_is_integer])
    by_cases c : x = 0
    · subst c
      simp -implicitDefEqProofs only [t__law_move, ↓XP, ↓x_ifs, ↓XU, XU, XQ, eq_self, List.reverse_cons, List.reverse_nil, Int.cast_ofNat_Int, List.length_cons, List.length_nil, List.nil_append, List.cons_append, ne_eq, Nat.reduceAdd, Nat.reduceLeDiff, Int.reduceEq, Int.reduceLT, Int.reduceLE, Int.reduceToNat, Int.reducePow, Int.reduceAdd, Int.reduceMul, Int.reduceSub, Int.reduceNeg, List.getElem?_cons_zero, List.getElem?_cons_succ, dd_is_integer]
      (repeat (refine ⟨by (first | omega | exact cm (by omega) (by omega) | exact lg (by omega) | exact pw10 (by decide) | decide +kernel), ?_⟩))
      intro y y_j y_a y_b y_c y_d
      try (simp -implicitDefEqProofs only [t__law_move, ↓XP, ↓x_ifs, ↓XU, XU, XQ, eq_self, List.reverse_cons, List.reverse_nil, Int.cast_ofNat_Int, List.length_cons, List.length_nil, List.nil_append, List.cons_append, ne_eq, Nat.reduceAdd, Nat.reduceLeDiff, Int.reduceEq, Int.reduceLT, Int.reduceLE, Int.reduceToNat, Int.reducePow, Int.reduceAdd, Int.reduceMul, Int.reduceSub, Int.reduceNeg, List.getElem?_cons_zero, List.getElem?_cons_succ, dd_is_integer])
      exact h (0, 1 + y) _ (by unfold stepTo; omega) (by omega) (by omega)
    · simp -implicitDefEqProofs only [t__law_move, ↓XP, ↓x_ifs, ↓XU, XU, XQ, eq_self, List.reverse_cons, List.reverse_nil, Int.cast_ofNat_Int, List.length_cons, List.length_nil, List.nil_append, List.cons_append, ne_eq, Nat.reduceAdd, Nat.reduceLeDiff, Int.reduceEq, Int.reduceLT, Int.reduceLE, Int.reduceToNat, Int.reducePow, Int.reduceAdd, Int.reduceMul, Int.reduceSub, Int.reduceNeg, List.getElem?_cons_zero, List.getElem?_cons_succ, dd_is_integer, c]
      (repeat (refine ⟨by (first | omega | exact cm (by omega) (by omega) | exact lg (by omega) | exact pw10 (by decide) | decide +kernel), ?_⟩))
      intro y y_j y_a y_b y_c y_d
      try (simp -implicitDefEqProofs only [t__law_move, ↓XP, ↓x_ifs, ↓XU, XU, XQ, eq_self, List.reverse_cons, List.reverse_nil, Int.cast_ofNat_Int, List.length_cons, List.length_nil, List.nil_append, List.cons_append, ne_eq, Nat.reduceAdd, Nat.reduceLeDiff, Int.reduceEq, Int.reduceLT, Int.reduceLE, Int.reduceToNat, Int.reducePow, Int.reduceAdd, Int.reduceMul, Int.reduceSub, Int.reduceNeg, List.getElem?_cons_zero, List.getElem?_cons_succ, dd_is_integer])
      exact h (x, y - f) _ (by unfold stepTo; omega) (by omega) (by omega)
  · exact h.elim
theorem L__law_moves : ∀ n ds Q, S__law_moves n ds Q → ds.length = ps__law_moves.length := by
  intro n ds Q h
  unfold S__law_moves at h
  split at h <;> first | exact h.elim | rfl
theorem l__law_moves : ∀ n ds Q, S__law_moves n ds Q → t__law_moves (defE Q) (startG n N__law_moves ds) := by
  intro n ds Q h
  unfold S__law_moves at h
  split at h
  · rename_i f m
    show t__law_moves (defE Q) ⟨[some (.dat (.src)), some (.dat (.int f)), some (.dat (.int m)), none, none, none], n⟩
    obtain ⟨⟨f1, f2⟩, ⟨m1, m2⟩, h1, h⟩ := h
    simp -implicitDefEqProofs only [t__law_moves, ↓XP, ↓x_ifs, ↓XU, XU, XQ, eq_self, List.reverse_cons, List.reverse_nil, Int.cast_ofNat_Int, List.length_cons, List.length_nil, List.nil_append, List.cons_append, ne_eq, Nat.reduceAdd, Nat.reduceLeDiff, Int.reduceEq, Int.reduceLT, Int.reduceLE, Int.reduceToNat, Int.reducePow, Int.reduceAdd, Int.reduceMul, Int.reduceSub, Int.reduceNeg, List.getElem?_cons_zero, List.getElem?_cons_succ, dd_is_integer]
    (repeat (refine ⟨by (first | omega | exact cm (by omega) (by omega) | exact lg (by omega) | exact pw10 (by decide) | decide +kernel), ?_⟩))
    intro v v_j v_a v_b v_c v_d
    try (simp -implicitDefEqProofs only [t__law_moves, ↓XP, ↓x_ifs, ↓XU, XU, XQ, eq_self, List.reverse_cons, List.reverse_nil, Int.cast_ofNat_Int, List.length_cons, List.length_nil, List.nil_append, List.cons_append, ne_eq, Nat.reduceAdd, Nat.reduceLeDiff, Int.reduceEq, Int.reduceLT, Int.reduceLE, Int.reduceToNat, Int.reducePow, Int.reduceAdd, Int.reduceMul, Int.reduceSub, Int.reduceNeg, List.getElem?_cons_zero, List.getElem?_cons_succ, dd_is_integer])
    have hr : (rangeD 0 (1 + v).toNat).length = (1 + v).toNat := rangeD_len _ _
    (repeat (refine ⟨by (first | omega | exact cm (by omega) (by omega) | exact lg (by omega) | exact pw10 (by decide) | decide +kernel), ?_⟩))
    refine for_inv (fun r G => ∃ (ms : List (Int × Int)) (o4 o5 : Option SC) (c : Nat), (ms = [] → 1 ≤ r.length) ∧ ms.length + r.length ≤ 4 ∧ (∀ p ∈ ms, stepTo f p) ∧ ms.Nodup ∧ (n ≤ c ∧ c + 2 * r.length ≤ n + 9) ∧ G = ⟨[some (.dat .src), some (.dat (.int f)), some (.dat (.int m)), some (.own (.lst (ms.map prD))), o4, o5], c⟩) ?_ _ ?_ _ ⟨[], none, none, v_j, fun _ => by omega, by show 0 + _ ≤ 4; omega, fun p hp => (by cases hp), List.nodup_nil, by omega, rfl⟩
    · rintro G ⟨ms, o4, o5, c, e1, e2, e3, e4, ⟨c1, c2⟩, rfl⟩
      simp -implicitDefEqProofs only [t__law_moves, ↓XP, ↓x_ifs, ↓XU, XU, XQ, eq_self, List.reverse_cons, List.reverse_nil, Int.cast_ofNat_Int, List.length_cons, List.length_nil, List.nil_append, List.cons_append, ne_eq, Nat.reduceAdd, Nat.reduceLeDiff, Int.reduceEq, Int.reduceLT, Int.reduceLE, Int.reduceToNat, Int.reducePow, Int.reduceAdd, Int.reduceMul, Int.reduceSub, Int.reduceNeg, List.getElem?_cons_zero, List.getElem?_cons_succ, dd_is_integer]
      simp only [List.length_nil, Nat.add_zero, Nat.mul_zero] at e1 e2 c2
      exact h ms c (by cases ms with | nil => exact absurd (e1 rfl) (by omega) | cons a l => simp) e2 e3 e4 (by omega) (by omega)
    · rintro d r G N hs ⟨ms, o4, o5, c, e1, e2, e3, e4, ⟨c1, c2⟩, rfl⟩ hN
      rw [List.length_cons] at e2 c2
      simp -implicitDefEqProofs only [t__law_moves, ↓XP, ↓x_ifs, ↓XU, XU, XQ, eq_self, List.reverse_cons, List.reverse_nil, Int.cast_ofNat_Int, List.length_cons, List.length_nil, List.nil_append, List.cons_append, ne_eq, Nat.reduceAdd, Nat.reduceLeDiff, Int.reduceEq, Int.reduceLT, Int.reduceLE, Int.reduceToNat, Int.reducePow, Int.reduceAdd, Int.reduceMul, Int.reduceSub, Int.reduceNeg, List.getElem?_cons_zero, List.getElem?_cons_succ, dd_is_integer]
      (repeat (refine ⟨by (first | omega | exact cm (by omega) (by omega) | exact lg (by omega) | exact pw10 (by decide) | decide +kernel), ?_⟩))
      intro p j hp j1 j2
      try (simp -implicitDefEqProofs only [t__law_moves, ↓XP, ↓x_ifs, ↓XU, XU, XQ, eq_self, List.reverse_cons, List.reverse_nil, Int.cast_ofNat_Int, List.length_cons, List.length_nil, List.nil_append, List.cons_append, ne_eq, Nat.reduceAdd, Nat.reduceLeDiff, Int.reduceEq, Int.reduceLT, Int.reduceLE, Int.reduceToNat, Int.reducePow, Int.reduceAdd, Int.reduceMul, Int.reduceSub, Int.reduceNeg, List.getElem?_cons_zero, List.getElem?_cons_succ, dd_is_integer])
      refine nin_prs ?_
      by_cases hm : (p.1, p.2) ∈ ms
      · simp -implicitDefEqProofs only [t__law_moves, ↓XP, ↓x_ifs, ↓XU, XU, XQ, eq_self, List.reverse_cons, List.reverse_nil, Int.cast_ofNat_Int, List.length_cons, List.length_nil, List.nil_append, List.cons_append, ne_eq, Nat.reduceAdd, Nat.reduceLeDiff, Int.reduceEq, Int.reduceLT, Int.reduceLE, Int.reduceToNat, Int.reducePow, Int.reduceAdd, Int.reduceMul, Int.reduceSub, Int.reduceNeg, List.getElem?_cons_zero, List.getElem?_cons_succ, dd_is_integer, hm]
        exact hN _ ⟨ms, _, _, _, fun z => (by rw [z] at hm; cases hm), by omega, e3, e4, by omega, rfl⟩
      · simp -implicitDefEqProofs only [t__law_moves, ↓XP, ↓x_ifs, ↓XU, XU, XQ, eq_self, List.reverse_cons, List.reverse_nil, Int.cast_ofNat_Int, List.length_cons, List.length_nil, List.nil_append, List.cons_append, ne_eq, Nat.reduceAdd, Nat.reduceLeDiff, Int.reduceEq, Int.reduceLT, Int.reduceLE, Int.reduceToNat, Int.reducePow, Int.reduceAdd, Int.reduceMul, Int.reduceSub, Int.reduceNeg, List.getElem?_cons_zero, List.getElem?_cons_succ, dd_is_integer, hm]
        refine ⟨by rw [List.length_map]; exact Nat.lt_of_lt_of_le (m := 5) (by omega) (by decide), ?_⟩
        rw [show ms.map prD ++ [D.tup [.int p.1, .int p.2]] = (ms ++ [p]).map prD by rw [List.map_append]; rfl]
        refine hN _ ⟨ms ++ [p], _, _, _, fun z => (by simp at z), by rw [List.length_append, List.length_singleton]; omega, fun q hq => ?_, ?_, by omega, rfl⟩
        · rcases List.mem_append.mp hq with hq | hq
          · exact e3 q hq
          · rw [List.mem_singleton] at hq; rw [hq]; exact hp
        · rw [List.nodup_append]
          refine ⟨e4, by simp, fun a ha b hb => ?_⟩
          rw [List.mem_singleton] at hb
          rintro rfl
          rw [hb] at ha
          exact hm ha
  · exact h.elim
theorem L__law_some_moves : ∀ n ds Q, S__law_some_moves n ds Q → ds.length = ps__law_some_moves.length := by
  intro n ds Q h
  unfold S__law_some_moves at h
  split at h <;> first | exact h.elim | rfl
theorem l__law_some_moves : ∀ n ds Q, S__law_some_moves n ds Q → t__law_some_moves (defE Q) (startG n N__law_some_moves ds) := by
  intro n ds Q h
  unfold S__law_some_moves at h
  split at h
  · skip
    show t__law_some_moves (defE Q) ⟨[some (.dat (.src)), none, none, none, none, none, none, none, none, none, none, none], n⟩
    obtain ⟨h1, h⟩ := h
    simp -implicitDefEqProofs only [t__law_some_moves, ↓XP, ↓x_ifs, ↓XU, XU, XQ, eq_self, List.reverse_cons, List.reverse_nil, Int.cast_ofNat_Int, List.length_cons, List.length_nil, List.nil_append, List.cons_append, ne_eq, Nat.reduceAdd, Nat.reduceLeDiff, Int.reduceEq, Int.reduceLT, Int.reduceLE, Int.reduceToNat, Int.reducePow, Int.reduceAdd, Int.reduceMul, Int.reduceSub, Int.reduceNeg, List.getElem?_cons_zero, List.getElem?_cons_succ, dd_is_integer]
    (repeat (refine ⟨by (first | omega | exact cm (by omega) (by omega) | exact lg (by omega) | exact pw10 (by decide) | decide +kernel), ?_⟩))
    intro v v_j v_a v_b v_c v_d
    try (simp -implicitDefEqProofs only [t__law_some_moves, ↓XP, ↓x_ifs, ↓XU, XU, XQ, eq_self, List.reverse_cons, List.reverse_nil, Int.cast_ofNat_Int, List.length_cons, List.length_nil, List.nil_append, List.cons_append, ne_eq, Nat.reduceAdd, Nat.reduceLeDiff, Int.reduceEq, Int.reduceLT, Int.reduceLE, Int.reduceToNat, Int.reducePow, Int.reduceAdd, Int.reduceMul, Int.reduceSub, Int.reduceNeg, List.getElem?_cons_zero, List.getElem?_cons_succ, dd_is_integer])
    obtain rfl | rfl | rfl | rfl | rfl | rfl : v = 0 ∨ v = 1 ∨ v = 2 ∨ v = 3 ∨ v = 4 ∨ v = 5 := by omega
    · simp -implicitDefEqProofs only [t__law_some_moves, ↓XP, ↓x_ifs, ↓XU, XU, XQ, eq_self, List.reverse_cons, List.reverse_nil, Int.cast_ofNat_Int, List.length_cons, List.length_nil, List.nil_append, List.cons_append, ne_eq, Nat.reduceAdd, Nat.reduceLeDiff, Int.reduceEq, Int.reduceLT, Int.reduceLE, Int.reduceToNat, Int.reducePow, Int.reduceAdd, Int.reduceMul, Int.reduceSub, Int.reduceNeg, List.getElem?_cons_zero, List.getElem?_cons_succ, dd_is_integer]
      refine ⟨by omega, fun ms j m1 m2 m3 m4 j1 j2 => ?_⟩
      exact h ms j ⟨m1, m2, fun p hp => stepTo_ok (m3 p hp) (by decide), m4⟩ (by omega) (by omega)
    · simp -implicitDefEqProofs only [t__law_some_moves, ↓XP, ↓x_ifs, ↓XU, XU, XQ, eq_self, List.reverse_cons, List.reverse_nil, Int.cast_ofNat_Int, List.length_cons, List.length_nil, List.nil_append, List.cons_append, ne_eq, Nat.reduceAdd, Nat.reduceLeDiff, Int.reduceEq, Int.reduceLT, Int.reduceLE, Int.reduceToNat, Int.reducePow, Int.reduceAdd, Int.reduceMul, Int.reduceSub, Int.reduceNeg, List.getElem?_cons_zero, List.getElem?_cons_succ, dd_is_integer]
      refine ⟨by omega, fun ms j m1 m2 m3 m4 j1 j2 => ?_⟩
      exact h ms j ⟨m1, m2, fun p hp => stepTo_ok (m3 p hp) (by decide), m4⟩ (by omega) (by omega)
    · simp -implicitDefEqProofs only [t__law_some_moves, ↓XP, ↓x_ifs, ↓XU, XU, XQ, eq_self, List.reverse_cons, List.reverse_nil, Int.cast_ofNat_Int, List.length_cons, List.length_nil, List.nil_append, List.cons_append, ne_eq, Nat.reduceAdd, Nat.reduceLeDiff, Int.reduceEq, Int.reduceLT, Int.reduceLE, Int.reduceToNat, Int.reducePow, Int.reduceAdd, Int.reduceMul, Int.reduceSub, Int.reduceNeg, List.getElem?_cons_zero, List.getElem?_cons_succ, dd_is_integer]
      (repeat (refine ⟨by (first | omega | exact cm (by omega) (by omega) | exact lg (by omega) | exact pw10 (by decide) | decide +kernel), ?_⟩))
      intro w w_j w_a w_b w_c w_d
      try (simp -implicitDefEqProofs only [t__law_some_moves, ↓XP, ↓x_ifs, ↓XU, XU, XQ, eq_self, List.reverse_cons, List.reverse_nil, Int.cast_ofNat_Int, List.length_cons, List.length_nil, List.nil_append, List.cons_append, ne_eq, Nat.reduceAdd, Nat.reduceLeDiff, Int.reduceEq, Int.reduceLT, Int.reduceLE, Int.reduceToNat, Int.reducePow, Int.reduceAdd, Int.reduceMul, Int.reduceSub, Int.reduceNeg, List.getElem?_cons_zero, List.getElem?_cons_succ, dd_is_integer])
      have hw : ∃ a b : Int, atI [D.tup [D.int 0, D.int 1], D.tup [D.int 1, D.int 0], D.tup [D.int 1, D.int 1], D.tup [D.int 1, D.int (-1)], D.tup [D.int 1, D.int 2], D.tup [D.int 2, D.int (-1)]] w = some (D.tup [D.int a, D.int b]) ∧ (∀ t : Int, 1 ≤ t → t ≤ 3 → stepOk (a * t, b * t)) := by
        obtain rfl | rfl | rfl | rfl | rfl | rfl : w = 0 ∨ w = 1 ∨ w = 2 ∨ w = 3 ∨ w = 4 ∨ w = 5 := by omega
        · exact ⟨0, 1, rfl, fun t t1 t2 => by unfold stepOk; omega⟩
        · exact ⟨1, 0, rfl, fun t t1 t2 => by unfold stepOk; omega⟩
        · exact ⟨1, 1, rfl, fun t t1 t2 => by unfold stepOk; omega⟩
        · exact ⟨1, -1, rfl, fun t t1 t2 => by unfold stepOk; omega⟩
        · exact ⟨1, 2, rfl, fun t t1 t2 => by unfold stepOk; omega⟩
        · exact ⟨2, -1, rfl, fun t t1 t2 => by unfold stepOk; omega⟩
      obtain ⟨a, b, hat, hab⟩ := hw
      rw [hat]
      simp -implicitDefEqProofs only [t__law_some_moves, ↓XP, ↓x_ifs, ↓XU, XU, XQ, eq_self, List.reverse_cons, List.reverse_nil, Int.cast_ofNat_Int, List.length_cons, List.length_nil, List.nil_append, List.cons_append, ne_eq, Nat.reduceAdd, Nat.reduceLeDiff, Int.reduceEq, Int.reduceLT, Int.reduceLE, Int.reduceToNat, Int.reducePow, Int.reduceAdd, Int.reduceMul, Int.reduceSub, Int.reduceNeg, List.getElem?_cons_zero, List.getElem?_cons_succ, dd_is_integer]
      (repeat (refine ⟨by (first | omega | exact cm (by omega) (by omega) | exact lg (by omega) | exact pw10 (by decide) | decide +kernel), ?_⟩))
      intro u u_j u_a u_b u_c u_d
      try (simp -implicitDefEqProofs only [t__law_some_moves, ↓XP, ↓x_ifs, ↓XU, XU, XQ, eq_self, List.reverse_cons, List.reverse_nil, Int.cast_ofNat_Int, List.length_cons, List.length_nil, List.nil_append, List.cons_append, ne_eq, Nat.reduceAdd, Nat.reduceLeDiff, Int.reduceEq, Int.reduceLT, Int.reduceLE, Int.reduceToNat, Int.reducePow, Int.reduceAdd, Int.reduceMul, Int.reduceSub, Int.reduceNeg, List.getElem?_cons_zero, List.getElem?_cons_succ, dd_is_integer])
      have hr : (rangeD 0 (1 + u).toNat).length = (1 + u).toNat := rangeD_len _ _
      refine ⟨⟨by omega, by omega⟩, by rw [hr]; exact Nat.le_trans (m := 5) (by omega) (by decide), ?_⟩
      refine lc_for (fun r acc G => ∃ c : Nat, (n ≤ c ∧ c + r.length ≤ n + 8) ∧ (acc.length + r.length ≤ 3 ∧ 1 ≤ acc.length + r.length) ∧ (∀ d ∈ acc, ∃ t : Int, d = .int t ∧ 1 ≤ t ∧ t ≤ 3) ∧ G = ⟨[some (.dat .src), some (.dat (.int 2)), some (.own (.lst [])), none, some (.dat (.int a)), some (.dat (.int b)), none, none, none, none, none, none], c⟩) ?_ _ ?_ _ _ ⟨u_j, by omega, by show 0 + _ ≤ 3 ∧ 1 ≤ 0 + _; omega, fun d hd => (by cases hd), rfl⟩
      · rintro acc G ⟨c, ⟨c1, c2⟩, ⟨l1, l2⟩, hac, rfl⟩
        simp only [List.length_nil, Nat.add_zero] at c2 l1 l2
        simp -implicitDefEqProofs only [t__law_some_moves, ↓XP, ↓x_ifs, ↓XU, XU, XQ, eq_self, List.reverse_cons, List.reverse_nil, Int.cast_ofNat_Int, List.length_cons, List.length_nil, List.nil_append, List.cons_append, ne_eq, Nat.reduceAdd, Nat.reduceLeDiff, Int.reduceEq, Int.reduceLT, Int.reduceLE, Int.reduceToNat, Int.reducePow, Int.reduceAdd, Int.reduceMul, Int.reduceSub, Int.reduceNeg, List.getElem?_cons_zero, List.getElem?_cons_succ, dd_is_integer]
        refine for_inv (fun r G => ∃ (ms : List (Int × Int)) (o3 : Option SC), (ms = [] → 1 ≤ r.length) ∧ ms.length + r.length ≤ 3 ∧ (∀ p ∈ ms, stepOk p) ∧ ms.Nodup ∧ G = ⟨[some (.dat .src), some (.dat (.int 2)), some (.own (.lst (ms.map prD))), o3, some (.dat (.int a)), some (.dat (.int b)), none, none, none, none, none, none], c⟩) ?_ _ ?_ _ ⟨[], none, fun _ => l2, by show 0 + _ ≤ 3; omega, fun p hp => (by cases hp), List.nodup_nil, rfl⟩
        · rintro G ⟨ms, o3, e1, e2, e3, e4, rfl⟩
          simp -implicitDefEqProofs only [t__law_some_moves, ↓XP, ↓x_ifs, ↓XU, XU, XQ, eq_self, List.reverse_cons, List.reverse_nil, Int.cast_ofNat_Int, List.length_cons, List.length_nil, List.nil_append, List.cons_append, ne_eq, Nat.reduceAdd, Nat.reduceLeDiff, Int.reduceEq, Int.reduceLT, Int.reduceLE, Int.reduceToNat, Int.reducePow, Int.reduceAdd, Int.reduceMul, Int.reduceSub, Int.reduceNeg, List.getElem?_cons_zero, List.getElem?_cons_succ, dd_is_integer]
          simp only [List.length_nil, Nat.add_zero] at e1 e2
          exact h ms c ⟨by cases ms with | nil => exact absurd (e1 rfl) (by omega) | cons a l => simp, by omega, e3, e4⟩ (by omega) (by omega)
        · rintro d r G N hs ⟨ms, o3, e1, e2, e3, e4, rfl⟩ hN
          obtain ⟨t, rfl, t1, t2⟩ := hac d (hs.subset List.mem_cons_self)
          rw [List.length_cons] at e2
          have hst := hab t t1 t2
          have hst2 := hst
          unfold stepOk at hst2
          simp only at hst2
          have bnd : CMulW a t ∧ CMulW b t := by
            have e := hab 1 (by decide) (by decide)
            unfold stepOk at e
            simp only [Int.mul_one] at e
            exact ⟨cm (by omega) (by omega), cm (by omega) (by omega)⟩
          simp -implicitDefEqProofs only [t__law_some_moves, ↓XP, ↓x_ifs, ↓XU, XU, XQ, eq_self, List.reverse_cons, List.reverse_nil, Int.cast_ofNat_Int, List.length_cons, List.length_nil, List.nil_append, List.cons_append, ne_eq, Nat.reduceAdd, Nat.reduceLeDiff, Int.reduceEq, Int.reduceLT, Int.reduceLE, Int.reduceToNat, Int.reducePow, Int.reduceAdd, Int.reduceMul, Int.reduceSub, Int.reduceNeg, List.getElem?_cons_zero, List.getElem?_cons_succ, dd_is_integer]
          refine ⟨bnd.1, bnd.2, ?_⟩
          refine nin_prs ?_
          by_cases hm : (a * t, b * t) ∈ ms
          · simp -implicitDefEqProofs only [t__law_some_moves, ↓XP, ↓x_ifs, ↓XU, XU, XQ, eq_self, List.reverse_cons, List.reverse_nil, Int.cast_ofNat_Int, List.length_cons, List.length_nil, List.nil_append, List.cons_append, ne_eq, Nat.reduceAdd, Nat.reduceLeDiff, Int.reduceEq, Int.reduceLT, Int.reduceLE, Int.reduceToNat, Int.reducePow, Int.reduceAdd, Int.reduceMul, Int.reduceSub, Int.reduceNeg, List.getElem?_cons_zero, List.getElem?_cons_succ, dd_is_integer, hm]
            exact hN _ ⟨ms, _, fun z => (by rw [z] at hm; cases hm), by omega, e3, e4, rfl⟩
          · simp -implicitDefEqProofs only [t__law_some_moves, ↓XP, ↓x_ifs, ↓XU, XU, XQ, eq_self, List.reverse_cons, List.reverse_nil, Int.cast_ofNat_Int, List.length_cons, List.length_nil, List.nil_append, List.cons_append, ne_eq, Nat.reduceAdd, Nat.reduceLeDiff, Int.reduceEq, Int.reduceLT, Int.reduceLE, Int.reduceToNat, Int.reducePow, Int.reduceAdd, Int.reduceMul, Int.reduceSub, Int.reduceNeg, List.getElem?_cons_zero, List.getElem?_cons_succ, dd_is_integer, hm]
            refine ⟨bnd.1, bnd.2, by rw [List.length_map]; exact Nat.lt_of_lt_of_le (m := 5) (by omega) (by decide), ?_⟩
            rw [show ms.map prD ++ [D.tup [.int (a * t), .int (b * t)]] = (ms ++ [(a * t, b * t)]).map prD by rw [List.map_append]; rfl]
            refine hN _ ⟨ms ++ [(a * t, b * t)], _, fun z => (by simp at z), by rw [List.length_append, List.length_singleton]; omega, fun q hq => ?_, ?_, rfl⟩
            · rcases List.mem_append.mp hq with hq | hq
              · exact e3 q hq
              · rw [List.mem_singleton] at hq; rw [hq]; exact hst
            · rw [List.nodup_append]
              refine ⟨e4, by simp, fun x hx y hy => ?_⟩
              rw [List.mem_singleton] at hy
              rintro rfl
              rw [hy] at hx
              exact hm hx
      · rintro d r acc G K K' hs ⟨c, ⟨c1, c2⟩, ⟨l1, l2⟩, hac, rfl⟩ hK hK'
        rw [List.length_cons] at c2 l1 l2
        simp -implicitDefEqProofs only [t__law_some_moves, ↓XP, ↓x_ifs, ↓XU, XU, XQ, eq_self, List.reverse_cons, List.reverse_nil, Int.cast_ofNat_Int, List.length_cons, List.length_nil, List.nil_append, List.cons_append, ne_eq, Nat.reduceAdd, Nat.reduceLeDiff, Int.reduceEq, Int.reduceLT, Int.reduceLE, Int.reduceToNat, Int.reducePow, Int.reduceAdd, Int.reduceMul, Int.reduceSub, Int.reduceNeg, List.getElem?_cons_zero, List.getElem?_cons_succ, dd_is_integer]
        (repeat (refine ⟨by (first | omega | exact cm (by omega) (by omega) | exact lg (by omega) | exact pw10 (by decide) | decide +kernel), ?_⟩))
        intro t t_j t_a t_b t_c t_d
        try (simp -implicitDefEqProofs only [t__law_some_moves, ↓XP, ↓x_ifs, ↓XU, XU, XQ, eq_self, List.reverse_cons, List.reverse_nil, Int.cast_ofNat_Int, List.length_cons, List.length_nil, List.nil_append, List.cons_append, ne_eq, Nat.reduceAdd, Nat.reduceLeDiff, Int.reduceEq, Int.reduceLT, Int.reduceLE, Int.reduceToNat, Int.reducePow, Int.reduceAdd, Int.reduceMul, Int.reduceSub, Int.reduceNeg, List.getElem?_cons_zero, List.getElem?_cons_succ, dd_is_integer])
        refine hK _ _ ⟨_, by omega, by rw [List.length_append, List.length_singleton]; omega, fun e he => ?_, rfl⟩
        rcases List.mem_append.mp he with he | he
        · exact hac e he
        · rw [List.mem_singleton] at he
          exact ⟨_, he, by omega, by omega⟩
    · simp -implicitDefEqProofs only [t__law_some_moves, ↓XP, ↓x_ifs, ↓XU, XU, XQ, eq_self, List.reverse_cons, List.reverse_nil, Int.cast_ofNat_Int, List.length_cons, List.length_nil, List.nil_append, List.cons_append, ne_eq, Nat.reduceAdd, Nat.reduceLeDiff, Int.reduceEq, Int.reduceLT, Int.reduceLE, Int.reduceToNat, Int.reducePow, Int.reduceAdd, Int.reduceMul, Int.reduceSub, Int.reduceNeg, List.getElem?_cons_zero, List.getElem?_cons_succ, dd_is_integer]
      (repeat (refine ⟨by (first | omega | exact cm (by omega) (by omega) | exact lg (by omega) | exact pw10 (by decide) | decide +kernel), ?_⟩))
      intro w1 w1_j w1_a w1_b w1_c w1_d
      try (simp -implicitDefEqProofs only [t__law_some_moves, ↓XP, ↓x_ifs, ↓XU, XU, XQ, eq_self, List.reverse_cons, List.reverse_nil, Int.cast_ofNat_Int, List.length_cons, List.length_nil, List.nil_append, List.cons_append, ne_eq, Nat.reduceAdd, Nat.reduceLeDiff, Int.reduceEq, Int.reduceLT, Int.reduceLE, Int.reduceToNat, Int.reducePow, Int.reduceAdd, Int.reduceMul, Int.reduceSub, Int.reduceNeg, List.getElem?_cons_zero, List.getElem?_cons_succ, dd_is_integer])
      (repeat (refine ⟨by (first | omega | exact cm (by omega) (by omega) | exact lg (by omega) | exact pw10 (by decide) | decide +kernel), ?_⟩))
      intro w2 w2_j w2_a w2_b w2_c w2_d
      try (simp -implicitDefEqProofs only [t__law_some_moves, ↓XP, ↓x_ifs, ↓XU, XU, XQ, eq_self, List.reverse_cons, List.reverse_nil, Int.cast_ofNat_Int, List.length_cons, List.length_nil, List.nil_append, List.cons_append, ne_eq, Nat.reduceAdd, Nat.reduceLeDiff, Int.reduceEq, Int.reduceLT, Int.reduceLE, Int.reduceToNat, Int.reducePow, Int.reduceAdd, Int.reduceMul, Int.reduceSub, Int.reduceNeg, List.getElem?_cons_zero, List.getElem?_cons_succ, dd_is_integer])
      (repeat (refine ⟨by (first | omega | exact cm (by omega) (by omega) | exact lg (by omega) | exact pw10 (by decide) | decide +kernel), ?_⟩))
      intro ms j m1 m2 m3 m4 j1 j2
      refine ⟨by rw [List.length_map]; exact Nat.le_trans m2 (by decide), ?_⟩
      refine lc_all (f := scD (1 + w1) (1 + w2)) (fun d hd kk k' q => ?_) ?_
      · obtain ⟨p, hp, rfl⟩ := List.mem_map.mp hd
        have hst := m3 p hp
        unfold stepTo at hst
        unfold prD
        simp -implicitDefEqProofs only [t__law_some_moves, ↓XP, ↓x_ifs, ↓XU, XU, XQ, eq_self, List.reverse_cons, List.reverse_nil, Int.cast_ofNat_Int, List.length_cons, List.length_nil, List.nil_append, List.cons_append, ne_eq, Nat.reduceAdd, Nat.reduceLeDiff, Int.reduceEq, Int.reduceLT, Int.reduceLE, Int.reduceToNat, Int.reducePow, Int.reduceAdd, Int.reduceMul, Int.reduceSub, Int.reduceNeg, List.getElem?_cons_zero, List.getElem?_cons_succ, dd_is_integer]
        refine ⟨cm (by omega) (by omega), cm (by omega) (by omega), q⟩
      · simp -implicitDefEqProofs only [t__law_some_moves, ↓XP, ↓x_ifs, ↓XU, XU, XQ, eq_self, List.reverse_cons, List.reverse_nil, Int.cast_ofNat_Int, List.length_cons, List.length_nil, List.nil_append, List.cons_append, ne_eq, Nat.reduceAdd, Nat.reduceLeDiff, Int.reduceEq, Int.reduceLT, Int.reduceLE, Int.reduceToNat, Int.reducePow, Int.reduceAdd, Int.reduceMul, Int.reduceSub, Int.reduceNeg, List.getElem?_cons_zero, List.getElem?_cons_succ, dd_is_integer]
        rw [show (ms.map prD).map (scD (1 + w1) (1 + w2)) = (ms.map fun p => ((1 + w1) * p.1, (1 + w2) * p.2)).map prD by rw [List.map_map, List.map_map]; rfl]
        refine h _ j ⟨by rw [List.length_map]; exact m1, by rw [List.length_map]; exact m2, fun p hp => ?_, ?_⟩ (by omega) (by omega)
        · obtain ⟨q, hq, rfl⟩ := List.mem_map.mp hp
          have hst := m3 q hq
          unfold stepTo at hst
          exact sc_ok (by omega) (by omega) (by omega) (by omega) hst
        · rw [List.nodup_iff_pairwise_ne, List.pairwise_map]
          rw [List.nodup_iff_pairwise_ne] at m4
          refine m4.imp fun {p q} hne e => hne ?_
          have e1 : (1 + w1) * p.1 = (1 + w1) * q.1 := congrArg Prod.fst e
          have e2 : (1 + w2) * p.2 = (1 + w2) * q.2 := congrArg Prod.snd e
          exact Prod.ext (Int.eq_of_mul_eq_mul_left (by omega) e1) (Int.eq_of_mul_eq_mul_left (by omega) e2)
    · simp -implicitDefEqProofs only [t__law_some_moves, ↓XP, ↓x_ifs, ↓XU, XU, XQ, eq_self, List.reverse_cons, List.reverse_nil, Int.cast_ofNat_Int, List.length_cons, List.length_nil, List.nil_append, List.cons_append, ne_eq, Nat.reduceAdd, Nat.reduceLeDiff, Int.reduceEq, Int.reduceLT, Int.reduceLE, Int.reduceToNat, Int.reducePow, Int.reduceAdd, Int.reduceMul, Int.reduceSub, Int.reduceNeg, List.getElem?_cons_zero, List.getElem?_cons_succ, dd_is_integer]
      (repeat (refine ⟨by (first | omega | exact cm (by omega) (by omega) | exact lg (by omega) | exact pw10 (by decide) | decide +kernel), ?_⟩))
      intro w w_j w_a w_b w_c w_d
      try (simp -implicitDefEqProofs only [t__law_some_moves, ↓XP, ↓x_ifs, ↓XU, XU, XQ, eq_self, List.reverse_cons, List.reverse_nil, Int.cast_ofNat_Int, List.length_cons, List.length_nil, List.nil_append, List.cons_append, ne_eq, Nat.reduceAdd, Nat.reduceLeDiff, Int.reduceEq, Int.reduceLT, Int.reduceLE, Int.reduceToNat, Int.reducePow, Int.reduceAdd, Int.reduceMul, Int.reduceSub, Int.reduceNeg, List.getElem?_cons_zero, List.getElem?_cons_succ, dd_is_integer])
      have hr : (rangeD 0 (2 + w).toNat).length = (2 + w).toNat := rangeD_len _ _
      refine ⟨⟨by omega, by omega⟩, by rw [hr]; exact Nat.le_trans (m := 5) (by omega) (by decide), ?_⟩
      refine lc_for (fun r acc G => ∃ (c : Nat) (ms : List (Int × Int)) (k : Int), acc = ms.map prD ∧ r = rangeD k r.length ∧ k = ms.length ∧ ms.length + r.length = (2 + w).toNat ∧ (∀ p ∈ ms, stepOk p ∧ p.2 < k - 1) ∧ ms.Nodup ∧ (n ≤ c ∧ c + r.length ≤ n + 12) ∧ G = ⟨[some (.dat .src), some (.dat (.int 4)), none, none, none, none, none, none, none, none, none, none], c⟩) ?_ _ ?_ _ _ ⟨w_j, [], 0, rfl, by rw [hr], rfl, by rw [hr]; simp, fun p hp => (by cases hp), List.nodup_nil, by omega, rfl⟩
      · rintro acc G ⟨c, ms, k, rfl, e1, e2, e3, e4, e5, ⟨c1, c2⟩, rfl⟩
        simp only [List.length_nil, Nat.add_zero] at c2 e3
        simp -implicitDefEqProofs only [t__law_some_moves, ↓XP, ↓x_ifs, ↓XU, XU, XQ, eq_self, List.reverse_cons, List.reverse_nil, Int.cast_ofNat_Int, List.length_cons, List.length_nil, List.nil_append, List.cons_append, ne_eq, Nat.reduceAdd, Nat.reduceLeDiff, Int.reduceEq, Int.reduceLT, Int.reduceLE, Int.reduceToNat, Int.reducePow, Int.reduceAdd, Int.reduceMul, Int.reduceSub, Int.reduceNeg, List.getElem?_cons_zero, List.getElem?_cons_succ, dd_is_integer]
        exact h ms c ⟨by omega, by omega, fun p hp => (e4 p hp).1, e5⟩ (by omega) (by omega)
      · rintro d r acc G K K' hs ⟨c, ms, k, rfl, e1, e2, e3, e4, e5, ⟨c1, c2⟩, rfl⟩ hK hK'
        rw [List.length_cons] at e1 e3 c2
        rw [rangeD] at e1
        obtain ⟨rfl, e6⟩ := List.cons.inj e1
        simp -implicitDefEqProofs only [t__law_some_moves, ↓XP, ↓x_ifs, ↓XU, XU, XQ, eq_self, List.reverse_cons, List.reverse_nil, Int.cast_ofNat_Int, List.length_cons, List.length_nil, List.nil_append, List.cons_append, ne_eq, Nat.reduceAdd, Nat.reduceLeDiff, Int.reduceEq, Int.reduceLT, Int.reduceLE, Int.reduceToNat, Int.reducePow, Int.reduceAdd, Int.reduceMul, Int.reduceSub, Int.reduceNeg, List.getElem?_cons_zero, List.getElem?_cons_succ, dd_is_integer]
        (repeat (refine ⟨by (first | omega | exact cm (by omega) (by omega) | exact lg (by omega) | exact pw10 (by decide) | decide +kernel), ?_⟩))
        intro t t_j t_a t_b t_c t_d
        try (simp -implicitDefEqProofs only [t__law_some_moves, ↓XP, ↓x_ifs, ↓XU, XU, XQ, eq_self, List.reverse_cons, List.reverse_nil, Int.cast_ofNat_Int, List.length_cons, List.length_nil, List.nil_append, List.cons_append, ne_eq, Nat.reduceAdd, Nat.reduceLeDiff, Int.reduceEq, Int.reduceLT, Int.reduceLE, Int.reduceToNat, Int.reducePow, Int.reduceAdd, Int.reduceMul, Int.reduceSub, Int.reduceNeg, List.getElem?_cons_zero, List.getElem?_cons_succ, dd_is_integer])
        refine hK _ _ ⟨t_j, ms ++ [(1 + t, k - 1)], k + 1, by rw [List.map_append]; rfl, e6, by rw [List.length_append, List.length_singleton, e2]; rfl, by rw [List.length_append, List.length_singleton]; omega, fun p hp => ?_, ?_, by omega, rfl⟩
        · rcases List.mem_append.mp hp with hp | hp
          · have := e4 p hp
            exact ⟨this.1, by omega⟩
          · rw [List.mem_singleton] at hp
            subst hp
            unfold stepOk
            refine ⟨?_, ?_⟩ <;> simp only <;> omega
        · rw [List.nodup_append]
          refine ⟨e5, by simp, fun x hx y hy => ?_⟩
          rw [List.mem_singleton] at hy
          rintro rfl
          have := (e4 x hx).2
          rw [hy] at this
          simp only at this
          omega
    · simp -implicitDefEqProofs only [t__law_some_moves, ↓XP, ↓x_ifs, ↓XU, XU, XQ, eq_self, List.reverse_cons, List.reverse_nil, Int.cast_ofNat_Int, List.length_cons, List.length_nil, List.nil_append, List.cons_append, ne_eq, Nat.reduceAdd, Nat.reduceLeDiff, Int.reduceEq, Int.reduceLT, Int.reduceLE, Int.reduceToNat, Int.reducePow, Int.reduceAdd, Int.reduceMul, Int.reduceSub, Int.reduceNeg, List.getElem?_cons_zero, List.getElem?_cons_succ, dd_is_integer]
      refine ⟨by omega, fun ms j m1 m2 m3 m4 j1 j2 => ?_⟩
      exact h ms j ⟨m1, m2, fun p hp => stepTo_ok (m3 p hp) (by decide), m4⟩ (by omega) (by omega)
  · exact h.elim
theorem faultAt_ok : ∀ {ms ps : List (Int × Int)}, (∀ p ∈ ms, stepOk p) → (ps ++ ms).Nodup → faultAt ps (ms.map prD) = .tup []
  | [], _, _, _ => rfl
  | p :: ms, ps, h, hn => by
    have hp : p ∉ ps := fun z => by
      rw [List.nodup_append] at hn
      exact hn.2.2 p z p List.mem_cons_self rfl
    have e1 : stepD (prD p) = true := by
      show decide (stepOk (p.1, p.2)) = true
      exact decide_eq_true (h p List.mem_cons_self)
    have e2 : pairOf (prD p) = p := rfl
    rw [List.map_cons, faultAt, if_pos e1, e2, if_neg hp]
    exact faultAt_ok (fun q hq => h q (List.mem_cons_of_mem _ hq)) (by rw [List.append_assoc]; exact hn)
theorem steps_need {ms : List (Int × Int)} (h : StepsOk ms) : okL (.lst (ms.map prD)) = true ∧ faultD (.lst (ms.map prD)) = .tup [] := by
  refine ⟨?_, ?_⟩
  · show (ms.map prD).all okE = true
    rw [List.all_eq_true]
    intro d hd
    obtain ⟨p, _, rfl⟩ := List.mem_map.mp hd
    rfl
  · unfold faultD
    simp only [List.length_map]
    rw [if_pos ⟨h.1, h.2.1⟩]
    exact faultAt_ok h.2.2.1 (by simpa using h.2.2.2)
theorem cut_take {ds : List D} {k : Nat} (h : k ≤ ds.length) : dSlc.cutV' ds none (some (k : Int)) = ds.take k := by
  unfold dSlc.cutV'
  have e : HT.sIx ds.length ds.length (some (k : Int)) = k := by rw [HT.sIx_nat]; omega
  have e0 : HT.sIx ds.length 0 none = 0 := rfl
  rw [e, e0, List.drop_zero, Nat.sub_zero]
theorem q_tt0 {f : Bool → Prop} (hf : f true) : eqQ (.tup []) (.tup []) f := q_same (by intro d hd; cases hd) hf
theorem L_is_step : ∀ n ds Q, S_is_step n ds Q → ds.length = ps_is_step.length := by
  intro n ds Q h
  unfold S_is_step at h
  split at h <;> first | exact h.elim | rfl
theorem l_is_step : ∀ n ds Q, S_is_step n ds Q → t_is_step (defE Q) (startG n N_is_step ds) := by
  intro n ds Q h
  unfold S_is_step at h
  split at h
  · rename_i d
    show t_is_step (defE Q) ⟨[some (.dat (d))], n⟩
    obtain ⟨ok, h⟩ := h
    cases hp : pairD d with
    | true =>
      obtain ⟨a, b, rfl⟩ := pair_cases hp
      rw [stepD_p] at h
      unfold stepOk at h
      by_cases c1 : 0 ≤ a ∧ a ≤ 6
      · obtain ⟨c1, c2⟩ := c1
        by_cases c3 : a = 0
        · subst c3
          simp -implicitDefEqProofs only [t_is_step, ↓XP, ↓x_ifs, ↓XU, XU, XQ, eq_self, List.reverse_cons, List.reverse_nil, Int.cast_ofNat_Int, List.length_cons, List.length_nil, List.nil_append, List.cons_append, ne_eq, Nat.reduceAdd, Nat.reduceLeDiff, Int.reduceEq, Int.reduceLT, Int.reduceLE, Int.reduceToNat, Int.reducePow, Int.reduceAdd, Int.reduceMul, Int.reduceSub, Int.reduceNeg, List.getElem?_cons_zero, List.getElem?_cons_succ, dd_is_integer]
          by_cases c4 : 1 ≤ b
          · simp -implicitDefEqProofs only [t_is_step, ↓XP, ↓x_ifs, ↓XU, XU, XQ, eq_self, List.reverse_cons, List.reverse_nil, Int.cast_ofNat_Int, List.length_cons, List.length_nil, List.nil_append, List.cons_append, ne_eq, Nat.reduceAdd, Nat.reduceLeDiff, Int.reduceEq, Int.reduceLT, Int.reduceLE, Int.reduceToNat, Int.reducePow, Int.reduceAdd, Int.reduceMul, Int.reduceSub, Int.reduceNeg, List.getElem?_cons_zero, List.getElem?_cons_succ, dd_is_integer, c4]
            rw [show decide (0 ≤ (0 : Int) ∧ (0 : Int) ≤ 6 ∧ -6 ≤ b ∧ b ≤ 6 ∧ ((0 : Int) = 0 → 1 ≤ b)) = decide (b ≤ 6) from decide_eq_decide.mpr (by omega)] at h
            exact h
          · simp -implicitDefEqProofs only [t_is_step, ↓XP, ↓x_ifs, ↓XU, XU, XQ, eq_self, List.reverse_cons, List.reverse_nil, Int.cast_ofNat_Int, List.length_cons, List.length_nil, List.nil_append, List.cons_append, ne_eq, Nat.reduceAdd, Nat.reduceLeDiff, Int.reduceEq, Int.reduceLT, Int.reduceLE, Int.reduceToNat, Int.reducePow, Int.reduceAdd, Int.reduceMul, Int.reduceSub, Int.reduceNeg, List.getElem?_cons_zero, List.getElem?_cons_succ, dd_is_integer, c4]
            rw [show decide (0 ≤ (0 : Int) ∧ (0 : Int) ≤ 6 ∧ -6 ≤ b ∧ b ≤ 6 ∧ ((0 : Int) = 0 → 1 ≤ b)) = false from decide_eq_false (by omega)] at h
            exact h
        · simp -implicitDefEqProofs only [t_is_step, ↓XP, ↓x_ifs, ↓XU, XU, XQ, eq_self, List.reverse_cons, List.reverse_nil, Int.cast_ofNat_Int, List.length_cons, List.length_nil, List.nil_append, List.cons_append, ne_eq, Nat.reduceAdd, Nat.reduceLeDiff, Int.reduceEq, Int.reduceLT, Int.reduceLE, Int.reduceToNat, Int.reducePow, Int.reduceAdd, Int.reduceMul, Int.reduceSub, Int.reduceNeg, List.getElem?_cons_zero, List.getElem?_cons_succ, dd_is_integer, c1, c2, c3]
          by_cases c4 : -6 ≤ b
          · simp -implicitDefEqProofs only [t_is_step, ↓XP, ↓x_ifs, ↓XU, XU, XQ, eq_self, List.reverse_cons, List.reverse_nil, Int.cast_ofNat_Int, List.length_cons, List.length_nil, List.nil_append, List.cons_append, ne_eq, Nat.reduceAdd, Nat.reduceLeDiff, Int.reduceEq, Int.reduceLT, Int.reduceLE, Int.reduceToNat, Int.reducePow, Int.reduceAdd, Int.reduceMul, Int.reduceSub, Int.reduceNeg, List.getElem?_cons_zero, List.getElem?_cons_succ, dd_is_integer, c4]
            rw [show decide (0 ≤ a ∧ a ≤ 6 ∧ -6 ≤ b ∧ b ≤ 6 ∧ (a = 0 → 1 ≤ b)) = decide (b ≤ 6) from decide_eq_decide.mpr (by omega)] at h
            exact h
          · simp -implicitDefEqProofs only [t_is_step, ↓XP, ↓x_ifs, ↓XU, XU, XQ, eq_self, List.reverse_cons, List.reverse_nil, Int.cast_ofNat_Int, List.length_cons, List.length_nil, List.nil_append, List.cons_append, ne_eq, Nat.reduceAdd, Nat.reduceLeDiff, Int.reduceEq, Int.reduceLT, Int.reduceLE, Int.reduceToNat, Int.reducePow, Int.reduceAdd, Int.reduceMul, Int.reduceSub, Int.reduceNeg, List.getElem?_cons_zero, List.getElem?_cons_succ, dd_is_integer, c4]
            rw [show decide (0 ≤ a ∧ a ≤ 6 ∧ -6 ≤ b ∧ b ≤ 6 ∧ (a = 0 → 1 ≤ b)) = false from decide_eq_false (by omega)] at h
            exact h
      · rw [show decide (0 ≤ a ∧ a ≤ 6 ∧ -6 ≤ b ∧ b ≤ 6 ∧ (a = 0 → 1 ≤ b)) = false from decide_eq_false (by omega)] at h
        by_cases c2 : 0 ≤ a
        · have c3 : ¬ a ≤ 6 := by omega
          simp -implicitDefEqProofs only [t_is_step, ↓XP, ↓x_ifs, ↓XU, XU, XQ, eq_self, List.reverse_cons, List.reverse_nil, Int.cast_ofNat_Int, List.length_cons, List.length_nil, List.nil_append, List.cons_append, ne_eq, Nat.reduceAdd, Nat.reduceLeDiff, Int.reduceEq, Int.reduceLT, Int.reduceLE, Int.reduceToNat, Int.reducePow, Int.reduceAdd, Int.reduceMul, Int.reduceSub, Int.reduceNeg, List.getElem?_cons_zero, List.getElem?_cons_succ, dd_is_integer, c2, c3]
          exact h
        · simp -implicitDefEqProofs only [t_is_step, ↓XP, ↓x_ifs, ↓XU, XU, XQ, eq_self, List.reverse_cons, List.reverse_nil, Int.cast_ofNat_Int, List.length_cons, List.length_nil, List.nil_append, List.cons_append, ne_eq, Nat.reduceAdd, Nat.reduceLeDiff, Int.reduceEq, Int.reduceLT, Int.reduceLE, Int.reduceToNat, Int.reducePow, Int.reduceAdd, Int.reduceMul, Int.reduceSub, Int.reduceNeg, List.getElem?_cons_zero, List.getElem?_cons_succ, dd_is_integer, c2]
          exact h
    | false =>
      have hv : stepD d = false := by
        unfold stepD
        split
        · exact absurd hp (by rw [pairD_p]; decide)
        · rfl
      rw [hv] at h
      simp -implicitDefEqProofs only [t_is_step, ↓XP, ↓x_ifs, ↓XU, XU, XQ, eq_self, List.reverse_cons, List.reverse_nil, Int.cast_ofNat_Int, List.length_cons, List.length_nil, List.nil_append, List.cons_append, ne_eq, Nat.reduceAdd, Nat.reduceLeDiff, Int.reduceEq, Int.reduceLT, Int.reduceLE, Int.reduceToNat, Int.reducePow, Int.reduceAdd, Int.reduceMul, Int.reduceSub, Int.reduceNeg, List.getElem?_cons_zero, List.getElem?_cons_succ, dd_is_integer, ok, hp]
      exact h
  · exact h.elim
theorem L_steps_fault : ∀ n ds Q, S_steps_fault n ds Q → ds.length = ps_steps_fault.length := by
  intro n ds Q h
  unfold S_steps_fault at h
  split at h <;> first | exact h.elim | rfl
theorem l_steps_fault : ∀ n ds Q, S_steps_fault n ds Q → t_steps_fault (defE Q) (startG n N_steps_fault ds) := by
  intro n ds Q h
  unfold S_steps_fault at h
  split at h
  · rename_i d
    show t_steps_fault (defE Q) ⟨[some (.dat (d)), none, none], n⟩
    obtain ⟨ok, h⟩ := h
    cases d <;> first | exact absurd ok Bool.false_ne_true | (simp -implicitDefEqProofs only [t_steps_fault, ↓XP, ↓x_ifs, ↓XU, XU, XQ, eq_self, List.reverse_cons, List.reverse_nil, Int.cast_ofNat_Int, List.length_cons, List.length_nil, List.nil_append, List.cons_append, ne_eq, Nat.reduceAdd, Nat.reduceLeDiff, Int.reduceEq, Int.reduceLT, Int.reduceLE, Int.reduceToNat, Int.reducePow, Int.reduceAdd, Int.reduceMul, Int.reduceSub, Int.reduceNeg, List.getElem?_cons_zero, List.getElem?_cons_succ, dd_is_integer]; exact h) | skip
    rename_i ds
    have ok : ds.all okE = true := ok
    by_cases c1 : 1 ≤ ds.length
    · by_cases c2 : ds.length ≤ 4
      · have c3 : (1 : Int) ≤ ds.length := by omega
        have c4 : (ds.length : Int) ≤ 4 := by omega
        rw [show faultD (.lst ds) = faultAt [] ds by unfold faultD; simp only; rw [if_pos ⟨c1, c2⟩]] at h
        simp -implicitDefEqProofs only [t_steps_fault, ↓XP, ↓x_ifs, ↓XU, XU, XQ, eq_self, List.reverse_cons, List.reverse_nil, Int.cast_ofNat_Int, List.length_cons, List.length_nil, List.nil_append, List.cons_append, ne_eq, Nat.reduceAdd, Nat.reduceLeDiff, Int.reduceEq, Int.reduceLT, Int.reduceLE, Int.reduceToNat, Int.reducePow, Int.reduceAdd, Int.reduceMul, Int.reduceSub, Int.reduceNeg, List.getElem?_cons_zero, List.getElem?_cons_succ, dd_is_integer, c3, c4]
        refine for_inv (fun r G => ∃ (ps : List (Int × Int)) (re : List D) (o1 o2 : Option SC), r = enumD (ps.length : Int) re ∧ ds = ps.map prD ++ re ∧ (∀ p ∈ ps, stepOk p) ∧ Q (.dat (faultAt ps re)) n ∧ G = ⟨[some (.dat (.lst ds)), o1, o2], n⟩) ?_ _ ?_ _ ⟨[], ds, none, none, rfl, rfl, fun p hp => (by cases hp), h, rfl⟩
        · rintro G ⟨ps, re, o1, o2, e1, e2, e3, h, rfl⟩
          cases re with
          | nil => simp -implicitDefEqProofs only [t_steps_fault, ↓XP, ↓x_ifs, ↓XU, XU, XQ, eq_self, List.reverse_cons, List.reverse_nil, Int.cast_ofNat_Int, List.length_cons, List.length_nil, List.nil_append, List.cons_append, ne_eq, Nat.reduceAdd, Nat.reduceLeDiff, Int.reduceEq, Int.reduceLT, Int.reduceLE, Int.reduceToNat, Int.reducePow, Int.reduceAdd, Int.reduceMul, Int.reduceSub, Int.reduceNeg, List.getElem?_cons_zero, List.getElem?_cons_succ, dd_is_integer]; exact h
          | cons d re => cases e1
        · rintro d r G N hs ⟨ps, re, o1, o2, e1, e2, e3, h, rfl⟩ hN
          cases re with
          | nil => cases e1
          | cons d' re =>
            obtain ⟨rfl, e4⟩ := List.cons.inj (show d :: r = .tup [.int (ps.length : Int), d'] :: enumD ((ps.length : Int) + 1) re from e1)
            have okd : okE d' = true := List.all_eq_true.mp ok d' (by rw [e2]; simp)
            cases hst : stepD d' with
            | false =>
              rw [faultAt, if_neg (by rw [hst]; decide)] at h
              simp -implicitDefEqProofs only [t_steps_fault, ↓XP, ↓x_ifs, ↓XU, XU, XQ, eq_self, List.reverse_cons, List.reverse_nil, Int.cast_ofNat_Int, List.length_cons, List.length_nil, List.nil_append, List.cons_append, ne_eq, Nat.reduceAdd, Nat.reduceLeDiff, Int.reduceEq, Int.reduceLT, Int.reduceLE, Int.reduceToNat, Int.reducePow, Int.reduceAdd, Int.reduceMul, Int.reduceSub, Int.reduceNeg, List.getElem?_cons_zero, List.getElem?_cons_succ, dd_is_integer, okd, hst]
              exact h
            | true =>
              obtain ⟨a, b, rfl⟩ : ∃ a b : Int, d' = .tup [.int a, .int b] := by
                unfold stepD at hst
                split at hst
                · exact ⟨_, _, rfl⟩
                · cases hst
              have hso : stepOk (a, b) := of_decide_eq_true hst
              rw [faultAt, if_pos hst] at h
              have hc : dSlc.cutV' ds none (some (ps.length : Int)) = ps.map prD := by
                rw [cut_take (by rw [e2, List.length_append, List.length_map]; omega), e2, ← List.length_map (f := prD), List.take_left']
                rfl
              simp -implicitDefEqProofs only [t_steps_fault, ↓XP, ↓x_ifs, ↓XU, XU, XQ, eq_self, List.reverse_cons, List.reverse_nil, Int.cast_ofNat_Int, List.length_cons, List.length_nil, List.nil_append, List.cons_append, ne_eq, Nat.reduceAdd, Nat.reduceLeDiff, Int.reduceEq, Int.reduceLT, Int.reduceLE, Int.reduceToNat, Int.reducePow, Int.reduceAdd, Int.reduceMul, Int.reduceSub, Int.reduceNeg, List.getElem?_cons_zero, List.getElem?_cons_succ, dd_is_integer, hso, hc]
              refine in_prs ?_
              by_cases hm : (a, b) ∈ ps
              · rw [if_pos (show pairOf (D.tup [.int a, .int b]) ∈ ps from hm)] at h
                simp -implicitDefEqProofs only [t_steps_fault, ↓XP, ↓x_ifs, ↓XU, XU, XQ, eq_self, List.reverse_cons, List.reverse_nil, Int.cast_ofNat_Int, List.length_cons, List.length_nil, List.nil_append, List.cons_append, ne_eq, Nat.reduceAdd, Nat.reduceLeDiff, Int.reduceEq, Int.reduceLT, Int.reduceLE, Int.reduceToNat, Int.reducePow, Int.reduceAdd, Int.reduceMul, Int.reduceSub, Int.reduceNeg, List.getElem?_cons_zero, List.getElem?_cons_succ, dd_is_integer, hm]
                exact h
              · rw [if_neg (show ¬ pairOf (D.tup [.int a, .int b]) ∈ ps from hm)] at h
                simp -implicitDefEqProofs only [t_steps_fault, ↓XP, ↓x_ifs, ↓XU, XU, XQ, eq_self, List.reverse_cons, List.reverse_nil, Int.cast_ofNat_Int, List.length_cons, List.length_nil, List.nil_append, List.cons_append, ne_eq, Nat.reduceAdd, Nat.reduceLeDiff, Int.reduceEq, Int.reduceLT, Int.reduceLE, Int.reduceToNat, Int.reducePow, Int.reduceAdd, Int.reduceMul, Int.reduceSub, Int.reduceNeg, List.getElem?_cons_zero, List.getElem?_cons_succ, dd_is_integer, hm]
                refine hN _ ⟨ps ++ [(a, b)], re, _, _, ?_, ?_, fun p hp => ?_, h, rfl⟩
                · rw [e4, List.length_append, List.length_singleton]; rfl
                · rw [e2, List.map_append, List.append_assoc]; rfl
                · rcases List.mem_append.mp hp with hp | hp
                  · exact e3 p hp
                  · rw [List.mem_singleton] at hp; rw [hp]; exact hso
      · have c3 : (1 : Int) ≤ ds.length := by omega
        have c4 : ¬ (ds.length : Int) ≤ 4 := by omega
        rw [show faultD (.lst ds) = .tup [.non] by unfold faultD; simp only; rw [if_neg (fun z => c2 z.2)]] at h
        simp -implicitDefEqProofs only [t_steps_fault, ↓XP, ↓x_ifs, ↓XU, XU, XQ, eq_self, List.reverse_cons, List.reverse_nil, Int.cast_ofNat_Int, List.length_cons, List.length_nil, List.nil_append, List.cons_append, ne_eq, Nat.reduceAdd, Nat.reduceLeDiff, Int.reduceEq, Int.reduceLT, Int.reduceLE, Int.reduceToNat, Int.reducePow, Int.reduceAdd, Int.reduceMul, Int.reduceSub, Int.reduceNeg, List.getElem?_cons_zero, List.getElem?_cons_succ, dd_is_integer, c3, c4]
        exact h
    · have c3 : ¬ (1 : Int) ≤ ds.length := by omega
      rw [show faultD (.lst ds) = .tup [.non] by unfold faultD; simp only; rw [if_neg (fun z => c1 z.1)]] at h
      simp -implicitDefEqProofs only [t_steps_fault, ↓XP, ↓x_ifs, ↓XU, XU, XQ, eq_self, List.reverse_cons, List.reverse_nil, Int.cast_ofNat_Int, List.length_cons, List.length_nil, List.nil_append, List.cons_append, ne_eq, Nat.reduceAdd, Nat.reduceLeDiff, Int.reduceEq, Int.reduceLT, Int.reduceLE, Int.reduceToNat, Int.reducePow, Int.reduceAdd, Int.reduceMul, Int.reduceSub, Int.reduceNeg, List.getElem?_cons_zero, List.getElem?_cons_succ, dd_is_integer, c3]
      exact h
  · exact h.elim
theorem L_need_steps : ∀ n ds Q, S_need_steps n ds Q → ds.length = ps_need_steps.length := by
  intro n ds Q h
  unfold S_need_steps at h
  split at h <;> first | exact h.elim | rfl
theorem l_need_steps : ∀ n ds Q, S_need_steps n ds Q → t_need_steps (defE Q) (startG n N_need_steps ds) := by
  intro n ds Q h
  unfold S_need_steps at h
  split at h
  · rename_i d
    show t_need_steps (defE Q) ⟨[some (.dat (d)), none], n⟩
    obtain ⟨ok, hf, h⟩ := h
    simp -implicitDefEqProofs only [t_need_steps, ↓XP, ↓x_ifs, ↓XU, XU, XQ, eq_self, List.reverse_cons, List.reverse_nil, Int.cast_ofNat_Int, List.length_cons, List.length_nil, List.nil_append, List.cons_append, ne_eq, Nat.reduceAdd, Nat.reduceLeDiff, Int.reduceEq, Int.reduceLT, Int.reduceLE, Int.reduceToNat, Int.reducePow, Int.reduceAdd, Int.reduceMul, Int.reduceSub, Int.reduceNeg, List.getElem?_cons_zero, List.getElem?_cons_succ, dd_is_integer, ok, hf]
    refine q_tt0 ?_
    simp -implicitDefEqProofs only [t_need_steps, ↓XP, ↓x_ifs, ↓XU, XU, XQ, eq_self, List.reverse_cons, List.reverse_nil, Int.cast_ofNat_Int, List.length_cons, List.length_nil, List.nil_append, List.cons_append, ne_eq, Nat.reduceAdd, Nat.reduceLeDiff, Int.reduceEq, Int.reduceLT, Int.reduceLE, Int.reduceToNat, Int.reducePow, Int.reduceAdd, Int.reduceMul, Int.reduceSub, Int.reduceNeg, List.getElem?_cons_zero, List.getElem?_cons_succ, dd_is_integer]
    exact h
  · exact h.elim
/-- the cells of a script, or 0 -/
theorem cells2 (n : Nat) {ns : List Int} (hn : 1 ≤ n) (hs : n ≤ 64) : (dSlc.cutV' (ns.map D.int ++ [D.int 0]) none (some (maxI 1 (minI (ns.length : Int) n)))).length ≤ n ∧ ∀ d ∈ dSlc.cutV' (ns.map D.int ++ [D.int 0]) none (some (maxI 1 (minI (ns.length : Int) n))), ∃ i, d = .int i := by
  obtain ⟨k, hk, hk2⟩ : ∃ k : Nat, maxI 1 (minI (ns.length : Int) n) = (k : Int) ∧ k ≤ n := ⟨(maxI 1 (minI (ns.length : Int) n)).toNat, by simp only [maxI_eq, minI_eq]; omega, by simp only [maxI_eq, minI_eq]; omega⟩
  rw [hk]
  refine ⟨?_, fun d hd => ?_⟩
  · unfold dSlc.cutV'
    rw [List.length_take]
    have e : ∀ l, HT.sIx l l (some (k : Int)) = min k l := fun l => HT.sIx_nat _ _ k
    rw [e]; omega
  · rcases List.mem_append.mp (cut_mem hd) with hd | hd
    · obtain ⟨i, _, rfl⟩ := List.mem_map.mp hd
      exact ⟨i, rfl⟩
    · exact ⟨0, List.mem_singleton.mp hd⟩
theorem add_sl {ns : List Int} {b : List D} {q : SV → Prop} : dAdd (.scr ns) (.lst b) q = (ns.length + b.length ≤ sizeLine ∧ q (.new (.lst (ns.map D.int ++ b)))) := rfl
theorem len_scr {ns : List Int} {q : SV → Prop} : dLen (.scr ns) q = q (.dat (.int ns.length)) := rfl
/-- a comprehension over pairs -/
theorem lc_prs {vs : List Nat} {g : DG} {c : DT} {e : DE} {Qe : List D → Gm → Prop} {ms : List (Int × Int)} {G : Gm} (p : Int × Int → Bool) (f : Int × Int → D) (st : ∀ m ∈ ms, ∀ (k : D → Gm → Prop) (k' : Gm → Prop), (if p m = true then k (f m) G else k' G) → lcT vs g c e (.tup [.int m.1, .int m.2]) G k k')
    (q : Qe ((ms.filter p).map f) G) : lcL vs g c e Qe (ms.map prD) [] G := by
  refine lc_map (f := fun d => if p (pairOf d) = true then some (f (pairOf d)) else none) (fun d hd k k' h => ?_) ?_
  · obtain ⟨m, hm, rfl⟩ := List.mem_map.mp hd
    refine st m hm k k' ?_
    have h : (match (if p m = true then some (f m) else none) with | some y => k y G | none => k' G) := h
    by_cases hb : p m = true
    · rw [if_pos hb]; rw [if_pos hb] at h; exact h
    · rw [if_neg hb]; rw [if_neg hb] at h; exact h
  · rw [List.nil_append]
    have e : (ms.map prD).filterMap (fun d => if p (pairOf d) = true then some (f (pairOf d)) else none) = (ms.filter p).map f := by
      clear q st
      induction ms with
      | nil => rfl
      | cons m ms ih =>
        rw [List.map_cons, List.filterMap_cons, ih]
        rw [show pairOf (prD m) = m from rfl]
        by_cases hb : p m = true
        · rw [List.filter_cons, if_pos hb, if_pos hb, List.map_cons]
        · rw [List.filter_cons, if_neg hb, if_neg hb]
    rw [e]; exact q
theorem lc_prs1 {vs : List Nat} {g : DG} {c : DT} {e : DE} {Qe : List D → Gm → Prop} {ms : List (Int × Int)} {G : Gm} (f : Int × Int → D) (st : ∀ m ∈ ms, ∀ (k : D → Gm → Prop) (k' : Gm → Prop), k (f m) G → lcT vs g c e (.tup [.int m.1, .int m.2]) G k k')
    (q : Qe (ms.map f) G) : lcL vs g c e Qe (ms.map prD) [] G := by
  refine lc_prs (fun _ => true) f (fun m hm k k' h => st m hm k k' h) ?_
  rw [List.filter_eq_self.mpr (fun _ _ => rfl)]; exact q
theorem all_prs {ms : List (Int × Int)} {f : Int × Int → Bool} {q : SV → Prop} (h : q (.dat (.bl (ms.all f)))) : dAll (.lst (ms.map fun p => D.bl (f p))) q := by
  rw [b_all (ns := ms.map f) (by rw [List.map_map]; rfl), List.all_map]
  exact h
theorem sum_map {ns : List Int} {q : SV → Prop} (h : q (.dat (.int ns.sum))) : dSum (.lst (ns.map D.int)) q := by
  show (match intsOf (ns.map D.int) with | some ns => q (.dat (.int ns.sum)) | none => False)
  rw [intsOf_map ns]
  exact h
theorem plP {ps : List (Int × Int)} : Pl 20 (.lst (ps.map fun p => D.tup [.int p.1, .int p.2])) := pl_prs2 (n := 18)
theorem q_cons {p : Int × Int} {ps : List (Int × Int)} {f : Bool → Prop} (h : f false) : eqQ (.lst (D.tup [.int p.1, .int p.2] :: ps.map fun p => D.tup [.int p.1, .int p.2])) (.lst []) f := by
  have e : eqD (.lst (D.tup [.int p.1, .int p.2] :: ps.map fun p => D.tup [.int p.1, .int p.2])) (.lst []) = false := by
    unfold eqD; simp [toPy, toPys, PyData.eqv, PyData.eqvAll]
  show Pl 20 _ ∧ Pl 20 _ ∧ f (eqD _ _)
  rw [e]
  exact ⟨plP (ps := p :: ps), fun d hd => (by cases hd), h⟩
theorem keyP_inj {p q : Int × Int} (h : keyP p = keyP q) : p = q := by
  unfold keyP at h
  have h1 := (List.cons.inj h).1
  have h2 := (List.cons.inj (List.cons.inj h).2).1
  exact Prod.ext (Sum.inl.inj h1) (Sum.inl.inj h2)
theorem dict_has : ∀ {F : List (Int × Int)} {a b : Int}, (valD (dictD F) [.inl a, .inl b]).isSome = decide ((a, b) ∈ F)
  | [], a, b => rfl
  | p :: F, a, b => by
    show (if keyP p = [.inl a, .inl b] then some (D.bl true) else valD (dictD F) [.inl a, .inl b]).isSome = _
    by_cases e : p = (a, b)
    · subst e
      rw [if_pos (show keyP (a, b) = [.inl a, .inl b] from rfl)]
      simp
    · rw [if_neg (show ¬ keyP p = [.inl a, .inl b] from fun z => e (keyP_inj (q := (a, b)) z)), dict_has]
      exact decide_eq_decide.mpr ⟨fun h => List.mem_cons_of_mem _ h, fun h => (List.mem_cons.mp h).resolve_left fun z => e z.symm⟩
theorem dict_put {F : List (Int × Int)} {a b : Int} (h : (a, b) ∉ F) : putD (dictD F) [.inl a, .inl b] (.bl true) = dictD (F ++ [(a, b)]) := by
  unfold putD
  have e : ((dictD F).any fun kv => decide (kv.1 = [.inl a, .inl b])) = false := by
    rw [List.any_eq_false]
    intro kv hk
    obtain ⟨p, hp, rfl⟩ := List.mem_map.mp hk
    simp only [decide_eq_true_eq]
    intro z
    exact h (by rw [← keyP_inj (q := (a, b)) z]; exact hp)
  rw [if_neg (by rw [e]; decide)]
  unfold dictD
  rw [List.map_append]
  rfl
theorem nodup_le : ∀ {N : Nat} {l : List Nat}, l.Nodup → (∀ x ∈ l, x < N) → l.length ≤ N
  | 0, l, _, h => by
    cases l with
    | nil => exact Nat.le_refl 0
    | cons a l => exact absurd (h a List.mem_cons_self) (Nat.not_lt_zero _)
  | N + 1, l, hn, h => by
    have h1 : (l.erase N).Nodup := hn.erase N
    have h2 : ∀ x ∈ l.erase N, x < N := fun x hx => by
      have hx2 := List.mem_of_mem_erase hx
      have := h x hx2
      have hne : x ≠ N := fun z => by
        subst z
        exact (List.Nodup.not_mem_erase hn) hx
      omega
    have h3 := nodup_le h1 h2
    have h4 : l.length ≤ (l.erase N).length + 1 := by
      by_cases hm : N ∈ l
      · rw [List.length_erase_of_mem hm]; omega
      · rw [List.erase_of_not_mem hm]; omega
    omega
theorem box_le {F : List (Int × Int)} {A lo hi : Int} (hn : F.Nodup) (h : ∀ p ∈ F, 0 ≤ p.1 ∧ p.1 ≤ A ∧ lo ≤ p.2 ∧ p.2 ≤ hi) (hA : 0 ≤ A) (hl : lo ≤ hi) : F.length ≤ ((A + 1) * (hi - lo + 1)).toNat := by
  have key : ∀ p ∈ F, 0 ≤ p.1 * (hi - lo + 1) + (p.2 - lo) ∧ p.1 * (hi - lo + 1) + (p.2 - lo) < (A + 1) * (hi - lo + 1) := fun p hp => by
    obtain ⟨h1, h2, h3, h4⟩ := h p hp
    have m1 := Int.mul_nonneg h1 (show 0 ≤ hi - lo + 1 by omega)
    have m2 := Int.mul_le_mul_of_nonneg_right h2 (show 0 ≤ hi - lo + 1 by omega)
    rw [Int.add_mul, Int.one_mul]
    omega
  have := nodup_le (N := ((A + 1) * (hi - lo + 1)).toNat) (l := F.map fun p => (p.1 * (hi - lo + 1) + (p.2 - lo)).toNat) ?_ fun x hx => ?_
  · rw [List.length_map] at this; exact this
  · rw [List.nodup_iff_pairwise_ne, List.pairwise_map]
    rw [List.nodup_iff_pairwise_ne] at hn
    refine (List.Pairwise.and_mem.mp hn).imp fun {p q} hpq e => ?_
    obtain ⟨hp, hq, hne⟩ := hpq
    have kp := key p hp
    have kq := key q hq
    obtain ⟨p1, p2, p3, p4⟩ := h p hp
    obtain ⟨q1, q2, q3, q4⟩ := h q hq
    have e2 : p.1 * (hi - lo + 1) + (p.2 - lo) = q.1 * (hi - lo + 1) + (q.2 - lo) := by omega
    refine hne ?_
    have e3 : p.1 = q.1 := by
      rcases Int.lt_trichotomy p.1 q.1 with z | z | z
      · have := Int.mul_le_mul_of_nonneg_right (show p.1 + 1 ≤ q.1 by omega) (show 0 ≤ hi - lo + 1 by omega)
        rw [Int.add_mul, Int.one_mul] at this
        omega
      · exact z
      · have := Int.mul_le_mul_of_nonneg_right (show q.1 + 1 ≤ p.1 by omega) (show 0 ≤ hi - lo + 1 by omega)
        rw [Int.add_mul, Int.one_mul] at this
        omega
    rw [e3] at e2
    exact Prod.ext e3 (by omega)
  · obtain ⟨p, hp, rfl⟩ := List.mem_map.mp hx
    have := key p hp
    omega
theorem q_ne {ws : List (Int × Int)} {f : Bool → Prop} (hne : ws ≠ []) (h : f false) : eqQ (.lst (ws.map prD)) (.lst []) f := by
  cases ws with
  | nil => exact absurd rfl hne
  | cons p ws => exact q_cons (p := p) (ps := ws) h
structure WInv (ms : List (Int × Int)) (A lo hi : Int) (F ws : List (Int × Int)) : Prop where
  nd : F.Nodup
  rc : ∀ p ∈ F, Reach ms A lo hi p ∧ 0 ≤ p.1 ∧ p.1 ≤ A ∧ lo ≤ p.2 ∧ p.2 ≤ hi
  z : (0, 0) ∈ F
  wf : ∀ p ∈ ws, p ∈ F
  le : ws.length ≤ F.length
def ClosedAt (ms : List (Int × Int)) (A lo hi : Int) (F : List (Int × Int)) (p : Int × Int) (l : List (Int × Int)) : Prop := ∀ s ∈ l, p.1 + s.1 ≤ A → lo ≤ p.2 + s.2 → p.2 + s.2 ≤ hi → (p.1 + s.1, p.2 + s.2) ∈ F
theorem WInv.size {ms : List (Int × Int)} {A lo hi : Int} {F ws : List (Int × Int)} (h : WInv ms A lo hi F ws) (hA : 0 ≤ A) (hl : lo ≤ hi) : F.length ≤ ((A + 1) * (hi - lo + 1)).toNat := box_le h.nd (fun p hp => (h.rc p hp).2) hA hl
theorem WInv.fin {ms : List (Int × Int)} {A lo hi : Int} {F : List (Int × Int)} (h : WInv ms A lo hi F []) (c : ∀ p ∈ F, ClosedAt ms A lo hi F p ms) (p : Int × Int) : p ∈ F ↔ Reach ms A lo hi p := by
  refine ⟨fun hp => (h.rc p hp).1, fun hr => ?_⟩
  induction hr with
  | zero => exact h.z
  | step _ hs h1 h2 h3 ih => exact c _ ih _ hs h1 h2 h3
theorem insE_mem {F : List (Int × Int)} {p q : Int × Int} : q ∈ insE F p ↔ q ∈ F ∨ q = p := by
  unfold insE
  split
  · rename_i h
    exact ⟨.inl, fun z => z.elim id fun z => by subst z; exact h⟩
  · rw [List.mem_append, List.mem_singleton]
theorem insE_nodup {F : List (Int × Int)} {p : Int × Int} (h : F.Nodup) : (insE F p).Nodup := by
  unfold insE
  split
  · exact h
  · rename_i n
    rw [List.nodup_append]
    refine ⟨h, by simp, fun x hx y hy => ?_⟩
    rw [List.mem_singleton] at hy
    rintro rfl
    rw [hy] at hx
    exact n hx
theorem insE_len {F : List (Int × Int)} {p : Int × Int} : F.length ≤ (insE F p).length ∧ (insE F p).length ≤ F.length + 1 := by
  unfold insE
  split
  · omega
  · rw [List.length_append, List.length_singleton]; omega
theorem insAll_mem : ∀ {L F : List (Int × Int)} {q : Int × Int}, q ∈ insAll F L ↔ q ∈ F ∨ q ∈ L
  | [], F, q => by simp [insAll]
  | p :: L, F, q => by
    show q ∈ insAll (insE F p) L ↔ _
    rw [insAll_mem, insE_mem, List.mem_cons, or_assoc]
theorem insAll_nodup : ∀ {L F : List (Int × Int)}, F.Nodup → (insAll F L).Nodup
  | [], F, h => h
  | p :: L, F, h => insAll_nodup (L := L) (insE_nodup h)
theorem insAll_len : ∀ {L F : List (Int × Int)}, F.length ≤ (insAll F L).length ∧ (insAll F L).length ≤ F.length + L.length
  | [], F => ⟨Nat.le_refl _, Nat.le_refl _⟩
  | p :: L, F => by
    have h1 := insAll_len (L := L) (F := insE F p)
    have h2 := insE_len (F := F) (p := p)
    show F.length ≤ (insAll (insE F p) L).length ∧ (insAll (insE F p) L).length ≤ _
    rw [List.length_cons]
    omega
theorem dict_any {F : List (Int × Int)} {a b : Int} : ((dictD F).any fun kv => decide (kv.1 = [.inl a, .inl b])) = decide ((a, b) ∈ F) := by
  rw [Bool.eq_iff_iff, List.any_eq_true, decide_eq_true_iff]
  constructor
  · rintro ⟨kv, hk, e⟩
    obtain ⟨p, hp, rfl⟩ := List.mem_map.mp hk
    rw [← keyP_inj (p := p) (q := (a, b)) (of_decide_eq_true e)]
    exact hp
  · intro h
    exact ⟨_, List.mem_map.mpr ⟨(a, b), h, rfl⟩, decide_eq_true rfl⟩
theorem dict_set {F : List (Int × Int)} {a b : Int} : putD (dictD F) [.inl a, .inl b] (.bl true) = dictD (insE F (a, b)) := by
  by_cases h : (a, b) ∈ F
  · unfold putD insE
    rw [dict_any, decide_eq_true h, if_pos rfl, if_pos h]
    unfold dictD
    rw [List.map_map]
    refine List.map_congr_left fun p _ => ?_
    show (if keyP p = [.inl a, .inl b] then (keyP p, D.bl true) else (keyP p, D.bl true)) = _
    split <;> rfl
  · rw [dict_put h]
    unfold insE
    rw [if_neg h]
theorem keysT_dictD {F : List (Int × Int)} : keysT (dictD F) = F.map prD := by
  unfold keysT dictD
  rw [List.map_map]
  rfl
theorem len_dictD {F : List (Int × Int)} : (dictD F).length = F.length := List.length_map ..
theorem sort_set {F qs : List (Int × Int)} (hn : F.Nodup) (hp : qs.Perm F) (hs : qs.Pairwise prLe) : SortSet (· ∈ F) qs := by
  refine ⟨?_, fun p => hp.mem_iff⟩
  have h2 := List.nodup_iff_pairwise_ne.mp (hp.nodup_iff.mpr hn)
  refine (hs.and h2).imp fun {a b} h => ?_
  obtain ⟨h1, h2⟩ := h
  unfold prLe at h1
  unfold prLt
  rcases h1 with h1 | ⟨h1, h3⟩
  · exact .inl h1
  · refine .inr ⟨h1, ?_⟩
    have : a.2 ≠ b.2 := fun e => h2 (Prod.ext h1 e)
    omega
theorem SortSet.nodup {S : Int × Int → Prop} {qs : List (Int × Int)} (h : SortSet S qs) : qs.Nodup := List.nodup_iff_pairwise_ne.mpr (h.1.imp prLt_ne)
theorem SortSet.unique {S S' : Int × Int → Prop} {as bs : List (Int × Int)} (h : SortSet S as) (h' : SortSet S' bs) (e : ∀ p, S p ↔ S' p) : as = bs := by
  refine sorted_eq ((List.perm_ext_iff_of_nodup h.nodup h'.nodup).mpr fun p => (h.2 p).trans ((e p).trans (h'.2 p).symm)) (h.1.imp fun h => ?_) h'.1
  rcases h with h | h
  · exact .inl h
  · exact .inr ⟨h.1, by omega⟩
theorem SortSet.imp {S S' : Int × Int → Prop} {as : List (Int × Int)} (h : SortSet S as) (e : ∀ p, S p ↔ S' p) : SortSet S' as := ⟨h.1, fun p => (h.2 p).trans (e p)⟩
theorem nodup_sub {α : Type} [DecidableEq α] : ∀ {A B : List α}, A.Nodup → (∀ x ∈ A, x ∈ B) → A.length ≤ B.length
  | [], _, _, _ => Nat.zero_le _
  | x :: A, B, hn, h => by
    have hx := h x List.mem_cons_self
    obtain ⟨h1, h2⟩ := List.nodup_cons.mp hn
    have ih := nodup_sub (A := A) (B := B.erase x) h2 fun y hy => by
      have hne : y ≠ x := fun z => h1 (by rw [← z]; exact hy)
      exact (List.mem_erase_of_ne hne).mpr (h y (List.mem_cons_of_mem _ hy))
    rw [List.length_erase_of_mem hx] at ih
    have := List.length_pos_of_mem hx
    rw [List.length_cons]
    omega
theorem boxB_iff {r c : Int} {p : Int × Int} : boxB r c p = true ↔ inB r c p.1 p.2 := by
  unfold boxB inB
  simp only [Bool.and_eq_true, decide_eq_true_eq]
  constructor
  · rintro ⟨⟨a, b⟩, c, d⟩; exact ⟨a, b, c, d⟩
  · rintro ⟨a, b, c, d⟩; exact ⟨⟨a, b⟩, c, d⟩
theorem standB_iff {ms F : List (Int × Int)} {r c : Int} {p : Int × Int} : standB ms r c F p = true ↔ inB r c p.1 p.2 ∧ p ∉ F ∧ ∀ q, SrcP ms r c p q → q ∈ F := by
  unfold standB SrcP
  simp only [Bool.and_eq_true, Bool.not_eq_true', decide_eq_false_iff_not, List.all_eq_true, Bool.or_eq_true, decide_eq_true_eq]
  rw [boxB_iff]
  constructor
  · rintro ⟨h1, h2, h3⟩
    refine ⟨h1, h2, ?_⟩
    rintro q ⟨hq, s, hs, rfl⟩
    rcases h3 s hs with h | h
    · rw [boxB_iff.mpr hq] at h; cases h
    · exact h
  · rintro ⟨h1, h2, h3⟩
    refine ⟨h1, h2, fun s hs => ?_⟩
    cases e : boxB r c (p.1 - s.1, p.2 - s.2) with
    | false => exact .inl rfl
    | true => exact .inr (h3 _ ⟨boxB_iff.mp e, s, hs, rfl⟩)
theorem subs_nodup {ms : List (Int × Int)} {x y : Int} (h : ms.Nodup) : (ms.map fun s => (x - s.1, y - s.2)).Nodup := by
  rw [List.nodup_iff_pairwise_ne, List.pairwise_map]
  refine (List.nodup_iff_pairwise_ne.mp h).imp fun {a b} hne e => hne ?_
  have e1 := (Prod.mk.inj e).1
  have e2 := (Prod.mk.inj e).2
  exact Prod.ext (by omega) (by omega)
theorem adds_nodup {ms : List (Int × Int)} {x y : Int} (h : ms.Nodup) : (ms.map fun s => (x + s.1, y + s.2)).Nodup := by
  rw [List.nodup_iff_pairwise_ne, List.pairwise_map]
  refine (List.nodup_iff_pairwise_ne.mp h).imp fun {a b} hne e => hne ?_
  have e1 := (Prod.mk.inj e).1
  have e2 := (Prod.mk.inj e).2
  exact Prod.ext (by omega) (by omega)
theorem src_sort {ms qs : List (Int × Int)} {r c x y : Int} (hs : StepsOk ms) (h1 : qs.Perm ((ms.map fun s => (x - s.1, y - s.2)).filter (boxB r c))) (h2 : qs.Pairwise prLe) : SortSet (SrcP ms r c (x, y)) qs := by
  refine (sort_set ((subs_nodup hs.2.2.2).sublist List.filter_sublist) h1 h2).imp fun p => ?_
  rw [List.mem_filter, List.mem_map, boxB_iff]
  exact ⟨fun ⟨⟨s, h, e⟩, b⟩ => ⟨b, s, h, e.symm⟩, fun ⟨b, s, h, e⟩ => ⟨⟨s, h, e.symm⟩, b⟩⟩
theorem red_sort {ms qs : List (Int × Int)} {r c x y : Int} (hs : StepsOk ms) (h1 : qs.Perm ((ms.map fun s => (x + s.1, y + s.2)).filter (boxB r c))) (h2 : qs.Pairwise prLe) : SortSet (RedP ms r c (x, y)) qs := by
  refine (sort_set ((adds_nodup hs.2.2.2).sublist List.filter_sublist) h1 h2).imp fun p => ?_
  rw [List.mem_filter, List.mem_map, boxB_iff]
  exact ⟨fun ⟨⟨s, h, e⟩, b⟩ => ⟨b, s, h, e.symm⟩, fun ⟨b, s, h, e⟩ => ⟨⟨s, h, e.symm⟩, b⟩⟩
theorem src_len {ms qs : List (Int × Int)} {r c : Int} {p : Int × Int} (hs : StepsOk ms) (h : SortSet (SrcP ms r c p) qs) : qs.length ≤ 4 := by
  have := nodup_sub (B := ms.map fun s => (p.1 - s.1, p.2 - s.2)) h.nodup fun q hq => by
    obtain ⟨_, s, hs2, e⟩ := (h.2 q).mp hq
    exact List.mem_map.mpr ⟨s, hs2, e.symm⟩
  rw [List.length_map] at this
  exact Nat.le_trans this hs.2.1
theorem red_len {ms qs : List (Int × Int)} {r c : Int} {p : Int × Int} (hs : StepsOk ms) (h : SortSet (RedP ms r c p) qs) : qs.length ≤ 4 := by
  have := nodup_sub (B := ms.map fun s => (p.1 + s.1, p.2 + s.2)) h.nodup fun q hq => by
    obtain ⟨_, s, hs2, e⟩ := (h.2 q).mp hq
    exact List.mem_map.mpr ⟨s, hs2, e.symm⟩
  rw [List.length_map] at this
  exact Nat.le_trans this hs.2.1
theorem valD_put {es : List (List Key × D)} {k k' : List Key} {v : D} : valD (putD es k v) k' = if k' = k then some v else valD es k' := by
  have hv : ∀ (es : List (List Key × D)), valD (es ++ [(k, v)]) k' = match valD es k' with | some d => some d | none => if k = k' then some v else none := by
    intro es
    induction es with
    | nil => simp [valD]
    | cons e es ih =>
      obtain ⟨q, d⟩ := e
      rw [List.cons_append]
      by_cases c : q = k'
      · simp [valD, c]
      · rw [show valD ((q, d) :: (es ++ [(k, v)])) k' = valD (es ++ [(k, v)]) k' by simp [valD, c], show valD ((q, d) :: es) k' = valD es k' by simp [valD, c], ih]
  have hm : ∀ (es : List (List Key × D)), valD (es.map fun kv => if kv.1 = k then (kv.1, v) else kv) k' = match valD es k' with | some d => if k' = k then some v else some d | none => none := by
    intro es
    induction es with
    | nil => simp [valD]
    | cons e es ih =>
      obtain ⟨q, d⟩ := e
      rw [List.map_cons]
      by_cases c : q = k'
      · subst c
        by_cases c2 : q = k
        · simp [valD, c2]
        · simp [valD, c2]
      · by_cases c2 : q = k
        · simp only [c2, if_true]
          rw [show valD ((k, v) :: _) k' = valD (es.map fun kv => if kv.1 = k then (kv.1, v) else kv) k' by rw [c2] at c; simp [valD, c], ih, show valD ((k, d) :: es) k' = valD es k' by rw [c2] at c; simp [valD, c]]
        · simp only [c2, if_false]
          rw [show valD ((q, d) :: _) k' = valD (es.map fun kv => if kv.1 = k then (kv.1, v) else kv) k' by simp [valD, c], ih, show valD ((q, d) :: es) k' = valD es k' by simp [valD, c]]
  have hk : ∀ (es : List (List Key × D)), (es.any fun kv => decide (kv.1 = k)) = (valD es k).isSome := by
    intro es
    induction es with
    | nil => rfl
    | cons e es ih =>
      obtain ⟨q, d⟩ := e
      rw [List.any_cons, ih]
      by_cases c : q = k
      · simp [valD, c]
      · simp [valD, c]
  unfold putD
  split
  · rename_i h
    rw [hk] at h
    rw [hm]
    by_cases c : k' = k
    · subst c
      rw [if_pos rfl]
      cases e : valD es k' with
      | none => rw [e] at h; cases h
      | some d => simp
    · rw [if_neg c]
      cases valD es k' <;> simp [c]
  · rename_i h
    rw [hk] at h
    rw [hv]
    by_cases c : k' = k
    · subst c
      rw [if_pos rfl]
      cases e : valD es k' with
      | none => simp
      | some d => rw [e] at h; exact absurd rfl h
    · rw [if_neg c]
      have c' : ¬ k = k' := fun z => c z.symm
      cases valD es k' <;> simp [c']
theorem put_len {es : List (List Key × D)} {k : List Key} {v : D} : (putD es k v).length ≤ es.length + 1 := by
  unfold putD
  split
  · rw [List.length_map]; omega
  · rw [List.length_append, List.length_singleton]; omega
theorem HasKeys.nil : HasKeys [] [] := fun a b => by simp [valD]
theorem HasKeys.put {es : List (List Key × D)} {F : List (Int × Int)} {a b : Int} {v : D} (h : HasKeys es F) : HasKeys (putD es [.inl a, .inl b] v) (F ++ [(a, b)]) := fun x y => by
  rw [valD_put]
  by_cases c : x = a ∧ y = b
  · obtain ⟨rfl, rfl⟩ := c
    simp
  · rw [if_neg (by intro z; exact c ⟨Sum.inl.inj (List.cons.inj z).1, Sum.inl.inj (List.cons.inj (List.cons.inj z).2).1⟩), h x y]
    refine decide_eq_decide.mpr ⟨fun z => List.mem_append_left _ z, fun z => ?_⟩
    rcases List.mem_append.mp z with z | z
    · exact z
    · rw [List.mem_singleton] at z
      exact absurd ⟨(Prod.mk.inj z).1, (Prod.mk.inj z).2⟩ c
theorem legal_fault {ms : List (Int × Int)} {r c : Int} : ∀ {L F : List (Int × Int)}, LegalF ms r c F L → faultLs ms r c F (L.map prD) = .tup []
  | [], _, _ => rfl
  | p :: L, F, h => by
    rw [List.map_cons, faultLs, if_pos (show pairD (prD p) = true from pairD_p), show pairOf (prD p) = p from rfl, if_pos h.1]
    exact legal_fault h.2
theorem ok_prs {L : List (Int × Int)} : okL (.lst (L.map prD)) = true := by
  show (L.map prD).all okE = true
  rw [List.all_eq_true]
  intro d hd
  obtain ⟨p, _, rfl⟩ := List.mem_map.mp hd
  rfl
theorem legal_ok {ms L : List (Int × Int)} {r c : Int} (h : LegalF ms r c [] L) (hl : L.length ≤ 400) : okL (.lst (L.map prD)) = true ∧ faultLD ms r c (.lst (L.map prD)) = .tup [] := by
  refine ⟨ok_prs, ?_⟩
  show (if (L.map prD).length ≤ 400 then faultLs ms r c [] (L.map prD) else .tup [.non]) = _
  rw [if_pos (by rw [List.length_map]; exact hl)]
  exact legal_fault h
theorem minp_of {ps : List (Int × Int)} {q : SV → Prop} (h0 : 0 < ps.length) (h : ∀ m, m ∈ ps → (∀ q ∈ ps, prLe m q) → q (.dat (prD m))) : dMinP (.lst (ps.map prD)) q := by
  show (match prsOf (ps.map prD) with | some ps => 0 < ps.length ∧ ∀ m : Int × Int, m ∈ ps → (∀ q ∈ ps, prLe m q) → q (.dat (prD m)) | none => False)
  rw [prsOf_map]
  exact ⟨h0, h⟩
theorem prLe_anti {p q : Int × Int} (h1 : prLe p q) (h2 : prLe q p) : p = q := by
  unfold prLe at h1 h2
  exact Prod.ext (by omega) (by omega)
theorem BreakP.unique {ms : List (Int × Int)} {v : Int × Int} {r c : Int} : ∀ {L F : List (Int × Int)} {o o' : Option (Int × (Int × Int))}, BreakP ms v r c F L o → BreakP ms v r c F L o' → o = o'
  | [], _, _, _, h, h' => (show _ = none from h).trans (show _ = none from h').symm
  | p :: L, F, o, o', h, h' => by
    rcases h with ⟨⟨x, x1, x2⟩, q, a1, a2, a3, rfl⟩ | ⟨a1, a2⟩
    · rcases h' with ⟨_, q', b1, b2, b3, rfl⟩ | ⟨b1, b2⟩
      · rw [prLe_anti (a3 q' b1 b2) (b3 q a1 a2)]
      · exact absurd (b1 x x1) x2
    · rcases h' with ⟨⟨x, x1, x2⟩, _⟩ | ⟨b1, b2⟩
      · exact absurd (a1 x x1) x2
      · exact BreakP.unique a2 b2
theorem L_sources_of : ∀ n ds Q, S_sources_of n ds Q → ds.length = ps_sources_of.length := by
  intro n ds Q h
  unfold S_sources_of at h
  split at h <;> first | exact h.elim | rfl
theorem l_sources_of : ∀ n ds Q, S_sources_of n ds Q → t_sources_of (defE Q) (startG n N_sources_of ds) := by
  intro n ds Q h
  unfold S_sources_of at h
  split at h
  · rename_i ds r c x y
    show t_sources_of (defE Q) ⟨[some (.dat (.lst ds)), some (.dat (.int r)), some (.dat (.int c)), some (.dat (.tup [.int x, .int y])), none, none, none], n⟩
    obtain ⟨ms, rfl, hs, h⟩ := h
    have LN : ∀ L : List (Int × Int), L.length ≤ 4 → (L.map prD).length ≤ sizeLine := fun L hl => by rw [List.length_map]; exact Nat.le_trans hl (by decide)
    simp -implicitDefEqProofs only [t_sources_of, ↓XP, ↓x_ifs, ↓XU, XU, XQ, eq_self, List.reverse_cons, List.reverse_nil, Int.cast_ofNat_Int, List.length_cons, List.length_nil, List.nil_append, List.cons_append, ne_eq, Nat.reduceAdd, Nat.reduceLeDiff, Int.reduceEq, Int.reduceLT, Int.reduceLE, Int.reduceToNat, Int.reducePow, Int.reduceAdd, Int.reduceMul, Int.reduceSub, Int.reduceNeg, List.getElem?_cons_zero, List.getElem?_cons_succ, dd_is_integer]
    refine ⟨LN ms hs.2.1, ?_⟩
    refine lc_prs1 (fun s => .tup [.int (x - s.1), .int (y - s.2)]) (fun m hm k k' q => ?_) ?_
    · simp -implicitDefEqProofs only [t_sources_of, ↓XP, ↓x_ifs, ↓XU, XU, XQ, eq_self, List.reverse_cons, List.reverse_nil, Int.cast_ofNat_Int, List.length_cons, List.length_nil, List.nil_append, List.cons_append, ne_eq, Nat.reduceAdd, Nat.reduceLeDiff, Int.reduceEq, Int.reduceLT, Int.reduceLE, Int.reduceToNat, Int.reducePow, Int.reduceAdd, Int.reduceMul, Int.reduceSub, Int.reduceNeg, List.getElem?_cons_zero, List.getElem?_cons_succ, dd_is_integer]
      exact q
    simp -implicitDefEqProofs only [t_sources_of, ↓XP, ↓x_ifs, ↓XU, XU, XQ, eq_self, List.reverse_cons, List.reverse_nil, Int.cast_ofNat_Int, List.length_cons, List.length_nil, List.nil_append, List.cons_append, ne_eq, Nat.reduceAdd, Nat.reduceLeDiff, Int.reduceEq, Int.reduceLT, Int.reduceLE, Int.reduceToNat, Int.reducePow, Int.reduceAdd, Int.reduceMul, Int.reduceSub, Int.reduceNeg, List.getElem?_cons_zero, List.getElem?_cons_succ, dd_is_integer]
    rw [show (ms.map fun s => D.tup [.int (x - s.1), .int (y - s.2)]) = (ms.map fun s => (x - s.1, y - s.2)).map prD by rw [List.map_map]; rfl]
    refine ⟨LN _ (by rw [List.length_map]; exact hs.2.1), ?_⟩
    refine lc_prs (boxB r c) prD (fun m hm k k' q => ?_) ?_
    · unfold boxB at q
      cases e : (decide (0 ≤ m.1) && decide (m.1 < r) && (decide (0 ≤ m.2) && decide (m.2 < c))) with
      | true => rw [e] at q; simp -implicitDefEqProofs only [t_sources_of, ↓XP, ↓x_ifs, ↓XU, XU, XQ, eq_self, List.reverse_cons, List.reverse_nil, Int.cast_ofNat_Int, List.length_cons, List.length_nil, List.nil_append, List.cons_append, ne_eq, Nat.reduceAdd, Nat.reduceLeDiff, Int.reduceEq, Int.reduceLT, Int.reduceLE, Int.reduceToNat, Int.reducePow, Int.reduceAdd, Int.reduceMul, Int.reduceSub, Int.reduceNeg, List.getElem?_cons_zero, List.getElem?_cons_succ, dd_is_integer, e]; exact q
      | false => rw [e] at q; simp -implicitDefEqProofs only [t_sources_of, ↓XP, ↓x_ifs, ↓XU, XU, XQ, eq_self, List.reverse_cons, List.reverse_nil, Int.cast_ofNat_Int, List.length_cons, List.length_nil, List.nil_append, List.cons_append, ne_eq, Nat.reduceAdd, Nat.reduceLeDiff, Int.reduceEq, Int.reduceLT, Int.reduceLE, Int.reduceToNat, Int.reducePow, Int.reduceAdd, Int.reduceMul, Int.reduceSub, Int.reduceNeg, List.getElem?_cons_zero, List.getElem?_cons_succ, dd_is_integer, e]; exact q
    simp -implicitDefEqProofs only [t_sources_of, ↓XP, ↓x_ifs, ↓XU, XU, XQ, eq_self, List.reverse_cons, List.reverse_nil, Int.cast_ofNat_Int, List.length_cons, List.length_nil, List.nil_append, List.cons_append, ne_eq, Nat.reduceAdd, Nat.reduceLeDiff, Int.reduceEq, Int.reduceLT, Int.reduceLE, Int.reduceToNat, Int.reducePow, Int.reduceAdd, Int.reduceMul, Int.reduceSub, Int.reduceNeg, List.getElem?_cons_zero, List.getElem?_cons_succ, dd_is_integer]
    refine so_prs fun qs h1 h2 => ?_
    simp -implicitDefEqProofs only [t_sources_of, ↓XP, ↓x_ifs, ↓XU, XU, XQ, eq_self, List.reverse_cons, List.reverse_nil, Int.cast_ofNat_Int, List.length_cons, List.length_nil, List.nil_append, List.cons_append, ne_eq, Nat.reduceAdd, Nat.reduceLeDiff, Int.reduceEq, Int.reduceLT, Int.reduceLE, Int.reduceToNat, Int.reducePow, Int.reduceAdd, Int.reduceMul, Int.reduceSub, Int.reduceNeg, List.getElem?_cons_zero, List.getElem?_cons_succ, dd_is_integer]
    exact h qs (src_sort hs h1 h2)
  · exact h.elim
theorem L__law_behind : ∀ n ds Q, S__law_behind n ds Q → ds.length = ps__law_behind.length := by
  intro n ds Q h
  unfold S__law_behind at h
  split at h <;> first | exact h.elim | rfl
theorem l__law_behind : ∀ n ds Q, S__law_behind n ds Q → t__law_behind (defE Q) (startG n N__law_behind ds) := by
  intro n ds Q h
  unfold S__law_behind at h
  split at h
  · rename_i ds x y r c
    show t__law_behind (defE Q) ⟨[some (.dat (.lst ds)), some (.dat (.tup [.int x, .int y])), some (.dat (.int r)), some (.dat (.int c)), none, none, none, none], n⟩
    obtain ⟨ms, rfl, hs, h⟩ := h
    have LN : ∀ L : List (Int × Int), L.length ≤ 4 → (L.map prD).length ≤ sizeLine := fun L hl => by rw [List.length_map]; exact Nat.le_trans hl (by decide)
    simp -implicitDefEqProofs only [t__law_behind, ↓XP, ↓x_ifs, ↓XU, XU, XQ, eq_self, List.reverse_cons, List.reverse_nil, Int.cast_ofNat_Int, List.length_cons, List.length_nil, List.nil_append, List.cons_append, ne_eq, Nat.reduceAdd, Nat.reduceLeDiff, Int.reduceEq, Int.reduceLT, Int.reduceLE, Int.reduceToNat, Int.reducePow, Int.reduceAdd, Int.reduceMul, Int.reduceSub, Int.reduceNeg, List.getElem?_cons_zero, List.getElem?_cons_succ, dd_is_integer]
    refine ⟨LN ms hs.2.1, ?_⟩
    refine lc_prs1 (fun s => .tup [.int (x - s.1), .int (y - s.2)]) (fun m hm k k' q => ?_) ?_
    · simp -implicitDefEqProofs only [t__law_behind, ↓XP, ↓x_ifs, ↓XU, XU, XQ, eq_self, List.reverse_cons, List.reverse_nil, Int.cast_ofNat_Int, List.length_cons, List.length_nil, List.nil_append, List.cons_append, ne_eq, Nat.reduceAdd, Nat.reduceLeDiff, Int.reduceEq, Int.reduceLT, Int.reduceLE, Int.reduceToNat, Int.reducePow, Int.reduceAdd, Int.reduceMul, Int.reduceSub, Int.reduceNeg, List.getElem?_cons_zero, List.getElem?_cons_succ, dd_is_integer]
      exact q
    simp -implicitDefEqProofs only [t__law_behind, ↓XP, ↓x_ifs, ↓XU, XU, XQ, eq_self, List.reverse_cons, List.reverse_nil, Int.cast_ofNat_Int, List.length_cons, List.length_nil, List.nil_append, List.cons_append, ne_eq, Nat.reduceAdd, Nat.reduceLeDiff, Int.reduceEq, Int.reduceLT, Int.reduceLE, Int.reduceToNat, Int.reducePow, Int.reduceAdd, Int.reduceMul, Int.reduceSub, Int.reduceNeg, List.getElem?_cons_zero, List.getElem?_cons_succ, dd_is_integer]
    rw [show (ms.map fun s => D.tup [.int (x - s.1), .int (y - s.2)]) = (ms.map fun s => (x - s.1, y - s.2)).map prD by rw [List.map_map]; rfl]
    refine ⟨LN _ (by rw [List.length_map]; exact hs.2.1), ?_⟩
    refine lc_prs (boxB r c) prD (fun m hm k k' q => ?_) ?_
    · by_cases c1 : 0 ≤ m.1
      · by_cases c2 : m.1 < r
        · by_cases c3 : 0 ≤ m.2
          · by_cases c4 : m.2 < c
            · rw [if_pos (boxB_iff.mpr ⟨c1, c2, c3, c4⟩)] at q
              simp -implicitDefEqProofs only [t__law_behind, ↓XP, ↓x_ifs, ↓XU, XU, XQ, eq_self, List.reverse_cons, List.reverse_nil, Int.cast_ofNat_Int, List.length_cons, List.length_nil, List.nil_append, List.cons_append, ne_eq, Nat.reduceAdd, Nat.reduceLeDiff, Int.reduceEq, Int.reduceLT, Int.reduceLE, Int.reduceToNat, Int.reducePow, Int.reduceAdd, Int.reduceMul, Int.reduceSub, Int.reduceNeg, List.getElem?_cons_zero, List.getElem?_cons_succ, dd_is_integer, c1, c2, c3, c4]
              exact q
            · rw [if_neg (by rw [boxB_iff]; exact fun z => c4 z.2.2.2)] at q
              simp -implicitDefEqProofs only [t__law_behind, ↓XP, ↓x_ifs, ↓XU, XU, XQ, eq_self, List.reverse_cons, List.reverse_nil, Int.cast_ofNat_Int, List.length_cons, List.length_nil, List.nil_append, List.cons_append, ne_eq, Nat.reduceAdd, Nat.reduceLeDiff, Int.reduceEq, Int.reduceLT, Int.reduceLE, Int.reduceToNat, Int.reducePow, Int.reduceAdd, Int.reduceMul, Int.reduceSub, Int.reduceNeg, List.getElem?_cons_zero, List.getElem?_cons_succ, dd_is_integer, c1, c2, c3, c4]
              exact q
          · rw [if_neg (by rw [boxB_iff]; exact fun z => c3 z.2.2.1)] at q
            simp -implicitDefEqProofs only [t__law_behind, ↓XP, ↓x_ifs, ↓XU, XU, XQ, eq_self, List.reverse_cons, List.reverse_nil, Int.cast_ofNat_Int, List.length_cons, List.length_nil, List.nil_append, List.cons_append, ne_eq, Nat.reduceAdd, Nat.reduceLeDiff, Int.reduceEq, Int.reduceLT, Int.reduceLE, Int.reduceToNat, Int.reducePow, Int.reduceAdd, Int.reduceMul, Int.reduceSub, Int.reduceNeg, List.getElem?_cons_zero, List.getElem?_cons_succ, dd_is_integer, c1, c2, c3]
            exact q
        · rw [if_neg (by rw [boxB_iff]; exact fun z => c2 z.2.1)] at q
          simp -implicitDefEqProofs only [t__law_behind, ↓XP, ↓x_ifs, ↓XU, XU, XQ, eq_self, List.reverse_cons, List.reverse_nil, Int.cast_ofNat_Int, List.length_cons, List.length_nil, List.nil_append, List.cons_append, ne_eq, Nat.reduceAdd, Nat.reduceLeDiff, Int.reduceEq, Int.reduceLT, Int.reduceLE, Int.reduceToNat, Int.reducePow, Int.reduceAdd, Int.reduceMul, Int.reduceSub, Int.reduceNeg, List.getElem?_cons_zero, List.getElem?_cons_succ, dd_is_integer, c1, c2]
          exact q
      · rw [if_neg (by rw [boxB_iff]; exact fun z => c1 z.1)] at q
        simp -implicitDefEqProofs only [t__law_behind, ↓XP, ↓x_ifs, ↓XU, XU, XQ, eq_self, List.reverse_cons, List.reverse_nil, Int.cast_ofNat_Int, List.length_cons, List.length_nil, List.nil_append, List.cons_append, ne_eq, Nat.reduceAdd, Nat.reduceLeDiff, Int.reduceEq, Int.reduceLT, Int.reduceLE, Int.reduceToNat, Int.reducePow, Int.reduceAdd, Int.reduceMul, Int.reduceSub, Int.reduceNeg, List.getElem?_cons_zero, List.getElem?_cons_succ, dd_is_integer, c1]
        exact q
    simp -implicitDefEqProofs only [t__law_behind, ↓XP, ↓x_ifs, ↓XU, XU, XQ, eq_self, List.reverse_cons, List.reverse_nil, Int.cast_ofNat_Int, List.length_cons, List.length_nil, List.nil_append, List.cons_append, ne_eq, Nat.reduceAdd, Nat.reduceLeDiff, Int.reduceEq, Int.reduceLT, Int.reduceLE, Int.reduceToNat, Int.reducePow, Int.reduceAdd, Int.reduceMul, Int.reduceSub, Int.reduceNeg, List.getElem?_cons_zero, List.getElem?_cons_succ, dd_is_integer]
    refine so_prs fun qs h1 h2 => ?_
    simp -implicitDefEqProofs only [t__law_behind, ↓XP, ↓x_ifs, ↓XU, XU, XQ, eq_self, List.reverse_cons, List.reverse_nil, Int.cast_ofNat_Int, List.length_cons, List.length_nil, List.nil_append, List.cons_append, ne_eq, Nat.reduceAdd, Nat.reduceLeDiff, Int.reduceEq, Int.reduceLT, Int.reduceLE, Int.reduceToNat, Int.reducePow, Int.reduceAdd, Int.reduceMul, Int.reduceSub, Int.reduceNeg, List.getElem?_cons_zero, List.getElem?_cons_succ, dd_is_integer]
    exact h qs (src_sort hs h1 h2)
  · exact h.elim
theorem L__law_ahead : ∀ n ds Q, S__law_ahead n ds Q → ds.length = ps__law_ahead.length := by
  intro n ds Q h
  unfold S__law_ahead at h
  split at h <;> first | exact h.elim | rfl
theorem l__law_ahead : ∀ n ds Q, S__law_ahead n ds Q → t__law_ahead (defE Q) (startG n N__law_ahead ds) := by
  intro n ds Q h
  unfold S__law_ahead at h
  split at h
  · rename_i ds x y r c
    show t__law_ahead (defE Q) ⟨[some (.dat (.lst ds)), some (.dat (.tup [.int x, .int y])), some (.dat (.int r)), some (.dat (.int c)), none, none, none, none], n⟩
    obtain ⟨ms, rfl, hs, h⟩ := h
    have LN : ∀ L : List (Int × Int), L.length ≤ 4 → (L.map prD).length ≤ sizeLine := fun L hl => by rw [List.length_map]; exact Nat.le_trans hl (by decide)
    simp -implicitDefEqProofs only [t__law_ahead, ↓XP, ↓x_ifs, ↓XU, XU, XQ, eq_self, List.reverse_cons, List.reverse_nil, Int.cast_ofNat_Int, List.length_cons, List.length_nil, List.nil_append, List.cons_append, ne_eq, Nat.reduceAdd, Nat.reduceLeDiff, Int.reduceEq, Int.reduceLT, Int.reduceLE, Int.reduceToNat, Int.reducePow, Int.reduceAdd, Int.reduceMul, Int.reduceSub, Int.reduceNeg, List.getElem?_cons_zero, List.getElem?_cons_succ, dd_is_integer]
    refine ⟨LN ms hs.2.1, ?_⟩
    refine lc_prs1 (fun s => .tup [.int (x + s.1), .int (y + s.2)]) (fun m hm k k' q => ?_) ?_
    · simp -implicitDefEqProofs only [t__law_ahead, ↓XP, ↓x_ifs, ↓XU, XU, XQ, eq_self, List.reverse_cons, List.reverse_nil, Int.cast_ofNat_Int, List.length_cons, List.length_nil, List.nil_append, List.cons_append, ne_eq, Nat.reduceAdd, Nat.reduceLeDiff, Int.reduceEq, Int.reduceLT, Int.reduceLE, Int.reduceToNat, Int.reducePow, Int.reduceAdd, Int.reduceMul, Int.reduceSub, Int.reduceNeg, List.getElem?_cons_zero, List.getElem?_cons_succ, dd_is_integer]
      exact q
    simp -implicitDefEqProofs only [t__law_ahead, ↓XP, ↓x_ifs, ↓XU, XU, XQ, eq_self, List.reverse_cons, List.reverse_nil, Int.cast_ofNat_Int, List.length_cons, List.length_nil, List.nil_append, List.cons_append, ne_eq, Nat.reduceAdd, Nat.reduceLeDiff, Int.reduceEq, Int.reduceLT, Int.reduceLE, Int.reduceToNat, Int.reducePow, Int.reduceAdd, Int.reduceMul, Int.reduceSub, Int.reduceNeg, List.getElem?_cons_zero, List.getElem?_cons_succ, dd_is_integer]
    rw [show (ms.map fun s => D.tup [.int (x + s.1), .int (y + s.2)]) = (ms.map fun s => (x + s.1, y + s.2)).map prD by rw [List.map_map]; rfl]
    refine ⟨LN _ (by rw [List.length_map]; exact hs.2.1), ?_⟩
    refine lc_prs (boxB r c) prD (fun m hm k k' q => ?_) ?_
    · by_cases c1 : 0 ≤ m.1
      · by_cases c2 : m.1 < r
        · by_cases c3 : 0 ≤ m.2
          · by_cases c4 : m.2 < c
            · rw [if_pos (boxB_iff.mpr ⟨c1, c2, c3, c4⟩)] at q
              simp -implicitDefEqProofs only [t__law_ahead, ↓XP, ↓x_ifs, ↓XU, XU, XQ, eq_self, List.reverse_cons, List.reverse_nil, Int.cast_ofNat_Int, List.length_cons, List.length_nil, List.nil_append, List.cons_append, ne_eq, Nat.reduceAdd, Nat.reduceLeDiff, Int.reduceEq, Int.reduceLT, Int.reduceLE, Int.reduceToNat, Int.reducePow, Int.reduceAdd, Int.reduceMul, Int.reduceSub, Int.reduceNeg, List.getElem?_cons_zero, List.getElem?_cons_succ, dd_is_integer, c1, c2, c3, c4]
              exact q
            · rw [if_neg (by rw [boxB_iff]; exact fun z => c4 z.2.2.2)] at q
              simp -implicitDefEqProofs only [t__law_ahead, ↓XP, ↓x_ifs, ↓XU, XU, XQ, eq_self, List.reverse_cons, List.reverse_nil, Int.cast_ofNat_Int, List.length_cons, List.length_nil, List.nil_append, List.cons_append, ne_eq, Nat.reduceAdd, Nat.reduceLeDiff, Int.reduceEq, Int.reduceLT, Int.reduceLE, Int.reduceToNat, Int.reducePow, Int.reduceAdd, Int.reduceMul, Int.reduceSub, Int.reduceNeg, List.getElem?_cons_zero, List.getElem?_cons_succ, dd_is_integer, c1, c2, c3, c4]
              exact q
          · rw [if_neg (by rw [boxB_iff]; exact fun z => c3 z.2.2.1)] at q
            simp -implicitDefEqProofs only [t__law_ahead, ↓XP, ↓x_ifs, ↓XU, XU, XQ, eq_self, List.reverse_cons, List.reverse_nil, Int.cast_ofNat_Int, List.length_cons, List.length_nil, List.nil_append, List.cons_append, ne_eq, Nat.reduceAdd, Nat.reduceLeDiff, Int.reduceEq, Int.reduceLT, Int.reduceLE, Int.reduceToNat, Int.reducePow, Int.reduceAdd, Int.reduceMul, Int.reduceSub, Int.reduceNeg, List.getElem?_cons_zero, List.getElem?_cons_succ, dd_is_integer, c1, c2, c3]
            exact q
        · rw [if_neg (by rw [boxB_iff]; exact fun z => c2 z.2.1)] at q
          simp -implicitDefEqProofs only [t__law_ahead, ↓XP, ↓x_ifs, ↓XU, XU, XQ, eq_self, List.reverse_cons, List.reverse_nil, Int.cast_ofNat_Int, List.length_cons, List.length_nil, List.nil_append, List.cons_append, ne_eq, Nat.reduceAdd, Nat.reduceLeDiff, Int.reduceEq, Int.reduceLT, Int.reduceLE, Int.reduceToNat, Int.reducePow, Int.reduceAdd, Int.reduceMul, Int.reduceSub, Int.reduceNeg, List.getElem?_cons_zero, List.getElem?_cons_succ, dd_is_integer, c1, c2]
          exact q
      · rw [if_neg (by rw [boxB_iff]; exact fun z => c1 z.1)] at q
        simp -implicitDefEqProofs only [t__law_ahead, ↓XP, ↓x_ifs, ↓XU, XU, XQ, eq_self, List.reverse_cons, List.reverse_nil, Int.cast_ofNat_Int, List.length_cons, List.length_nil, List.nil_append, List.cons_append, ne_eq, Nat.reduceAdd, Nat.reduceLeDiff, Int.reduceEq, Int.reduceLT, Int.reduceLE, Int.reduceToNat, Int.reducePow, Int.reduceAdd, Int.reduceMul, Int.reduceSub, Int.reduceNeg, List.getElem?_cons_zero, List.getElem?_cons_succ, dd_is_integer, c1]
        exact q
    simp -implicitDefEqProofs only [t__law_ahead, ↓XP, ↓x_ifs, ↓XU, XU, XQ, eq_self, List.reverse_cons, List.reverse_nil, Int.cast_ofNat_Int, List.length_cons, List.length_nil, List.nil_append, List.cons_append, ne_eq, Nat.reduceAdd, Nat.reduceLeDiff, Int.reduceEq, Int.reduceLT, Int.reduceLE, Int.reduceToNat, Int.reducePow, Int.reduceAdd, Int.reduceMul, Int.reduceSub, Int.reduceNeg, List.getElem?_cons_zero, List.getElem?_cons_succ, dd_is_integer]
    refine so_prs fun qs h1 h2 => ?_
    simp -implicitDefEqProofs only [t__law_ahead, ↓XP, ↓x_ifs, ↓XU, XU, XQ, eq_self, List.reverse_cons, List.reverse_nil, Int.cast_ofNat_Int, List.length_cons, List.length_nil, List.nil_append, List.cons_append, ne_eq, Nat.reduceAdd, Nat.reduceLeDiff, Int.reduceEq, Int.reduceLT, Int.reduceLE, Int.reduceToNat, Int.reducePow, Int.reduceAdd, Int.reduceMul, Int.reduceSub, Int.reduceNeg, List.getElem?_cons_zero, List.getElem?_cons_succ, dd_is_integer]
    exact h qs (red_sort hs h1 h2)
  · exact h.elim
theorem L_can_stand : ∀ n ds Q, S_can_stand n ds Q → ds.length = ps_can_stand.length := by
  intro n ds Q h
  unfold S_can_stand at h
  split at h <;> first | exact h.elim | rfl
theorem l_can_stand : ∀ n ds Q, S_can_stand n ds Q → t_can_stand (defE Q) (startG n N_can_stand ds) := by
  intro n ds Q h
  unfold S_can_stand at h
  split at h
  · rename_i ds r c es x y
    show t_can_stand (defE Q) ⟨[some (.dat (.lst ds)), some (.dat (.int r)), some (.dat (.int c)), some (.dat (.dT es)), some (.dat (.tup [.int x, .int y])), none], n⟩
    obtain ⟨ms, F, rfl, hs, hk, h⟩ := h
    cases e : boxB r c (x, y) with
    | false =>
      have e0 : (decide (0 ≤ x) && decide (x < r) && (decide (0 ≤ y) && decide (y < c))) = false := e
      rw [show standB ms r c F (x, y) = false by unfold standB; rw [e]; rfl] at h
      simp -implicitDefEqProofs only [t_can_stand, ↓XP, ↓x_ifs, ↓XU, XU, XQ, eq_self, List.reverse_cons, List.reverse_nil, Int.cast_ofNat_Int, List.length_cons, List.length_nil, List.nil_append, List.cons_append, ne_eq, Nat.reduceAdd, Nat.reduceLeDiff, Int.reduceEq, Int.reduceLT, Int.reduceLE, Int.reduceToNat, Int.reducePow, Int.reduceAdd, Int.reduceMul, Int.reduceSub, Int.reduceNeg, List.getElem?_cons_zero, List.getElem?_cons_succ, dd_is_integer, e0]
      exact h
    | true =>
      have e0 : (decide (0 ≤ x) && decide (x < r) && (decide (0 ≤ y) && decide (y < c))) = true := e
      have k1 := hk x y
      by_cases m : (x, y) ∈ F
      · rw [decide_eq_true m] at k1
        rw [show standB ms r c F (x, y) = false by unfold standB; rw [e, decide_eq_true m]; rfl] at h
        simp -implicitDefEqProofs only [t_can_stand, ↓XP, ↓x_ifs, ↓XU, XU, XQ, eq_self, List.reverse_cons, List.reverse_nil, Int.cast_ofNat_Int, List.length_cons, List.length_nil, List.nil_append, List.cons_append, ne_eq, Nat.reduceAdd, Nat.reduceLeDiff, Int.reduceEq, Int.reduceLT, Int.reduceLE, Int.reduceToNat, Int.reducePow, Int.reduceAdd, Int.reduceMul, Int.reduceSub, Int.reduceNeg, List.getElem?_cons_zero, List.getElem?_cons_succ, dd_is_integer, e0, k1]
        exact h
      · rw [decide_eq_false m] at k1
        simp -implicitDefEqProofs only [t_can_stand, ↓XP, ↓x_ifs, ↓XU, XU, XQ, eq_self, List.reverse_cons, List.reverse_nil, Int.cast_ofNat_Int, List.length_cons, List.length_nil, List.nil_append, List.cons_append, ne_eq, Nat.reduceAdd, Nat.reduceLeDiff, Int.reduceEq, Int.reduceLT, Int.reduceLE, Int.reduceToNat, Int.reducePow, Int.reduceAdd, Int.reduceMul, Int.reduceSub, Int.reduceNeg, List.getElem?_cons_zero, List.getElem?_cons_succ, dd_is_integer, e0, k1]
        refine ⟨ms, rfl, hs, fun qs hq => ?_⟩
        try (simp -implicitDefEqProofs only [t_can_stand, ↓XP, ↓x_ifs, ↓XU, XU, XQ, eq_self, List.reverse_cons, List.reverse_nil, Int.cast_ofNat_Int, List.length_cons, List.length_nil, List.nil_append, List.cons_append, ne_eq, Nat.reduceAdd, Nat.reduceLeDiff, Int.reduceEq, Int.reduceLT, Int.reduceLE, Int.reduceToNat, Int.reducePow, Int.reduceAdd, Int.reduceMul, Int.reduceSub, Int.reduceNeg, List.getElem?_cons_zero, List.getElem?_cons_succ, dd_is_integer])
        refine ⟨by rw [List.length_map]; exact Nat.le_trans (src_len hs hq) (by decide), ?_⟩
        refine lc_prs1 (fun q => .bl (decide (q ∈ F))) (fun m hm k k' q => ?_) ?_
        · have k2 := hk m.1 m.2
          simp -implicitDefEqProofs only [t_can_stand, ↓XP, ↓x_ifs, ↓XU, XU, XQ, eq_self, List.reverse_cons, List.reverse_nil, Int.cast_ofNat_Int, List.length_cons, List.length_nil, List.nil_append, List.cons_append, ne_eq, Nat.reduceAdd, Nat.reduceLeDiff, Int.reduceEq, Int.reduceLT, Int.reduceLE, Int.reduceToNat, Int.reducePow, Int.reduceAdd, Int.reduceMul, Int.reduceSub, Int.reduceNeg, List.getElem?_cons_zero, List.getElem?_cons_succ, dd_is_integer, k2]
          exact q
        try (simp -implicitDefEqProofs only [t_can_stand, ↓XP, ↓x_ifs, ↓XU, XU, XQ, eq_self, List.reverse_cons, List.reverse_nil, Int.cast_ofNat_Int, List.length_cons, List.length_nil, List.nil_append, List.cons_append, ne_eq, Nat.reduceAdd, Nat.reduceLeDiff, Int.reduceEq, Int.reduceLT, Int.reduceLE, Int.reduceToNat, Int.reducePow, Int.reduceAdd, Int.reduceMul, Int.reduceSub, Int.reduceNeg, List.getElem?_cons_zero, List.getElem?_cons_succ, dd_is_integer])
        refine all_prs ?_
        try (simp -implicitDefEqProofs only [t_can_stand, ↓XP, ↓x_ifs, ↓XU, XU, XQ, eq_self, List.reverse_cons, List.reverse_nil, Int.cast_ofNat_Int, List.length_cons, List.length_nil, List.nil_append, List.cons_append, ne_eq, Nat.reduceAdd, Nat.reduceLeDiff, Int.reduceEq, Int.reduceLT, Int.reduceLE, Int.reduceToNat, Int.reducePow, Int.reduceAdd, Int.reduceMul, Int.reduceSub, Int.reduceNeg, List.getElem?_cons_zero, List.getElem?_cons_succ, dd_is_integer])
        rw [show (qs.all fun q => decide (q ∈ F)) = standB ms r c F (x, y) by
          rw [Bool.eq_iff_iff, standB_iff, List.all_eq_true]
          constructor
          · intro z
            exact ⟨boxB_iff.mp e, m, fun q hq2 => of_decide_eq_true (z q ((hq.2 q).mpr hq2))⟩
          · intro z q hq2
            exact decide_eq_true (z.2.2 q ((hq.2 q).mp hq2))]
        exact h
  · exact h.elim
theorem L_list_fault : ∀ n ds Q, S_list_fault n ds Q → ds.length = ps_list_fault.length := by
  intro n ds Q h
  unfold S_list_fault at h
  split at h <;> first | exact h.elim | rfl
theorem l_list_fault : ∀ n ds Q, S_list_fault n ds Q → t_list_fault (defE Q) (startG n N_list_fault ds) := by
  intro n ds Q h
  unfold S_list_fault at h
  split at h
  · rename_i ds r c d
    show t_list_fault (defE Q) ⟨[some (.dat (.lst ds)), some (.dat (.int r)), some (.dat (.int c)), some (.dat (d)), none, none, none], n⟩
    obtain ⟨ms, rfl, hs, ok, h⟩ := h
    cases d <;> first | exact absurd ok Bool.false_ne_true | (simp -implicitDefEqProofs only [t_list_fault, ↓XP, ↓x_ifs, ↓XU, XU, XQ, eq_self, List.reverse_cons, List.reverse_nil, Int.cast_ofNat_Int, List.length_cons, List.length_nil, List.nil_append, List.cons_append, ne_eq, Nat.reduceAdd, Nat.reduceLeDiff, Int.reduceEq, Int.reduceLT, Int.reduceLE, Int.reduceToNat, Int.reducePow, Int.reduceAdd, Int.reduceMul, Int.reduceSub, Int.reduceNeg, List.getElem?_cons_zero, List.getElem?_cons_succ, dd_is_integer]; exact h) | skip
    rename_i ds
    have ok : ds.all okE = true := ok
    by_cases c1 : ds.length ≤ 400
    · have c2 : ¬ (400 : Int) < ds.length := by omega
      rw [show faultLD ms r c (.lst ds) = faultLs ms r c [] ds by unfold faultLD; simp only; rw [if_pos c1]] at h
      simp -implicitDefEqProofs only [t_list_fault, ↓XP, ↓x_ifs, ↓XU, XU, XQ, eq_self, List.reverse_cons, List.reverse_nil, Int.cast_ofNat_Int, List.length_cons, List.length_nil, List.nil_append, List.cons_append, ne_eq, Nat.reduceAdd, Nat.reduceLeDiff, Int.reduceEq, Int.reduceLT, Int.reduceLE, Int.reduceToNat, Int.reducePow, Int.reduceAdd, Int.reduceMul, Int.reduceSub, Int.reduceNeg, List.getElem?_cons_zero, List.getElem?_cons_succ, dd_is_integer, c2]
      refine for_inv (fun rr G => ∃ (F : List (Int × Int)) (es : List (List Key × D)) (re : List D) (o1 o2 : Option SC), rr = enumD (F.length : Int) re ∧ ds = F.map prD ++ re ∧ HasKeys es F ∧ es.length ≤ F.length ∧ Q (.dat (faultLs ms r c F re)) n ∧ G = ⟨[some (.dat (.lst (ms.map prD))), some (.dat (.int r)), some (.dat (.int c)), some (.dat (.lst ds)), some (.own (.dT es)), o1, o2], n⟩) ?_ _ ?_ _ ⟨[], [], ds, none, none, rfl, rfl, HasKeys.nil, Nat.le_refl _, h, rfl⟩
      · rintro G ⟨F, es, re, o1, o2, e1, e2, e3, e4, h, rfl⟩
        cases re with
        | nil => simp -implicitDefEqProofs only [t_list_fault, ↓XP, ↓x_ifs, ↓XU, XU, XQ, eq_self, List.reverse_cons, List.reverse_nil, Int.cast_ofNat_Int, List.length_cons, List.length_nil, List.nil_append, List.cons_append, ne_eq, Nat.reduceAdd, Nat.reduceLeDiff, Int.reduceEq, Int.reduceLT, Int.reduceLE, Int.reduceToNat, Int.reducePow, Int.reduceAdd, Int.reduceMul, Int.reduceSub, Int.reduceNeg, List.getElem?_cons_zero, List.getElem?_cons_succ, dd_is_integer]; exact h
        | cons d re => cases e1
      · rintro d rr G N hsub ⟨F, es, re, o1, o2, e1, e2, e3, e4, h, rfl⟩ hN
        cases re with
        | nil => cases e1
        | cons d' re =>
          obtain ⟨rfl, e5⟩ := List.cons.inj (show d :: rr = .tup [.int (F.length : Int), d'] :: enumD ((F.length : Int) + 1) re from e1)
          have okd : okE d' = true := List.all_eq_true.mp ok d' (by rw [e2]; simp)
          have lF : F.length + re.length + 1 = ds.length := by rw [e2, List.length_append, List.length_map, List.length_cons]; omega
          cases hp : pairD d' with
          | false =>
            rw [faultLs, if_neg (by rw [hp]; decide)] at h
            simp -implicitDefEqProofs only [t_list_fault, ↓XP, ↓x_ifs, ↓XU, XU, XQ, eq_self, List.reverse_cons, List.reverse_nil, Int.cast_ofNat_Int, List.length_cons, List.length_nil, List.nil_append, List.cons_append, ne_eq, Nat.reduceAdd, Nat.reduceLeDiff, Int.reduceEq, Int.reduceLT, Int.reduceLE, Int.reduceToNat, Int.reducePow, Int.reduceAdd, Int.reduceMul, Int.reduceSub, Int.reduceNeg, List.getElem?_cons_zero, List.getElem?_cons_succ, dd_is_integer, okd, hp]
            exact h
          | true =>
            rw [faultLs, if_pos hp] at h
            obtain ⟨a, b, rfl⟩ := pair_cases hp
            have h : Q (.dat (if standB ms r c F (a, b) = true then faultLs ms r c (F ++ [(a, b)]) re else .tup [.int F.length])) n := h
            simp -implicitDefEqProofs only [t_list_fault, ↓XP, ↓x_ifs, ↓XU, XU, XQ, eq_self, List.reverse_cons, List.reverse_nil, Int.cast_ofNat_Int, List.length_cons, List.length_nil, List.nil_append, List.cons_append, ne_eq, Nat.reduceAdd, Nat.reduceLeDiff, Int.reduceEq, Int.reduceLT, Int.reduceLE, Int.reduceToNat, Int.reducePow, Int.reduceAdd, Int.reduceMul, Int.reduceSub, Int.reduceNeg, List.getElem?_cons_zero, List.getElem?_cons_succ, dd_is_integer]
            refine ⟨ms, F, rfl, hs, e3, ?_⟩
            cases hst : standB ms r c F (a, b) with
            | false =>
              rw [if_neg (by rw [hst]; decide)] at h
              simp -implicitDefEqProofs only [t_list_fault, ↓XP, ↓x_ifs, ↓XU, XU, XQ, eq_self, List.reverse_cons, List.reverse_nil, Int.cast_ofNat_Int, List.length_cons, List.length_nil, List.nil_append, List.cons_append, ne_eq, Nat.reduceAdd, Nat.reduceLeDiff, Int.reduceEq, Int.reduceLT, Int.reduceLE, Int.reduceToNat, Int.reducePow, Int.reduceAdd, Int.reduceMul, Int.reduceSub, Int.reduceNeg, List.getElem?_cons_zero, List.getElem?_cons_succ, dd_is_integer]
              exact h
            | true =>
              rw [if_pos hst] at h
              simp -implicitDefEqProofs only [t_list_fault, ↓XP, ↓x_ifs, ↓XU, XU, XQ, eq_self, List.reverse_cons, List.reverse_nil, Int.cast_ofNat_Int, List.length_cons, List.length_nil, List.nil_append, List.cons_append, ne_eq, Nat.reduceAdd, Nat.reduceLeDiff, Int.reduceEq, Int.reduceLT, Int.reduceLE, Int.reduceToNat, Int.reducePow, Int.reduceAdd, Int.reduceMul, Int.reduceSub, Int.reduceNeg, List.getElem?_cons_zero, List.getElem?_cons_succ, dd_is_integer]
              refine ⟨Nat.lt_of_le_of_lt (m := 400) (by omega) (by decide), ?_⟩
              refine hN _ ⟨F ++ [(a, b)], _, re, _, _, ?_, ?_, e3.put, ?_, h, rfl⟩
              · rw [e5, List.length_append, List.length_singleton]; rfl
              · rw [e2, List.map_append, List.append_assoc]; rfl
              · rw [List.length_append, List.length_singleton]
                exact Nat.le_trans put_len (by omega)
    · have c2 : (400 : Int) < ds.length := by omega
      rw [show faultLD ms r c (.lst ds) = .tup [.non] by unfold faultLD; simp only; rw [if_neg c1]] at h
      simp -implicitDefEqProofs only [t_list_fault, ↓XP, ↓x_ifs, ↓XU, XU, XQ, eq_self, List.reverse_cons, List.reverse_nil, Int.cast_ofNat_Int, List.length_cons, List.length_nil, List.nil_append, List.cons_append, ne_eq, Nat.reduceAdd, Nat.reduceLeDiff, Int.reduceEq, Int.reduceLT, Int.reduceLE, Int.reduceToNat, Int.reducePow, Int.reduceAdd, Int.reduceMul, Int.reduceSub, Int.reduceNeg, List.getElem?_cons_zero, List.getElem?_cons_succ, dd_is_integer, c2]
      exact h
  · exact h.elim
theorem legal_snoc {ms : List (Int × Int)} {r c : Int} {p : Int × Int} : ∀ {F G : List (Int × Int)}, LegalF ms r c G F → standB ms r c (G ++ F) p = true → LegalF ms r c G (F ++ [p])
  | [], G, _, h => ⟨by rw [List.append_nil] at h; exact h, trivial⟩
  | q :: F, G, h1, h => ⟨h1.1, legal_snoc h1.2 (by rw [List.append_assoc]; exact h)⟩
theorem box_len {h w : Int} {F : List (Int × Int)} (hw : 1 ≤ w) (nd : F.Nodup) (bx : ∀ p ∈ F, inB h w p.1 p.2) : F.length ≤ (h * w).toNat := by
  have := nodup_sub (B := spotsL h w) nd fun p hp => (spots_in hw).mpr (bx p hp)
  unfold spotsL at this
  rw [List.length_map, List.length_range] at this
  exact this
theorem ListInv.rlen {ms F R : List (Int × Int)} {h w : Int} (I : ListInv ms h w F R) (hw : 1 ≤ w) : R.length ≤ (h * w).toNat := box_len hw I.rn fun p hp => (standB_iff.mp (I.rs p hp)).1
theorem ListInv.flen {ms F R : List (Int × Int)} {h w : Int} (I : ListInv ms h w F R) (hw : 1 ≤ w) : F.length ≤ (h * w).toNat := box_len hw I.nd I.bx
theorem ListInv.step {ms F R : List (Int × Int)} {h w : Int} {i : Nat} {p : Int × Int} (I : ListInv ms h w F R) (hi : R[i]? = some p) : ListInv ms h w (F ++ [p]) (R.eraseIdx i) ∧ ∀ q ∈ R.eraseIdx i, ¬ RedP ms h w p q := by
  have hp : p ∈ R := List.mem_of_getElem? hi
  obtain ⟨b1, b2, b3⟩ := standB_iff.mp (I.rs p hp)
  have sub : ∀ q ∈ R.eraseIdx i, q ∈ R ∧ q ≠ p := fun q hq => by
    refine ⟨List.mem_of_mem_eraseIdx hq, fun z => ?_⟩
    subst z
    obtain ⟨hi2, e⟩ := List.getElem?_eq_some_iff.mp hi
    have := I.rn
    obtain ⟨j, hj, ej⟩ := List.mem_eraseIdx_iff_getElem?.mp hq
    obtain ⟨hj2, ej2⟩ := List.getElem?_eq_some_iff.mp ej
    have pw := List.pairwise_iff_getElem.mp (List.nodup_iff_pairwise_ne.mp this)
    rcases Nat.lt_trichotomy i j with z | z | z
    · exact pw i j hi2 hj2 z (by rw [e, ej2])
    · exact hj z.symm
    · exact pw j i hj2 hi2 z (by rw [e, ej2])
  refine ⟨⟨legal_snoc I.legal (by rw [List.nil_append]; exact I.rs p hp), ?_, fun q hq => ?_, fun q hq x hx => ?_, I.rn.sublist (List.eraseIdx_sublist ..), fun q hq => ?_⟩, fun q hq hr => ?_⟩
  · rw [List.nodup_append]
    refine ⟨I.nd, by simp, fun x hx y hy => ?_⟩
    rw [List.mem_singleton] at hy
    rintro rfl
    rw [hy] at hx
    exact b2 hx
  · rcases List.mem_append.mp hq with hq | hq
    · exact I.bx q hq
    · rw [List.mem_singleton] at hq; subst hq; exact b1
  · rcases List.mem_append.mp hq with hq | hq
    · exact List.mem_append_left _ (I.cl q hq x hx)
    · rw [List.mem_singleton] at hq; subst hq; exact List.mem_append_left _ (b3 x hx)
  · obtain ⟨q1, q2⟩ := sub q hq
    obtain ⟨c1, c2, c3⟩ := standB_iff.mp (I.rs q q1)
    refine standB_iff.mpr ⟨c1, fun z => ?_, fun x hx => List.mem_append_left _ (c3 x hx)⟩
    rcases List.mem_append.mp z with z | z
    · exact c2 z
    · rw [List.mem_singleton] at z; exact q2 z
  · obtain ⟨q1, q2⟩ := sub q hq
    obtain ⟨_, _, c3⟩ := standB_iff.mp (I.rs q q1)
    obtain ⟨_, s, hs, e⟩ := hr
    refine b2 (c3 p ⟨b1, s, hs, ?_⟩)
    rw [e]
    exact Prod.ext (by simp only; omega) (by simp only; omega)
theorem ListInv.red {ms F R : List (Int × Int)} {h w : Int} {p q : Int × Int} (hs : StepsOk ms) (I : ListInv ms h w (F ++ [p]) R) (hn : p ∉ F) (hb : inB h w p.1 p.2) (hr : RedP ms h w p q) (hcl : ∀ q ∈ F, ∀ p, SrcP ms h w q p → p ∈ F) : q ∉ F ++ [p] := by
  obtain ⟨_, s, hsm, e⟩ := hr
  have st := hs.2.2.1 s hsm
  unfold stepOk at st
  intro z
  rcases List.mem_append.mp z with z | z
  · refine hn (hcl q z p ⟨hb, s, hsm, ?_⟩)
    rw [e]
    exact Prod.ext (by simp only; omega) (by simp only; omega)
  · rw [List.mem_singleton] at z
    rw [z] at e
    have e1 := congrArg Prod.fst e
    have e2 := congrArg Prod.snd e
    simp only at e1 e2
    omega
theorem ListInv.add {ms F R : List (Int × Int)} {h w : Int} {q : Int × Int} (I : ListInv ms h w F R) (hq : standB ms h w F q = true) (hn : q ∉ R) : ListInv ms h w F (R ++ [q]) := by
  refine ⟨I.legal, I.nd, I.bx, I.cl, ?_, fun x hx => ?_⟩
  · rw [List.nodup_append]
    refine ⟨I.rn, by simp, fun x hx y hy => ?_⟩
    rw [List.mem_singleton] at hy
    rintro rfl
    rw [hy] at hx
    exact hn hx
  · rcases List.mem_append.mp hx with hx | hx
    · exact I.rs x hx
    · rw [List.mem_singleton] at hx; subst hx; exact hq
theorem cut_drop {ds : List D} {k : Nat} : dSlc.cutV' ds (some (k : Int)) none = ds.drop k := by
  unfold dSlc.cutV'
  have e : HT.sIx ds.length 0 (some (k : Int)) = min k ds.length := HT.sIx_nat _ _ k
  have e0 : HT.sIx ds.length ds.length none = ds.length := rfl
  rw [e, e0]
  by_cases h : k ≤ ds.length
  · rw [show min k ds.length = k by omega, List.take_of_length_le (by rw [List.length_drop]; omega)]
  · rw [show min k ds.length = ds.length by omega, List.drop_eq_nil_of_le (Nat.le_refl _), List.drop_eq_nil_of_le (by omega), List.take_nil]
theorem q_src {f : Bool → Prop} {qs : List (Int × Int)} (h : f (decide (qs = []))) : eqQ (.lst (qs.map prD)) (.lst []) f := by
  cases qs with
  | nil => rw [show (List.map prD []) = [] from rfl]; rw [q_00]; exact h
  | cons p qs => exact q_ne (by simp) (by simpa using h)
theorem L__law_box : ∀ n ds Q, S__law_box n ds Q → ds.length = ps__law_box.length := by
  intro n ds Q h
  unfold S__law_box at h
  split at h <;> first | exact h.elim | rfl
theorem l__law_box : ∀ n ds Q, S__law_box n ds Q → t__law_box (defE Q) (startG n N__law_box ds) := by
  intro n ds Q h
  unfold S__law_box at h
  split at h
  · rename_i m
    show t__law_box (defE Q) ⟨[some (.dat (.src)), some (.dat (.int m)), none, none], n⟩
    obtain ⟨⟨m1, m2⟩, h1, h⟩ := h
    simp -implicitDefEqProofs only [t__law_box, ↓XP, ↓x_ifs, ↓XU, XU, XQ, eq_self, List.reverse_cons, List.reverse_nil, Int.cast_ofNat_Int, List.length_cons, List.length_nil, List.nil_append, List.cons_append, ne_eq, Nat.reduceAdd, Nat.reduceLeDiff, Int.reduceEq, Int.reduceLT, Int.reduceLE, Int.reduceToNat, Int.reducePow, Int.reduceAdd, Int.reduceMul, Int.reduceSub, Int.reduceNeg, List.getElem?_cons_zero, List.getElem?_cons_succ, dd_is_integer]
    (repeat (refine ⟨by (first | omega | exact cm (by omega) (by omega) | exact lg (by omega) | exact pw10 (by decide) | decide +kernel), ?_⟩))
    intro x x_j x_a x_b x_c x_d
    try (simp -implicitDefEqProofs only [t__law_box, ↓XP, ↓x_ifs, ↓XU, XU, XQ, eq_self, List.reverse_cons, List.reverse_nil, Int.cast_ofNat_Int, List.length_cons, List.length_nil, List.nil_append, List.cons_append, ne_eq, Nat.reduceAdd, Nat.reduceLeDiff, Int.reduceEq, Int.reduceLT, Int.reduceLE, Int.reduceToNat, Int.reducePow, Int.reduceAdd, Int.reduceMul, Int.reduceSub, Int.reduceNeg, List.getElem?_cons_zero, List.getElem?_cons_succ, dd_is_integer])
    have hx : 1 + x ≠ 0 := by omega
    have nn : m.fdiv (1 + x) = m / (1 + x) := Int.fdiv_eq_ediv_of_nonneg _ (by omega)
    have d1 : 1 ≤ m / (1 + x) := by
      rw [Int.le_ediv_iff_mul_le (by omega)]; omega
    have d2 : m / (1 + x) ≤ m := Int.ediv_le_self _ (by omega)
    have d3 : (1 + x) * (m / (1 + x)) ≤ m := Int.mul_ediv_self_le (by omega)
    simp -implicitDefEqProofs only [t__law_box, ↓XP, ↓x_ifs, ↓XU, XU, XQ, eq_self, List.reverse_cons, List.reverse_nil, Int.cast_ofNat_Int, List.length_cons, List.length_nil, List.nil_append, List.cons_append, ne_eq, Nat.reduceAdd, Nat.reduceLeDiff, Int.reduceEq, Int.reduceLT, Int.reduceLE, Int.reduceToNat, Int.reducePow, Int.reduceAdd, Int.reduceMul, Int.reduceSub, Int.reduceNeg, List.getElem?_cons_zero, List.getElem?_cons_succ, dd_is_integer, hx]
    refine ⟨lg (by omega), ?_⟩
    rw [nn]
    (repeat (refine ⟨by (first | omega | exact cm (by omega) (by omega) | exact lg (by omega) | exact pw10 (by decide) | decide +kernel), ?_⟩))
    intro y y_j y_a y_b y_c y_d
    try (simp -implicitDefEqProofs only [t__law_box, ↓XP, ↓x_ifs, ↓XU, XU, XQ, eq_self, List.reverse_cons, List.reverse_nil, Int.cast_ofNat_Int, List.length_cons, List.length_nil, List.nil_append, List.cons_append, ne_eq, Nat.reduceAdd, Nat.reduceLeDiff, Int.reduceEq, Int.reduceLT, Int.reduceLE, Int.reduceToNat, Int.reducePow, Int.reduceAdd, Int.reduceMul, Int.reduceSub, Int.reduceNeg, List.getElem?_cons_zero, List.getElem?_cons_succ, dd_is_integer])
    have mul : (1 + x) * (1 + y) ≤ m := Int.le_trans (Int.mul_le_mul_of_nonneg_left (show 1 + y ≤ m / (1 + x) by omega) (by omega)) d3
    (repeat (refine ⟨by (first | omega | exact cm (by omega) (by omega) | exact lg (by omega) | exact pw10 (by decide) | decide +kernel), ?_⟩))
    intro z z_j z_a z_b z_c z_d
    try (simp -implicitDefEqProofs only [t__law_box, ↓XP, ↓x_ifs, ↓XU, XU, XQ, eq_self, List.reverse_cons, List.reverse_nil, Int.cast_ofNat_Int, List.length_cons, List.length_nil, List.nil_append, List.cons_append, ne_eq, Nat.reduceAdd, Nat.reduceLeDiff, Int.reduceEq, Int.reduceLT, Int.reduceLE, Int.reduceToNat, Int.reducePow, Int.reduceAdd, Int.reduceMul, Int.reduceSub, Int.reduceNeg, List.getElem?_cons_zero, List.getElem?_cons_succ, dd_is_integer])
    obtain rfl | rfl : z = 0 ∨ z = 1 := by omega
    · simp -implicitDefEqProofs only [t__law_box, ↓XP, ↓x_ifs, ↓XU, XU, XQ, eq_self, List.reverse_cons, List.reverse_nil, Int.cast_ofNat_Int, List.length_cons, List.length_nil, List.nil_append, List.cons_append, ne_eq, Nat.reduceAdd, Nat.reduceLeDiff, Int.reduceEq, Int.reduceLT, Int.reduceLE, Int.reduceToNat, Int.reducePow, Int.reduceAdd, Int.reduceMul, Int.reduceSub, Int.reduceNeg, List.getElem?_cons_zero, List.getElem?_cons_succ, dd_is_integer]
      exact h (1 + x) (1 + y) _ (by omega) (by omega) (by omega) (by omega) mul (by omega) (by omega)
    · simp -implicitDefEqProofs only [t__law_box, ↓XP, ↓x_ifs, ↓XU, XU, XQ, eq_self, List.reverse_cons, List.reverse_nil, Int.cast_ofNat_Int, List.length_cons, List.length_nil, List.nil_append, List.cons_append, ne_eq, Nat.reduceAdd, Nat.reduceLeDiff, Int.reduceEq, Int.reduceLT, Int.reduceLE, Int.reduceToNat, Int.reducePow, Int.reduceAdd, Int.reduceMul, Int.reduceSub, Int.reduceNeg, List.getElem?_cons_zero, List.getElem?_cons_succ, dd_is_integer]
      exact h (1 + y) (1 + x) _ (by omega) (by omega) (by omega) (by omega) (by rw [Int.mul_comm]; exact mul) (by omega) (by omega)
  · exact h.elim
theorem L__law_list : ∀ n ds Q, S__law_list n ds Q → ds.length = ps__law_list.length := by
  intro n ds Q h
  unfold S__law_list at h
  split at h <;> first | exact h.elim | rfl
theorem l__law_list : ∀ n ds Q, S__law_list n ds Q → t__law_list (defE Q) (startG n N__law_list ds) := by
  intro n ds Q h
  unfold S__law_list at h
  split at h
  · rename_i ds a b m
    show t__law_list (defE Q) ⟨[some (.dat (.src)), some (.dat (.lst ds)), some (.dat (.int a)), some (.dat (.int b)), some (.dat (.int m)), none, none, none, none, none, none, none], n⟩
    obtain ⟨ms, rfl, hs, ⟨a1, a2⟩, ⟨b1, b2⟩, ab, h1, h⟩ := h
    simp -implicitDefEqProofs only [t__law_list, ↓XP, ↓x_ifs, ↓XU, XU, XQ, eq_self, List.reverse_cons, List.reverse_nil, Int.cast_ofNat_Int, List.length_cons, List.length_nil, List.nil_append, List.cons_append, ne_eq, Nat.reduceAdd, Nat.reduceLeDiff, Int.reduceEq, Int.reduceLT, Int.reduceLE, Int.reduceToNat, Int.reducePow, Int.reduceAdd, Int.reduceMul, Int.reduceSub, Int.reduceNeg, List.getElem?_cons_zero, List.getElem?_cons_succ, dd_is_integer]
    refine ⟨by omega, by omega, by omega, by omega, by omega, ?_⟩
    rw [spots_eq]
    have ls : (spotsL a b).length = (a * b).toNat := by unfold spotsL; rw [List.length_map, List.length_range]
    have ab0 : 0 ≤ a * b := Int.mul_nonneg (by omega) (by omega)
    refine ⟨by rw [List.length_map, ls]; exact Nat.le_trans (m := 1000) (by omega) (by decide), ?_⟩
    refine lc_prs (fun p => standB ms a b [] p) prD (fun p hp k k' q => ?_) ?_
    · have inb := (spots_in b1).mp hp
      simp -implicitDefEqProofs only [t__law_list, ↓XP, ↓x_ifs, ↓XU, XU, XQ, eq_self, List.reverse_cons, List.reverse_nil, Int.cast_ofNat_Int, List.length_cons, List.length_nil, List.nil_append, List.cons_append, ne_eq, Nat.reduceAdd, Nat.reduceLeDiff, Int.reduceEq, Int.reduceLT, Int.reduceLE, Int.reduceToNat, Int.reducePow, Int.reduceAdd, Int.reduceMul, Int.reduceSub, Int.reduceNeg, List.getElem?_cons_zero, List.getElem?_cons_succ, dd_is_integer]
      refine ⟨ms, rfl, hs, fun qs hq => ?_⟩
      try (simp -implicitDefEqProofs only [t__law_list, ↓XP, ↓x_ifs, ↓XU, XU, XQ, eq_self, List.reverse_cons, List.reverse_nil, Int.cast_ofNat_Int, List.length_cons, List.length_nil, List.nil_append, List.cons_append, ne_eq, Nat.reduceAdd, Nat.reduceLeDiff, Int.reduceEq, Int.reduceLT, Int.reduceLE, Int.reduceToNat, Int.reducePow, Int.reduceAdd, Int.reduceMul, Int.reduceSub, Int.reduceNeg, List.getElem?_cons_zero, List.getElem?_cons_succ, dd_is_integer])
      refine q_src ?_
      rw [show decide (qs = []) = standB ms a b [] p by
        rw [Bool.eq_iff_iff, standB_iff, decide_eq_true_iff]
        constructor
        · intro z
          refine ⟨inb, by simp, fun x hx => ?_⟩
          have := (hq.2 x).mpr hx
          rw [z] at this; cases this
        · rintro ⟨_, _, z⟩
          cases qs with
          | nil => rfl
          | cons x qs => have := z x ((hq.2 x).mp List.mem_cons_self); cases this]
      cases e : standB ms a b [] p with
      | true => rw [e] at q; simp -implicitDefEqProofs only [t__law_list, ↓XP, ↓x_ifs, ↓XU, XU, XQ, eq_self, List.reverse_cons, List.reverse_nil, Int.cast_ofNat_Int, List.length_cons, List.length_nil, List.nil_append, List.cons_append, ne_eq, Nat.reduceAdd, Nat.reduceLeDiff, Int.reduceEq, Int.reduceLT, Int.reduceLE, Int.reduceToNat, Int.reducePow, Int.reduceAdd, Int.reduceMul, Int.reduceSub, Int.reduceNeg, List.getElem?_cons_zero, List.getElem?_cons_succ, dd_is_integer]; exact q
      | false => rw [e] at q; simp -implicitDefEqProofs only [t__law_list, ↓XP, ↓x_ifs, ↓XU, XU, XQ, eq_self, List.reverse_cons, List.reverse_nil, Int.cast_ofNat_Int, List.length_cons, List.length_nil, List.nil_append, List.cons_append, ne_eq, Nat.reduceAdd, Nat.reduceLeDiff, Int.reduceEq, Int.reduceLT, Int.reduceLE, Int.reduceToNat, Int.reducePow, Int.reduceAdd, Int.reduceMul, Int.reduceSub, Int.reduceNeg, List.getElem?_cons_zero, List.getElem?_cons_succ, dd_is_integer]; exact q
    simp -implicitDefEqProofs only [t__law_list, ↓XP, ↓x_ifs, ↓XU, XU, XQ, eq_self, List.reverse_cons, List.reverse_nil, Int.cast_ofNat_Int, List.length_cons, List.length_nil, List.nil_append, List.cons_append, ne_eq, Nat.reduceAdd, Nat.reduceLeDiff, Int.reduceEq, Int.reduceLT, Int.reduceLE, Int.reduceToNat, Int.reducePow, Int.reduceAdd, Int.reduceMul, Int.reduceSub, Int.reduceNeg, List.getElem?_cons_zero, List.getElem?_cons_succ, dd_is_integer]
    refine wh_inv (fun k G => ∃ (F R : List (Int × Int)) (es : List (List Key × D)) (o8 o9 o10 o11 : Option SC) (c : Nat), ListInv ms a b F R ∧ HasKeys es F ∧ es.length ≤ F.length ∧ F.length + k = (a * b).toNat + 1 ∧ (0 ≤ m → (F.length : Int) ≤ m) ∧ (n ≤ c ∧ c ≤ n + F.length) ∧ G = ⟨[some (.dat .src), some (.dat (.lst (ms.map prD))), some (.dat (.int a)), some (.dat (.int b)), some (.dat (.int m)), some (.own (.lst (R.map prD))), some (.own (.lst (F.map prD))), some (.own (.dT es)), o8, o9, o10, o11], c⟩) ?_ (m := (a * b).toNat + 1) ⟨[], (spotsL a b).filter fun p => standB ms a b [] p, [], none, none, none, none, n, ⟨trivial, List.nodup_nil, fun p hp => (by cases hp), fun q hq => (by cases hq), ?_, ?_⟩, HasKeys.nil, Nat.le_refl _, by simp, fun z => (by simpa using z), ⟨Nat.le_refl _, Nat.le_refl _⟩, rfl⟩
    · rintro k G N ⟨F, R, es, o8, o9, o10, o11, c, I, hk, le, hm, hsz, ⟨c1, c2⟩, rfl⟩ hN
      have fl := I.flen b1
      have rl := I.rlen b1
      simp -implicitDefEqProofs only [t__law_list, ↓XP, ↓x_ifs, ↓XU, XU, XQ, eq_self, List.reverse_cons, List.reverse_nil, Int.cast_ofNat_Int, List.length_cons, List.length_nil, List.nil_append, List.cons_append, ne_eq, Nat.reduceAdd, Nat.reduceLeDiff, Int.reduceEq, Int.reduceLT, Int.reduceLE, Int.reduceToNat, Int.reducePow, Int.reduceAdd, Int.reduceMul, Int.reduceSub, Int.reduceNeg, List.getElem?_cons_zero, List.getElem?_cons_succ, dd_is_integer]
      refine q_src ?_
      by_cases z : R = []
      · subst z
        simp -implicitDefEqProofs only [t__law_list, ↓XP, ↓x_ifs, ↓XU, XU, XQ, eq_self, List.reverse_cons, List.reverse_nil, Int.cast_ofNat_Int, List.length_cons, List.length_nil, List.nil_append, List.cons_append, ne_eq, Nat.reduceAdd, Nat.reduceLeDiff, Int.reduceEq, Int.reduceLT, Int.reduceLE, Int.reduceToNat, Int.reducePow, Int.reduceAdd, Int.reduceMul, Int.reduceSub, Int.reduceNeg, List.getElem?_cons_zero, List.getElem?_cons_succ, dd_is_integer]
        exact h F c I.legal I.nd fl hsz c1 (by omega)
      · rw [decide_eq_false z]
        have lenF : (F.map prD).length = F.length := List.length_map ..
        have lenR : (R.map prD).length = R.length := List.length_map ..
        have rp : 1 ≤ R.length := List.length_pos_iff.mpr z
        have fl1 : F.length + 1 ≤ (a * b).toNat := by
          have := (I.step (i := 0) (List.getElem?_eq_getElem rp)).1.flen b1
          rw [List.length_append, List.length_singleton] at this
          exact this
        by_cases z2 : (F.length : Int) < m
        · simp -implicitDefEqProofs only [t__law_list, ↓XP, ↓x_ifs, ↓XU, XU, XQ, eq_self, List.reverse_cons, List.reverse_nil, Int.cast_ofNat_Int, List.length_cons, List.length_nil, List.nil_append, List.cons_append, ne_eq, Nat.reduceAdd, Nat.reduceLeDiff, Int.reduceEq, Int.reduceLT, Int.reduceLE, Int.reduceToNat, Int.reducePow, Int.reduceAdd, Int.reduceMul, Int.reduceSub, Int.reduceNeg, List.getElem?_cons_zero, List.getElem?_cons_succ, dd_is_integer, z2, lenF, lenR]
          (repeat (refine ⟨by (first | omega | exact cm (by omega) (by omega) | exact lg (by omega) | exact pw10 (by decide) | decide +kernel), ?_⟩))
          intro v v_j v_a v_b v_c v_d
          try (simp -implicitDefEqProofs only [t__law_list, ↓XP, ↓x_ifs, ↓XU, XU, XQ, eq_self, List.reverse_cons, List.reverse_nil, Int.cast_ofNat_Int, List.length_cons, List.length_nil, List.nil_append, List.cons_append, ne_eq, Nat.reduceAdd, Nat.reduceLeDiff, Int.reduceEq, Int.reduceLT, Int.reduceLE, Int.reduceToNat, Int.reducePow, Int.reduceAdd, Int.reduceMul, Int.reduceSub, Int.reduceNeg, List.getElem?_cons_zero, List.getElem?_cons_succ, dd_is_integer])
          obtain ⟨i, rfl⟩ : ∃ i : Nat, v = i := ⟨v.toNat, by omega⟩
          have hi : i < R.length := by omega
          obtain ⟨p, hp⟩ : ∃ p, R[i]? = some p := ⟨R[i], List.getElem?_eq_getElem hi⟩
          have hat : atI (R.map prD) (i : Int) = some (.tup [.int p.1, .int p.2]) := atI_nat (by rw [List.getElem?_map, hp]; rfl)
          rw [hat]
          have lR : R.length ≤ 1000 := by omega
          have ld : (List.map prD (R.eraseIdx i)).length ≤ 1000 := by rw [List.length_map]; exact Nat.le_trans (List.length_eraseIdx_le ..) lR
          have cuts : dSlc.cutV' (R.map prD) none (some (i : Int)) ++ dSlc.cutV' (R.map prD) (some ((i : Int) + 1)) none = (R.eraseIdx i).map prD := by
            rw [cut_take (by rw [List.length_map]; omega), show ((i : Int) + 1) = ((i + 1 : Nat) : Int) from rfl, cut_drop, ← List.map_take, ← List.map_drop, ← List.map_append, List.eraseIdx_eq_take_drop_succ]
          simp -implicitDefEqProofs only [t__law_list, ↓XP, ↓x_ifs, ↓XU, XU, XQ, eq_self, List.reverse_cons, List.reverse_nil, Int.cast_ofNat_Int, List.length_cons, List.length_nil, List.nil_append, List.cons_append, ne_eq, Nat.reduceAdd, Nat.reduceLeDiff, Int.reduceEq, Int.reduceLT, Int.reduceLE, Int.reduceToNat, Int.reducePow, Int.reduceAdd, Int.reduceMul, Int.reduceSub, Int.reduceNeg, List.getElem?_cons_zero, List.getElem?_cons_succ, dd_is_integer]
          rw [← List.length_append, cuts, show F.map prD ++ [D.tup [D.int p.1, D.int p.2]] = (F ++ [p]).map prD by rw [List.map_append]; rfl]
          refine ⟨Nat.le_trans ld (by decide), by rw [lenF]; exact Nat.lt_of_le_of_lt (m := 1000) (by omega) (by decide), Nat.lt_of_le_of_lt (m := 1000) (by omega) (by decide), ms, rfl, hs, fun qs hq => ?_⟩
          obtain ⟨I2, hfr⟩ := I.step hp
          obtain ⟨pb1, pb2, pb3⟩ := standB_iff.mp (I.rs p (List.mem_of_getElem? hp))
          have hk2 := hk.put (a := p.1) (b := p.2) (v := .bl true)
          have ple := put_len (es := es) (k := [.inl p.1, .inl p.2]) (v := .bl true)
          rw [show F ++ [(p.1, p.2)] = F ++ [p] from rfl] at hk2
          generalize putD es [.inl p.1, .inl p.2] (.bl true) = es2 at hk2 ple ⊢
          generalize R.eraseIdx i = R1 at I2 hfr
          refine for_inv (fun r G => ∃ (R2 rest : List (Int × Int)) (o10 o11 : Option SC), r = rest.map prD ∧ ListInv ms a b (F ++ [p]) R2 ∧ (∀ q ∈ R2, q ∉ rest) ∧ rest.Nodup ∧ (∀ q ∈ rest, RedP ms a b p q) ∧ G = ⟨[some (.dat .src), some (.dat (.lst (ms.map prD))), some (.dat (.int a)), some (.dat (.int b)), some (.dat (.int m)), some (.own (.lst (R2.map prD))), some (.own (.lst ((F ++ [p]).map prD))), some (.own (.dT es2)), some (.dat (.int i)), some (.dat (.tup [.int p.1, .int p.2])), o10, o11], v_j⟩) ?_ _ ?_ _ ⟨R1, qs, _, _, rfl, I2, fun q h1 h2 => hfr q h1 ((hq.2 q).mp h2), hq.nodup, fun q h2 => (hq.2 q).mp h2, rfl⟩
          · rintro G ⟨R2, rest, o10, o11, e1, I3, _, _, _, rfl⟩
            exact hN (k - 1) _ (by omega) ⟨F ++ [p], R2, es2, _, _, _, _, _, I3, hk2, by rw [List.length_append, List.length_singleton]; omega, by rw [List.length_append, List.length_singleton]; omega, fun _ => by rw [List.length_append, List.length_singleton]; omega, ⟨by omega, by rw [List.length_append, List.length_singleton]; omega⟩, rfl⟩
          · rintro d r G M hsb ⟨R2, rest, o10, o11, e1, I3, f1, f2, f3, rfl⟩ hM
            cases rest with
            | nil => cases e1
            | cons q rest =>
              obtain ⟨rfl, rfl⟩ := List.cons.inj (show d :: r = .tup [.int q.1, .int q.2] :: rest.map prD from e1)
              have qr := f3 q List.mem_cons_self
              have q2 : q ∉ R2 := fun z => f1 q z List.mem_cons_self
              have fr2 : ∀ x ∈ R2, x ∉ rest := fun x hx z => f1 x hx (List.mem_cons_of_mem _ z)
              have nr := List.nodup_cons.mp f2
              have rl2 := I3.rlen b1
              simp -implicitDefEqProofs only [t__law_list, ↓XP, ↓x_ifs, ↓XU, XU, XQ, eq_self, List.reverse_cons, List.reverse_nil, Int.cast_ofNat_Int, List.length_cons, List.length_nil, List.nil_append, List.cons_append, ne_eq, Nat.reduceAdd, Nat.reduceLeDiff, Int.reduceEq, Int.reduceLT, Int.reduceLE, Int.reduceToNat, Int.reducePow, Int.reduceAdd, Int.reduceMul, Int.reduceSub, Int.reduceNeg, List.getElem?_cons_zero, List.getElem?_cons_succ, dd_is_integer]
              refine ⟨ms, rfl, hs, fun qs2 hq2 => ?_⟩
              try (simp -implicitDefEqProofs only [t__law_list, ↓XP, ↓x_ifs, ↓XU, XU, XQ, eq_self, List.reverse_cons, List.reverse_nil, Int.cast_ofNat_Int, List.length_cons, List.length_nil, List.nil_append, List.cons_append, ne_eq, Nat.reduceAdd, Nat.reduceLeDiff, Int.reduceEq, Int.reduceLT, Int.reduceLE, Int.reduceToNat, Int.reducePow, Int.reduceAdd, Int.reduceMul, Int.reduceSub, Int.reduceNeg, List.getElem?_cons_zero, List.getElem?_cons_succ, dd_is_integer])
              refine ⟨by rw [List.length_map]; exact Nat.le_trans (src_len hs hq2) (by decide), ?_⟩
              refine lc_prs (fun x => !decide (x ∈ F ++ [p])) prD (fun x hx k k' qq => ?_) ?_
              · have k3 := hk2 x.1 x.2
                by_cases z : (x.1, x.2) ∈ F ++ [p]
                · rw [decide_eq_true z] at k3
                  rw [if_neg (by rw [decide_eq_true (show x ∈ F ++ [p] from z)]; decide)] at qq
                  simp -implicitDefEqProofs only [t__law_list, ↓XP, ↓x_ifs, ↓XU, XU, XQ, eq_self, List.reverse_cons, List.reverse_nil, Int.cast_ofNat_Int, List.length_cons, List.length_nil, List.nil_append, List.cons_append, ne_eq, Nat.reduceAdd, Nat.reduceLeDiff, Int.reduceEq, Int.reduceLT, Int.reduceLE, Int.reduceToNat, Int.reducePow, Int.reduceAdd, Int.reduceMul, Int.reduceSub, Int.reduceNeg, List.getElem?_cons_zero, List.getElem?_cons_succ, dd_is_integer, k3]
                  exact qq
                · rw [decide_eq_false z] at k3
                  rw [if_pos (by rw [decide_eq_false (show ¬ x ∈ F ++ [p] from z)]; rfl)] at qq
                  simp -implicitDefEqProofs only [t__law_list, ↓XP, ↓x_ifs, ↓XU, XU, XQ, eq_self, List.reverse_cons, List.reverse_nil, Int.cast_ofNat_Int, List.length_cons, List.length_nil, List.nil_append, List.cons_append, ne_eq, Nat.reduceAdd, Nat.reduceLeDiff, Int.reduceEq, Int.reduceLT, Int.reduceLE, Int.reduceToNat, Int.reducePow, Int.reduceAdd, Int.reduceMul, Int.reduceSub, Int.reduceNeg, List.getElem?_cons_zero, List.getElem?_cons_succ, dd_is_integer, k3]
                  exact qq
              simp -implicitDefEqProofs only [t__law_list, ↓XP, ↓x_ifs, ↓XU, XU, XQ, eq_self, List.reverse_cons, List.reverse_nil, Int.cast_ofNat_Int, List.length_cons, List.length_nil, List.nil_append, List.cons_append, ne_eq, Nat.reduceAdd, Nat.reduceLeDiff, Int.reduceEq, Int.reduceLT, Int.reduceLE, Int.reduceToNat, Int.reducePow, Int.reduceAdd, Int.reduceMul, Int.reduceSub, Int.reduceNeg, List.getElem?_cons_zero, List.getElem?_cons_succ, dd_is_integer]
              refine q_src ?_
              have hst : decide ((qs2.filter fun x => !decide (x ∈ F ++ [p])) = []) = standB ms a b (F ++ [p]) q := by
                rw [Bool.eq_iff_iff, decide_eq_true_iff, standB_iff, List.filter_eq_nil_iff]
                constructor
                · intro w
                  refine ⟨qr.1, I3.red hs pb2 pb1 qr I.cl, fun x hx => ?_⟩
                  have := w x ((hq2.2 x).mpr hx)
                  simp only [Bool.not_eq_true', decide_eq_false_iff_not, Classical.not_not] at this
                  exact this
                · rintro ⟨_, _, w⟩ x hx
                  have := w x ((hq2.2 x).mp hx)
                  simp only [Bool.not_eq_true', decide_eq_false_iff_not, Classical.not_not]
                  exact this
              rw [hst]
              cases hb : standB ms a b (F ++ [p]) q with
              | true =>
                simp -implicitDefEqProofs only [t__law_list, ↓XP, ↓x_ifs, ↓XU, XU, XQ, eq_self, List.reverse_cons, List.reverse_nil, Int.cast_ofNat_Int, List.length_cons, List.length_nil, List.nil_append, List.cons_append, ne_eq, Nat.reduceAdd, Nat.reduceLeDiff, Int.reduceEq, Int.reduceLT, Int.reduceLE, Int.reduceToNat, Int.reducePow, Int.reduceAdd, Int.reduceMul, Int.reduceSub, Int.reduceNeg, List.getElem?_cons_zero, List.getElem?_cons_succ, dd_is_integer]
                refine ⟨by rw [List.length_map]; exact Nat.lt_of_le_of_lt (m := 1000) (by omega) (by decide), ?_⟩
                rw [show R2.map prD ++ [D.tup [D.int q.1, D.int q.2]] = (R2 ++ [q]).map prD by rw [List.map_append]; rfl]
                refine hM _ ⟨R2 ++ [q], rest, _, _, rfl, I3.add hb q2, fun x hx => ?_, nr.2, fun x hx => f3 x (List.mem_cons_of_mem _ hx), rfl⟩
                rcases List.mem_append.mp hx with hx | hx
                · exact fr2 x hx
                · rw [List.mem_singleton] at hx; subst hx; exact nr.1
              | false =>
                simp -implicitDefEqProofs only [t__law_list, ↓XP, ↓x_ifs, ↓XU, XU, XQ, eq_self, List.reverse_cons, List.reverse_nil, Int.cast_ofNat_Int, List.length_cons, List.length_nil, List.nil_append, List.cons_append, ne_eq, Nat.reduceAdd, Nat.reduceLeDiff, Int.reduceEq, Int.reduceLT, Int.reduceLE, Int.reduceToNat, Int.reducePow, Int.reduceAdd, Int.reduceMul, Int.reduceSub, Int.reduceNeg, List.getElem?_cons_zero, List.getElem?_cons_succ, dd_is_integer]
                exact hM _ ⟨R2, rest, _, _, rfl, I3, fr2, nr.2, fun x hx => f3 x (List.mem_cons_of_mem _ hx), rfl⟩
        · simp -implicitDefEqProofs only [t__law_list, ↓XP, ↓x_ifs, ↓XU, XU, XQ, eq_self, List.reverse_cons, List.reverse_nil, Int.cast_ofNat_Int, List.length_cons, List.length_nil, List.nil_append, List.cons_append, ne_eq, Nat.reduceAdd, Nat.reduceLeDiff, Int.reduceEq, Int.reduceLT, Int.reduceLE, Int.reduceToNat, Int.reducePow, Int.reduceAdd, Int.reduceMul, Int.reduceSub, Int.reduceNeg, List.getElem?_cons_zero, List.getElem?_cons_succ, dd_is_integer, z2, lenF]
          exact h F c I.legal I.nd fl hsz c1 (by omega)
    · exact (List.nodup_iff_pairwise_ne.mpr ((spots_asc b1).imp prLt_ne)).sublist List.filter_sublist
    · intro q hq
      exact (List.mem_filter.mp hq).2
  · exact h.elim
theorem legal_mem {ms : List (Int × Int)} {r c : Int} : ∀ {L F : List (Int × Int)}, LegalF ms r c F L → ∀ p ∈ L, inB r c p.1 p.2 ∧ p ∉ F
  | [], _, _, p, hp => by cases hp
  | q :: L, F, h, p, hp => by
    obtain ⟨h1, h2, _⟩ := standB_iff.mp h.1
    rcases List.mem_cons.mp hp with rfl | hp
    · exact ⟨h1, h2⟩
    · obtain ⟨a, b⟩ := legal_mem h.2 p hp
      exact ⟨a, fun z => b (List.mem_append_left _ z)⟩
theorem legal_nodup {ms : List (Int × Int)} {r c : Int} : ∀ {L F : List (Int × Int)}, LegalF ms r c F L → L.Nodup
  | [], _, _ => List.nodup_nil
  | q :: L, F, h => List.nodup_cons.mpr ⟨fun z => (legal_mem h.2 q z).2 (List.mem_append_right _ (List.mem_singleton_self _)), legal_nodup h.2⟩
theorem legal_take {ms : List (Int × Int)} {r c : Int} : ∀ {L F : List (Int × Int)} (k : Nat), LegalF ms r c F L → LegalF ms r c F (L.take k)
  | [], _, k, _ => by rw [List.take_nil]; trivial
  | q :: L, F, 0, _ => trivial
  | q :: L, F, k + 1, h => ⟨h.1, legal_take k h.2⟩
theorem break_bnd {ms : List (Int × Int)} {v : Int × Int} {r c : Int} : ∀ {L F : List (Int × Int)} {o : Option (Int × (Int × Int))}, BreakP ms v r c F L o → o = none ∨ ∃ i q, o = some (i, q) ∧ (F.length : Int) ≤ i ∧ i < F.length + L.length ∧ inB r c q.1 q.2
  | [], _, _, h => .inl h
  | p :: L, F, o, h => by
    rcases h with ⟨_, q, d, _, _, rfl⟩ | ⟨_, h⟩
    · refine .inr ⟨_, q, rfl, Int.le_refl _, by rw [List.length_cons]; omega, ?_⟩
      rcases d.2 with e | e
      · rw [e]; exact d.1
      · exact e.1.1
    · rcases break_bnd h with h | ⟨i, q, e, h1, h2, h3⟩
      · exact .inl h
      · rw [List.length_append, List.length_singleton] at h1 h2
        exact .inr ⟨i, q, e, by omega, by rw [List.length_cons]; omega, h3⟩
theorem break_shw {ms L : List (Int × Int)} {v : Int × Int} {r c : Int} {o : Option (Int × (Int × Int))} (hr : sizeB r) (hc : sizeB c) (hl : L.length ≤ 400) (h : BreakP ms v r c [] L o) : Shw 2 2000 (breakD o) := by
  unfold sizeB at hr hc
  rcases break_bnd h with rfl | ⟨i, q, rfl, h1, h2, h3⟩
  · exact shw_clo (by decide +kernel) (by decide +kernel) (by decide +kernel)
  · unfold inB at h3
    simp only [List.length_nil] at h1 h2
    refine (shw_tup (k := 1) (m := 609) fun d hd => ?_).mono (by decide) (by simp only [List.length_cons, List.length_nil]; decide)
    simp only [List.mem_cons, List.not_mem_nil, or_false] at hd
    rcases hd with rfl | rfl
    · exact (shw_int (by omega)).mono (by decide) (by decide)
    · exact shw_pair (by omega) (by omega)
theorem dem_least {ms F : List (Int × Int)} {v : Int × Int} {r c : Int} {p : Int × Int} (h : ∃ q, DemP ms v r c p q ∧ q ∉ F) : ∃ q, (DemP ms v r c p q ∧ q ∉ F) ∧ ∀ q', DemP ms v r c p q' ∧ q' ∉ F → prLe q q' := by
  have lst : ∃ A : List (Int × Int), ∀ q, q ∈ A ↔ DemP ms v r c p q ∧ q ∉ F := by
    have dec : ∀ q, Decidable (DemP ms v r c p q ∧ q ∉ F) := fun q => Classical.propDecidable _
    refine ⟨((p.1 - v.1, p.2 - v.2) :: ms.map fun s => (p.1 - v.1 + s.1, p.2 - v.2 + s.2)).filter fun q => @decide _ (dec q), fun q => ?_⟩
    rw [List.mem_filter, decide_eq_true_iff]
    refine ⟨fun z => z.2, fun z => ⟨?_, z⟩⟩
    rcases z.1.2 with e | ⟨⟨_, s, hs, e⟩, _⟩
    · rw [e]; exact List.mem_cons_self
    · rw [e]; exact List.mem_cons_of_mem _ (List.mem_map.mpr ⟨s, hs, rfl⟩)
  obtain ⟨A, hA⟩ := lst
  have hne : A ≠ [] := fun z => by
    obtain ⟨q, hq⟩ := h
    have := (hA q).mpr hq
    rw [z] at this; cases this
  have least : ∀ A : List (Int × Int), A ≠ [] → ∃ m ∈ A, ∀ q ∈ A, prLe m q := by
    intro A
    induction A with
    | nil => exact fun z => absurd rfl z
    | cons a A ih =>
      intro _
      by_cases z : A = []
      · subst z
        exact ⟨a, List.mem_cons_self, fun q hq => by rw [List.mem_singleton] at hq; subst hq; exact .inr ⟨rfl, Int.le_refl _⟩⟩
      · obtain ⟨m, hm, h⟩ := ih z
        by_cases w : prLe a m
        · refine ⟨a, List.mem_cons_self, fun q hq => ?_⟩
          rcases List.mem_cons.mp hq with rfl | hq
          · exact .inr ⟨rfl, Int.le_refl _⟩
          · have := h q hq
            unfold prLe at this w ⊢
            omega
        · refine ⟨m, List.mem_cons_of_mem _ hm, fun q hq => ?_⟩
          rcases List.mem_cons.mp hq with rfl | hq
          · unfold prLe at w ⊢
            omega
          · exact h q hq
  obtain ⟨m, hm, hl⟩ := least A hne
  exact ⟨m, (hA m).mp hm, fun q' hq => hl q' ((hA q').mpr hq)⟩
theorem fault_shape {ms : List (Int × Int)} {r c : Int} : ∀ {ds : List D} {F : List (Int × Int)}, (legalB ms r c F ds = true ∧ faultLs ms r c F ds = .tup []) ∨ (legalB ms r c F ds = false ∧ ∃ i : Int, faultLs ms r c F ds = .tup [.int i])
  | [], F => .inl ⟨rfl, rfl⟩
  | d :: re, F => by
    rw [legalB, faultLs]
    cases hp : pairD d with
    | false => exact .inr ⟨rfl, _, if_neg (by decide)⟩
    | true =>
      rw [if_pos rfl, Bool.true_and]
      cases hst : standB ms r c F (pairOf d) with
      | false => exact .inr ⟨rfl, _, if_neg (by decide)⟩
      | true =>
        rw [if_pos rfl, Bool.true_and]
        exact fault_shape
theorem q_one {x : D} {f : Bool → Prop} (hp : Pl 19 x) (h : f false) : eqQ (.tup [x]) (.tup []) f := by
  have e : eqD (.tup [x]) (.tup []) = false := by unfold eqD; simp [toPy, toPys, PyData.eqv, PyData.eqvAll]
  show Pl 20 _ ∧ Pl 20 _ ∧ f (eqD _ _)
  rw [e]
  exact ⟨fun d hd => by rw [List.mem_singleton] at hd; subst hd; exact hp, fun d hd => (by cases hd), h⟩
theorem q_fault {ms : List (Int × Int)} {r c : Int} {d : D} {f : Bool → Prop} (h : f (listB ms r c d)) : eqQ (faultLD ms r c d) (.tup []) f := by
  have non : f false → eqQ (.tup [.non]) (.tup []) f := fun h => q_one trivial h
  unfold faultLD listB at *
  split at h
  · rename_i ds
    by_cases c1 : ds.length ≤ 400
    · rw [decide_eq_true c1, Bool.true_and] at h
      rw [if_pos c1]
      rcases fault_shape (ms := ms) (r := r) (c := c) (ds := ds) (F := []) with ⟨e1, e2⟩ | ⟨e1, i, e2⟩
      · rw [e1] at h
        rw [e2]
        exact q_tt0 h
      · rw [e1] at h
        rw [e2]
        exact q_one trivial h
    · rw [decide_eq_false c1, Bool.false_and] at h
      rw [if_neg c1]
      exact non h
  · exact non h
theorem legal_listB {ms : List (Int × Int)} {r c : Int} : ∀ {L F : List (Int × Int)}, LegalF ms r c F L → legalB ms r c F (L.map prD) = true
  | [], _, _ => rfl
  | p :: L, F, h => by
    rw [List.map_cons, legalB, show pairD (prD p) = true from rfl, Bool.true_and, show pairOf (prD p) = p from rfl, h.1, Bool.true_and]
    exact legal_listB h.2
theorem itemOk_pr {p : Int × Int} (h1 : p.1.natAbs < 10 ^ 300) (h2 : p.2.natAbs < 10 ^ 300) : ItemOk (prD p) := ⟨rfl, (shw_pair h1 h2).mono (by decide) (by decide)⟩
theorem anyOk_lst {es : List D} (h : ∀ d ∈ es, ItemOk d) (hl : es.length ≤ 421) : AnyOk (.lst es) := by
  refine ⟨?_, (shw_lst (k := 3) (m := 700) fun d hd => (h d hd).sh).mono (by decide) ?_⟩
  · show es.all okE = true
    rw [List.all_eq_true]
    exact fun d hd => (h d hd).ok
  · have := Nat.mul_le_mul_right (700 + 2) hl
    omega
theorem L_is_list : ∀ n ds Q, S_is_list n ds Q → ds.length = ps_is_list.length := by
  intro n ds Q h
  unfold S_is_list at h
  split at h <;> first | exact h.elim | rfl
theorem l_is_list : ∀ n ds Q, S_is_list n ds Q → t_is_list (defE Q) (startG n N_is_list ds) := by
  intro n ds Q h
  unfold S_is_list at h
  split at h
  · rename_i ds r c d
    show t_is_list (defE Q) ⟨[some (.dat (.lst ds)), some (.dat (.int r)), some (.dat (.int c)), some (.dat (d))], n⟩
    obtain ⟨ms, rfl, hs, hr, hc, ok, h⟩ := h
    obtain ⟨s1, s2⟩ := steps_need hs
    simp -implicitDefEqProofs only [t_is_list, ↓XP, ↓x_ifs, ↓XU, XU, XQ, eq_self, List.reverse_cons, List.reverse_nil, Int.cast_ofNat_Int, List.length_cons, List.length_nil, List.nil_append, List.cons_append, ne_eq, Nat.reduceAdd, Nat.reduceLeDiff, Int.reduceEq, Int.reduceLT, Int.reduceLE, Int.reduceToNat, Int.reducePow, Int.reduceAdd, Int.reduceMul, Int.reduceSub, Int.reduceNeg, List.getElem?_cons_zero, List.getElem?_cons_succ, dd_is_integer]
    refine ⟨s1, s2, hr, hc, ms, rfl, hs, ok, ?_⟩
    try (simp -implicitDefEqProofs only [t_is_list, ↓XP, ↓x_ifs, ↓XU, XU, XQ, eq_self, List.reverse_cons, List.reverse_nil, Int.cast_ofNat_Int, List.length_cons, List.length_nil, List.nil_append, List.cons_append, ne_eq, Nat.reduceAdd, Nat.reduceLeDiff, Int.reduceEq, Int.reduceLT, Int.reduceLE, Int.reduceToNat, Int.reducePow, Int.reduceAdd, Int.reduceMul, Int.reduceSub, Int.reduceNeg, List.getElem?_cons_zero, List.getElem?_cons_succ, dd_is_integer])
    refine q_fault ?_
    try (simp -implicitDefEqProofs only [t_is_list, ↓XP, ↓x_ifs, ↓XU, XU, XQ, eq_self, List.reverse_cons, List.reverse_nil, Int.cast_ofNat_Int, List.length_cons, List.length_nil, List.nil_append, List.cons_append, ne_eq, Nat.reduceAdd, Nat.reduceLeDiff, Int.reduceEq, Int.reduceLT, Int.reduceLE, Int.reduceToNat, Int.reducePow, Int.reduceAdd, Int.reduceMul, Int.reduceSub, Int.reduceNeg, List.getElem?_cons_zero, List.getElem?_cons_succ, dd_is_integer])
    exact h
  · exact h.elim
theorem L__law_is_list : ∀ n ds Q, S__law_is_list n ds Q → ds.length = ps__law_is_list.length := by
  intro n ds Q h
  unfold S__law_is_list at h
  split at h <;> first | exact h.elim | rfl
theorem l__law_is_list : ∀ n ds Q, S__law_is_list n ds Q → t__law_is_list (defE Q) (startG n N__law_is_list ds) := by
  intro n ds Q h
  unfold S__law_is_list at h
  split at h
  · rename_i ds r c d
    show t__law_is_list (defE Q) ⟨[some (.dat (.lst ds)), some (.dat (.int r)), some (.dat (.int c)), some (.dat (d)), none, none, none, none], n⟩
    obtain ⟨ms, rfl, hs, ok, h⟩ := h
    cases d <;> first | exact absurd ok Bool.false_ne_true | (simp -implicitDefEqProofs only [t__law_is_list, ↓XP, ↓x_ifs, ↓XU, XU, XQ, eq_self, List.reverse_cons, List.reverse_nil, Int.cast_ofNat_Int, List.length_cons, List.length_nil, List.nil_append, List.cons_append, ne_eq, Nat.reduceAdd, Nat.reduceLeDiff, Int.reduceEq, Int.reduceLT, Int.reduceLE, Int.reduceToNat, Int.reducePow, Int.reduceAdd, Int.reduceMul, Int.reduceSub, Int.reduceNeg, List.getElem?_cons_zero, List.getElem?_cons_succ, dd_is_integer]; exact h) | skip
    rename_i ds
    have ok : ds.all okE = true := ok
    by_cases c1 : ds.length ≤ 400
    · have c2 : ¬ (400 : Int) < ds.length := by omega
      rw [show listB ms r c (.lst ds) = legalB ms r c [] ds by unfold listB; simp only; rw [decide_eq_true c1, Bool.true_and]] at h
      simp -implicitDefEqProofs only [t__law_is_list, ↓XP, ↓x_ifs, ↓XU, XU, XQ, eq_self, List.reverse_cons, List.reverse_nil, Int.cast_ofNat_Int, List.length_cons, List.length_nil, List.nil_append, List.cons_append, ne_eq, Nat.reduceAdd, Nat.reduceLeDiff, Int.reduceEq, Int.reduceLT, Int.reduceLE, Int.reduceToNat, Int.reducePow, Int.reduceAdd, Int.reduceMul, Int.reduceSub, Int.reduceNeg, List.getElem?_cons_zero, List.getElem?_cons_succ, dd_is_integer, c2]
      refine for_inv (fun rr G => ∃ (F : List (Int × Int)) (es : List (List Key × D)) (o1 o2 o3 : Option SC), (∀ d ∈ rr, okE d = true) ∧ F.length + rr.length ≤ 400 ∧ HasKeys es F ∧ es.length ≤ F.length ∧ Q (.dat (.bl (legalB ms r c F rr))) n ∧ G = ⟨[some (.dat (.lst (ms.map prD))), some (.dat (.int r)), some (.dat (.int c)), some (.dat (.lst ds)), some (.own (.dT es)), o1, o2, o3], n⟩) ?_ _ ?_ _ ⟨[], [], none, none, none, fun d hd => List.all_eq_true.mp ok d hd, by simpa using c1, HasKeys.nil, Nat.le_refl _, h, rfl⟩
      · rintro G ⟨F, es, o1, o2, o3, _, _, _, _, h, rfl⟩
        simp -implicitDefEqProofs only [t__law_is_list, ↓XP, ↓x_ifs, ↓XU, XU, XQ, eq_self, List.reverse_cons, List.reverse_nil, Int.cast_ofNat_Int, List.length_cons, List.length_nil, List.nil_append, List.cons_append, ne_eq, Nat.reduceAdd, Nat.reduceLeDiff, Int.reduceEq, Int.reduceLT, Int.reduceLE, Int.reduceToNat, Int.reducePow, Int.reduceAdd, Int.reduceMul, Int.reduceSub, Int.reduceNeg, List.getElem?_cons_zero, List.getElem?_cons_succ, dd_is_integer]
        exact h
      · rintro d rr G N hsub ⟨F, es, o1, o2, o3, okA, lF, e3, e4, h, rfl⟩ hN
        have okd := okA d List.mem_cons_self
        rw [List.length_cons] at lF
        have bad : pairD d = false → Q (.dat (.bl false)) n := fun z => by rw [legalB, z] at h; exact h
        cases d <;> first | exact absurd okd Bool.false_ne_true | (simp -implicitDefEqProofs only [t__law_is_list, ↓XP, ↓x_ifs, ↓XU, XU, XQ, eq_self, List.reverse_cons, List.reverse_nil, Int.cast_ofNat_Int, List.length_cons, List.length_nil, List.nil_append, List.cons_append, ne_eq, Nat.reduceAdd, Nat.reduceLeDiff, Int.reduceEq, Int.reduceLT, Int.reduceLE, Int.reduceToNat, Int.reducePow, Int.reduceAdd, Int.reduceMul, Int.reduceSub, Int.reduceNeg, List.getElem?_cons_zero, List.getElem?_cons_succ, dd_is_integer]; exact bad rfl) | skip
        rename_i xs
        by_cases l2 : xs.length = 2
        · have l3 : (xs.length : Int) = 2 := by omega
          have okx : ∀ x ∈ xs, okD x = true := fun x hx => List.all_eq_true.mp (show xs.all okD = true from okd) x hx
          simp -implicitDefEqProofs only [t__law_is_list, ↓XP, ↓x_ifs, ↓XU, XU, XQ, eq_self, List.reverse_cons, List.reverse_nil, Int.cast_ofNat_Int, List.length_cons, List.length_nil, List.nil_append, List.cons_append, ne_eq, Nat.reduceAdd, Nat.reduceLeDiff, Int.reduceEq, Int.reduceLT, Int.reduceLE, Int.reduceToNat, Int.reducePow, Int.reduceAdd, Int.reduceMul, Int.reduceSub, Int.reduceNeg, List.getElem?_cons_zero, List.getElem?_cons_succ, dd_is_integer, l3]
          refine for_inv (fun r2 G => ∃ (pre : List D) (o2 : Option SC), xs = pre ++ r2 ∧ (∀ x ∈ pre, intD x = true) ∧ G = ⟨[some (.dat (.lst (ms.map prD))), some (.dat (.int r)), some (.dat (.int c)), some (.dat (.lst ds)), some (.own (.dT es)), some (.dat (.tup xs)), o2, o3], n⟩) ?_ _ ?_ _ ⟨[], _, rfl, fun x hx => (by cases hx), rfl⟩
          · rintro G ⟨pre, o2, e1, f1, rfl⟩
            rw [List.append_nil] at e1
            subst e1
            have hp : pairD (.tup xs) = true := by
              show (decide (xs.length = 2) && xs.all intD) = true
              rw [decide_eq_true l2, Bool.true_and, List.all_eq_true]; exact f1
            obtain ⟨a, b, e2⟩ := pair_cases hp
            injection e2 with e2
            subst e2
            have h : Q (.dat (.bl (standB ms r c F (a, b) && legalB ms r c (F ++ [(a, b)]) rr))) n := h
            have no : standB ms r c F (a, b) = false → Q (.dat (.bl false)) n := fun z => by rw [z, Bool.false_and] at h; exact h
            have k3 := e3 a b
            have sF : boxB r c (a, b) = false → Q (.dat (.bl false)) n := fun z => no (by unfold standB; rw [z, Bool.false_and])
            by_cases b1 : 0 ≤ a
            · by_cases b2 : a < r
              · by_cases b3 : 0 ≤ b
                · by_cases b4 : b < c
                  · by_cases z : (a, b) ∈ F
                    · rw [decide_eq_true z] at k3
                      simp -implicitDefEqProofs only [t__law_is_list, ↓XP, ↓x_ifs, ↓XU, XU, XQ, eq_self, List.reverse_cons, List.reverse_nil, Int.cast_ofNat_Int, List.length_cons, List.length_nil, List.nil_append, List.cons_append, ne_eq, Nat.reduceAdd, Nat.reduceLeDiff, Int.reduceEq, Int.reduceLT, Int.reduceLE, Int.reduceToNat, Int.reducePow, Int.reduceAdd, Int.reduceMul, Int.reduceSub, Int.reduceNeg, List.getElem?_cons_zero, List.getElem?_cons_succ, dd_is_integer, b1, b2, b3, b4, k3]
                      exact no (by unfold standB; rw [decide_eq_true z, Bool.not_true, Bool.false_and, Bool.and_false])
                    · rw [decide_eq_false z] at k3
                      simp -implicitDefEqProofs only [t__law_is_list, ↓XP, ↓x_ifs, ↓XU, XU, XQ, eq_self, List.reverse_cons, List.reverse_nil, Int.cast_ofNat_Int, List.length_cons, List.length_nil, List.nil_append, List.cons_append, ne_eq, Nat.reduceAdd, Nat.reduceLeDiff, Int.reduceEq, Int.reduceLT, Int.reduceLE, Int.reduceToNat, Int.reducePow, Int.reduceAdd, Int.reduceMul, Int.reduceSub, Int.reduceNeg, List.getElem?_cons_zero, List.getElem?_cons_succ, dd_is_integer, b1, b2, b3, b4, k3]
                      refine ⟨ms, rfl, hs, fun qs hq => ?_⟩
                      try (simp -implicitDefEqProofs only [t__law_is_list, ↓XP, ↓x_ifs, ↓XU, XU, XQ, eq_self, List.reverse_cons, List.reverse_nil, Int.cast_ofNat_Int, List.length_cons, List.length_nil, List.nil_append, List.cons_append, ne_eq, Nat.reduceAdd, Nat.reduceLeDiff, Int.reduceEq, Int.reduceLT, Int.reduceLE, Int.reduceToNat, Int.reducePow, Int.reduceAdd, Int.reduceMul, Int.reduceSub, Int.reduceNeg, List.getElem?_cons_zero, List.getElem?_cons_succ, dd_is_integer])
                      refine ⟨by rw [List.length_map]; exact Nat.le_trans (src_len hs hq) (by decide), ?_⟩
                      refine lc_prs (fun x => !decide (x ∈ F)) prD (fun x hx k k' qq => ?_) ?_
                      · have k4 := e3 x.1 x.2
                        by_cases z : (x.1, x.2) ∈ F
                        · rw [decide_eq_true z] at k4
                          rw [if_neg (by rw [decide_eq_true (show x ∈ F from z)]; decide)] at qq
                          simp -implicitDefEqProofs only [t__law_is_list, ↓XP, ↓x_ifs, ↓XU, XU, XQ, eq_self, List.reverse_cons, List.reverse_nil, Int.cast_ofNat_Int, List.length_cons, List.length_nil, List.nil_append, List.cons_append, ne_eq, Nat.reduceAdd, Nat.reduceLeDiff, Int.reduceEq, Int.reduceLT, Int.reduceLE, Int.reduceToNat, Int.reducePow, Int.reduceAdd, Int.reduceMul, Int.reduceSub, Int.reduceNeg, List.getElem?_cons_zero, List.getElem?_cons_succ, dd_is_integer, k4]
                          exact qq
                        · rw [decide_eq_false z] at k4
                          rw [if_pos (by rw [decide_eq_false (show ¬ x ∈ F from z)]; rfl)] at qq
                          simp -implicitDefEqProofs only [t__law_is_list, ↓XP, ↓x_ifs, ↓XU, XU, XQ, eq_self, List.reverse_cons, List.reverse_nil, Int.cast_ofNat_Int, List.length_cons, List.length_nil, List.nil_append, List.cons_append, ne_eq, Nat.reduceAdd, Nat.reduceLeDiff, Int.reduceEq, Int.reduceLT, Int.reduceLE, Int.reduceToNat, Int.reducePow, Int.reduceAdd, Int.reduceMul, Int.reduceSub, Int.reduceNeg, List.getElem?_cons_zero, List.getElem?_cons_succ, dd_is_integer, k4]
                          exact qq
                      simp -implicitDefEqProofs only [t__law_is_list, ↓XP, ↓x_ifs, ↓XU, XU, XQ, eq_self, List.reverse_cons, List.reverse_nil, Int.cast_ofNat_Int, List.length_cons, List.length_nil, List.nil_append, List.cons_append, ne_eq, Nat.reduceAdd, Nat.reduceLeDiff, Int.reduceEq, Int.reduceLT, Int.reduceLE, Int.reduceToNat, Int.reducePow, Int.reduceAdd, Int.reduceMul, Int.reduceSub, Int.reduceNeg, List.getElem?_cons_zero, List.getElem?_cons_succ, dd_is_integer]
                      refine q_src ?_
                      have hst : decide ((qs.filter fun x => !decide (x ∈ F)) = []) = standB ms r c F (a, b) := by
                        rw [Bool.eq_iff_iff, decide_eq_true_iff, standB_iff, List.filter_eq_nil_iff]
                        constructor
                        · intro w
                          refine ⟨⟨b1, b2, b3, b4⟩, z, fun x hx => ?_⟩
                          have := w x ((hq.2 x).mpr hx)
                          simp only [Bool.not_eq_true', decide_eq_false_iff_not, Classical.not_not] at this
                          exact this
                        · rintro ⟨_, _, w⟩ x hx
                          have := w x ((hq.2 x).mp hx)
                          simp only [Bool.not_eq_true', decide_eq_false_iff_not, Classical.not_not]
                          exact this
                      rw [hst]
                      cases hb : standB ms r c F (a, b) with
                      | false => simp -implicitDefEqProofs only [t__law_is_list, ↓XP, ↓x_ifs, ↓XU, XU, XQ, eq_self, List.reverse_cons, List.reverse_nil, Int.cast_ofNat_Int, List.length_cons, List.length_nil, List.nil_append, List.cons_append, ne_eq, Nat.reduceAdd, Nat.reduceLeDiff, Int.reduceEq, Int.reduceLT, Int.reduceLE, Int.reduceToNat, Int.reducePow, Int.reduceAdd, Int.reduceMul, Int.reduceSub, Int.reduceNeg, List.getElem?_cons_zero, List.getElem?_cons_succ, dd_is_integer]; exact no hb
                      | true =>
                        rw [hb, Bool.true_and] at h
                        simp -implicitDefEqProofs only [t__law_is_list, ↓XP, ↓x_ifs, ↓XU, XU, XQ, eq_self, List.reverse_cons, List.reverse_nil, Int.cast_ofNat_Int, List.length_cons, List.length_nil, List.nil_append, List.cons_append, ne_eq, Nat.reduceAdd, Nat.reduceLeDiff, Int.reduceEq, Int.reduceLT, Int.reduceLE, Int.reduceToNat, Int.reducePow, Int.reduceAdd, Int.reduceMul, Int.reduceSub, Int.reduceNeg, List.getElem?_cons_zero, List.getElem?_cons_succ, dd_is_integer]
                        refine ⟨Nat.lt_of_le_of_lt (m := 400) (by omega) (by decide), ?_⟩
                        exact hN _ ⟨F ++ [(a, b)], _, _, _, _, fun d hd => okA d (List.mem_cons_of_mem _ hd), by rw [List.length_append, List.length_singleton]; omega, e3.put, by rw [List.length_append, List.length_singleton]; exact Nat.le_trans put_len (by omega), h, rfl⟩
                  · simp -implicitDefEqProofs only [t__law_is_list, ↓XP, ↓x_ifs, ↓XU, XU, XQ, eq_self, List.reverse_cons, List.reverse_nil, Int.cast_ofNat_Int, List.length_cons, List.length_nil, List.nil_append, List.cons_append, ne_eq, Nat.reduceAdd, Nat.reduceLeDiff, Int.reduceEq, Int.reduceLT, Int.reduceLE, Int.reduceToNat, Int.reducePow, Int.reduceAdd, Int.reduceMul, Int.reduceSub, Int.reduceNeg, List.getElem?_cons_zero, List.getElem?_cons_succ, dd_is_integer, b1, b2, b3, b4]; exact sF (by unfold boxB; simp only; rw [decide_eq_false b4]; simp)
                · simp -implicitDefEqProofs only [t__law_is_list, ↓XP, ↓x_ifs, ↓XU, XU, XQ, eq_self, List.reverse_cons, List.reverse_nil, Int.cast_ofNat_Int, List.length_cons, List.length_nil, List.nil_append, List.cons_append, ne_eq, Nat.reduceAdd, Nat.reduceLeDiff, Int.reduceEq, Int.reduceLT, Int.reduceLE, Int.reduceToNat, Int.reducePow, Int.reduceAdd, Int.reduceMul, Int.reduceSub, Int.reduceNeg, List.getElem?_cons_zero, List.getElem?_cons_succ, dd_is_integer, b1, b2, b3]; exact sF (by unfold boxB; simp only; rw [decide_eq_false b3]; simp)
              · simp -implicitDefEqProofs only [t__law_is_list, ↓XP, ↓x_ifs, ↓XU, XU, XQ, eq_self, List.reverse_cons, List.reverse_nil, Int.cast_ofNat_Int, List.length_cons, List.length_nil, List.nil_append, List.cons_append, ne_eq, Nat.reduceAdd, Nat.reduceLeDiff, Int.reduceEq, Int.reduceLT, Int.reduceLE, Int.reduceToNat, Int.reducePow, Int.reduceAdd, Int.reduceMul, Int.reduceSub, Int.reduceNeg, List.getElem?_cons_zero, List.getElem?_cons_succ, dd_is_integer, b1, b2]; exact sF (by unfold boxB; simp only; rw [decide_eq_false b2]; simp)
            · simp -implicitDefEqProofs only [t__law_is_list, ↓XP, ↓x_ifs, ↓XU, XU, XQ, eq_self, List.reverse_cons, List.reverse_nil, Int.cast_ofNat_Int, List.length_cons, List.length_nil, List.nil_append, List.cons_append, ne_eq, Nat.reduceAdd, Nat.reduceLeDiff, Int.reduceEq, Int.reduceLT, Int.reduceLE, Int.reduceToNat, Int.reducePow, Int.reduceAdd, Int.reduceMul, Int.reduceSub, Int.reduceNeg, List.getElem?_cons_zero, List.getElem?_cons_succ, dd_is_integer, b1]; exact sF (by unfold boxB; simp only; rw [decide_eq_false b1]; simp)
          · rintro x r2 G M hsb ⟨pre, o2, e1, f1, rfl⟩ hM
            have xin : x ∈ xs := by rw [e1]; simp
            have okx1 := okx x xin
            have bad2 : intD x = false → Q (.dat (.bl false)) n := fun z => bad (by
              show (decide (xs.length = 2) && xs.all intD) = false
              rw [Bool.and_eq_false_iff]
              exact .inr (List.all_eq_false.mpr ⟨x, xin, by rw [z]; decide⟩))
            cases x <;> first | exact absurd okx1 Bool.false_ne_true | (simp -implicitDefEqProofs only [t__law_is_list, ↓XP, ↓x_ifs, ↓XU, XU, XQ, eq_self, List.reverse_cons, List.reverse_nil, Int.cast_ofNat_Int, List.length_cons, List.length_nil, List.nil_append, List.cons_append, ne_eq, Nat.reduceAdd, Nat.reduceLeDiff, Int.reduceEq, Int.reduceLT, Int.reduceLE, Int.reduceToNat, Int.reducePow, Int.reduceAdd, Int.reduceMul, Int.reduceSub, Int.reduceNeg, List.getElem?_cons_zero, List.getElem?_cons_succ, dd_is_integer]; exact bad2 rfl) | skip
            simp -implicitDefEqProofs only [t__law_is_list, ↓XP, ↓x_ifs, ↓XU, XU, XQ, eq_self, List.reverse_cons, List.reverse_nil, Int.cast_ofNat_Int, List.length_cons, List.length_nil, List.nil_append, List.cons_append, ne_eq, Nat.reduceAdd, Nat.reduceLeDiff, Int.reduceEq, Int.reduceLT, Int.reduceLE, Int.reduceToNat, Int.reducePow, Int.reduceAdd, Int.reduceMul, Int.reduceSub, Int.reduceNeg, List.getElem?_cons_zero, List.getElem?_cons_succ, dd_is_integer]
            exact hM _ ⟨pre ++ [_], _, by rw [e1, List.append_assoc]; rfl, fun y hy => by
              rcases List.mem_append.mp hy with hy | hy
              · exact f1 y hy
              · rw [List.mem_singleton] at hy; subst hy; rfl, rfl⟩
        · have l3 : ¬ (xs.length : Int) = 2 := by omega
          simp -implicitDefEqProofs only [t__law_is_list, ↓XP, ↓x_ifs, ↓XU, XU, XQ, eq_self, List.reverse_cons, List.reverse_nil, Int.cast_ofNat_Int, List.length_cons, List.length_nil, List.nil_append, List.cons_append, ne_eq, Nat.reduceAdd, Nat.reduceLeDiff, Int.reduceEq, Int.reduceLT, Int.reduceLE, Int.reduceToNat, Int.reducePow, Int.reduceAdd, Int.reduceMul, Int.reduceSub, Int.reduceNeg, List.getElem?_cons_zero, List.getElem?_cons_succ, dd_is_integer, l3]
          exact bad (by show (decide (xs.length = 2) && xs.all intD) = false; rw [decide_eq_false l2, Bool.false_and])
    · have c2 : (400 : Int) < ds.length := by omega
      rw [show listB ms r c (.lst ds) = false by unfold listB; simp only; rw [decide_eq_false c1, Bool.false_and]] at h
      simp -implicitDefEqProofs only [t__law_is_list, ↓XP, ↓x_ifs, ↓XU, XU, XQ, eq_self, List.reverse_cons, List.reverse_nil, Int.cast_ofNat_Int, List.length_cons, List.length_nil, List.nil_append, List.cons_append, ne_eq, Nat.reduceAdd, Nat.reduceLeDiff, Int.reduceEq, Int.reduceLT, Int.reduceLE, Int.reduceToNat, Int.reducePow, Int.reduceAdd, Int.reduceMul, Int.reduceSub, Int.reduceNeg, List.getElem?_cons_zero, List.getElem?_cons_succ, dd_is_integer, c2]
      exact h
  · exact h.elim
theorem ins_ok {E : List D} {d : D} {k : Nat} (hE : ∀ x ∈ E, ItemOk x) (hd : ItemOk d) : (E.take k ++ [d] ++ E.drop k).length = E.length + 1 ∧ ∀ x ∈ E.take k ++ [d] ++ E.drop k, ItemOk x := by
  refine ⟨by simp only [List.length_append, List.length_take, List.length_drop, List.length_singleton]; omega, fun x hx => ?_⟩
  rcases List.mem_append.mp hx with hx | hx
  · rcases List.mem_append.mp hx with hx | hx
    · exact hE x (List.mem_of_mem_take hx)
    · rw [List.mem_singleton] at hx; subst hx; exact hd
  · exact hE x (List.mem_of_mem_drop hx)
theorem del_ok {E : List D} {k : Nat} (hk : k < E.length) (hE : ∀ x ∈ E, ItemOk x) : (E.take k ++ E.drop (k + 1)).length + 1 = E.length ∧ ∀ x ∈ E.take k ++ E.drop (k + 1), ItemOk x := by
  refine ⟨by simp only [List.length_append, List.length_take, List.length_drop]; omega, fun x hx => ?_⟩
  rcases List.mem_append.mp hx with hx | hx
  · exact hE x (List.mem_of_mem_take hx)
  · exact hE x (List.mem_of_mem_drop hx)
theorem cut_le {ds : List D} {lo hi : Option Int} : (dSlc.cutV' ds lo hi).length ≤ ds.length := ((List.take_sublist _ _).trans (List.drop_sublist _ _)).length_le
theorem shw_dK1 {k m : Nat} {x : Str} {d : D} (h1 : (PyData.str x).showable = true) (h2 : (PyData.str x).shown.length ≤ 20) (h : Shw k m d) : Shw (k + 1) (m + 30) (.dK [(.inr x, d)]) := by
  refine ⟨fun e he => by rw [List.mem_singleton] at he; subst he; exact h.pl, ?_, ?_⟩
  · simp only [toPy, toKv, PyData.showable, PyData.showableKv, Bool.and_true, Bool.and_eq_true]
    exact ⟨trivial, h.sh⟩
  · have : (toPy d).shown.length ≤ m := h.len
    unfold shownD
    simp only [toPy, toKv, PyData.shown]
    have e := PySem.join_length_add [(PyData.str x).shown ++ ": " ++ (toPy d).shown] (by simp)
    have e2 : (dictText (PyData.shownKv [(PyData.str x, toPy d)])).length = 1 + (Str.join ", " [(PyData.str x).shown ++ ": " ++ (toPy d).shown]).length + 1 := by
      unfold dictText
      rw [PySem.strLen_append, PySem.strLen_append]; rfl
    have e3 : ((PyData.str x).shown ++ ": " ++ (toPy d).shown).length = (PyData.str x).shown.length + 2 + (toPy d).shown.length := by
      rw [PySem.strLen_append, PySem.strLen_append]; rfl
    rw [e2]
    simp only [piled, List.map_cons, List.map_nil, List.sum_cons, List.sum_nil] at e
    omega
theorem L__law_odd_spot : ∀ n ds Q, S__law_odd_spot n ds Q → ds.length = ps__law_odd_spot.length := by
  intro n ds Q h
  unfold S__law_odd_spot at h
  split at h <;> first | exact h.elim | rfl
theorem l__law_odd_spot : ∀ n ds Q, S__law_odd_spot n ds Q → t__law_odd_spot (defE Q) (startG n N__law_odd_spot ds) := by
  intro n ds Q h
  unfold S__law_odd_spot at h
  split at h
  · rename_i a w
    show t__law_odd_spot (defE Q) ⟨[some (.dat (.src)), some (.dat (.int a)), some (.dat (.int w)), none], n⟩
    obtain ⟨⟨h1, h2⟩, ⟨w1, w2⟩, h3, hq⟩ := h
    simp -implicitDefEqProofs only [t__law_odd_spot, ↓XP, ↓x_ifs, ↓XU, XU, XQ, eq_self, List.reverse_cons, List.reverse_nil, Int.cast_ofNat_Int, List.length_cons, List.length_nil, List.nil_append, List.cons_append, ne_eq, Nat.reduceAdd, Nat.reduceLeDiff, Int.reduceEq, Int.reduceLT, Int.reduceLE, Int.reduceToNat, Int.reducePow, Int.reduceAdd, Int.reduceMul, Int.reduceSub, Int.reduceNeg, List.getElem?_cons_zero, List.getElem?_cons_succ, dd_is_integer]
    (repeat (refine ⟨by (first | omega | exact cm (by omega) (by omega) | exact lg (by omega) | exact pw10 (by decide) | decide +kernel), ?_⟩))
    intro v v_j v_a v_b v_c v_d
    try (simp -implicitDefEqProofs only [t__law_odd_spot, ↓XP, ↓x_ifs, ↓XU, XU, XQ, eq_self, List.reverse_cons, List.reverse_nil, Int.cast_ofNat_Int, List.length_cons, List.length_nil, List.nil_append, List.cons_append, ne_eq, Nat.reduceAdd, Nat.reduceLeDiff, Int.reduceEq, Int.reduceLT, Int.reduceLE, Int.reduceToNat, Int.reducePow, Int.reduceAdd, Int.reduceMul, Int.reduceSub, Int.reduceNeg, List.getElem?_cons_zero, List.getElem?_cons_succ, dd_is_integer])
    (repeat (refine ⟨by (first | omega | exact cm (by omega) (by omega) | exact lg (by omega) | exact pw10 (by decide) | decide +kernel), ?_⟩))
    intro z z_j z_a z_b z_c z_d
    refine at_mem z_a (by simpa using z_b) fun d hd => ?_
    refine hq d z_j ?_ (by omega) (by omega)
    simp only [List.mem_cons, List.not_mem_nil, or_false] at hd
    rcases hd with rfl | rfl | rfl | rfl | rfl | rfl | rfl | rfl | rfl | rfl | rfl | rfl | rfl | rfl | rfl | rfl | rfl | rfl | rfl
    all_goals first
      | exact ⟨rfl, shw_clo (by decide +kernel) (by decide +kernel) (by decide +kernel)⟩
      | exact itemOk_pr (p := (_, _)) (show Int.natAbs _ < _ by simp only; omega) (show Int.natAbs _ < _ by simp only; omega)
  · exact h.elim
theorem L__law_bent : ∀ n ds Q, S__law_bent n ds Q → ds.length = ps__law_bent.length := by
  intro n ds Q h
  unfold S__law_bent at h
  split at h <;> first | exact h.elim | rfl
theorem l__law_bent : ∀ n ds Q, S__law_bent n ds Q → t__law_bent (defE Q) (startG n N__law_bent ds) := by
  intro n ds Q h
  unfold S__law_bent at h
  split at h
  · rename_i ds a w
    show t__law_bent (defE Q) ⟨[some (.dat (.src)), some (.dat (.lst ds)), some (.dat (.int a)), some (.dat (.int w)), none, none, none, none, none, none], n⟩
    obtain ⟨⟨L, rfl, hl, bx⟩, ⟨h1, h2⟩, ⟨w1, w2⟩, h3, hq⟩ := h
    have itL : ∀ d ∈ L.map prD, ItemOk d := fun d hd => by
      obtain ⟨p, hp, rfl⟩ := List.mem_map.mp hd
      have := bx p hp
      unfold inB at this
      exact itemOk_pr (by omega) (by omega)
    have lL : (L.map prD).length = L.length := List.length_map ..
    have LN : (L.map prD).length ≤ sizeLine := by rw [lL]; exact Nat.le_trans hl (by decide)
    have fin : ∀ (es : List D) (j : Nat), es.length ≤ L.length + 1 → (∀ d ∈ es, ItemOk d) → n ≤ j → j ≤ n + 5 → Q (.new (.lst es)) j := fun es j e1 e2 e3 e4 => hq es j (by rw [lL]; exact e1) e2 e3 e4
    have small : ∀ {j : Nat}, j ≤ 402 → j ≤ sizeLine := fun h => Nat.le_trans h (by decide)
    simp -implicitDefEqProofs only [t__law_bent, ↓XP, ↓x_ifs, ↓XU, XU, XQ, eq_self, List.reverse_cons, List.reverse_nil, Int.cast_ofNat_Int, List.length_cons, List.length_nil, List.nil_append, List.cons_append, ne_eq, Nat.reduceAdd, Nat.reduceLeDiff, Int.reduceEq, Int.reduceLT, Int.reduceLE, Int.reduceToNat, Int.reducePow, Int.reduceAdd, Int.reduceMul, Int.reduceSub, Int.reduceNeg, List.getElem?_cons_zero, List.getElem?_cons_succ, dd_is_integer]
    (repeat (refine ⟨by (first | omega | exact cm (by omega) (by omega) | exact lg (by omega) | exact pw10 (by decide) | decide +kernel), ?_⟩))
    intro i i_j i_a i_b i_c i_d
    try (simp -implicitDefEqProofs only [t__law_bent, ↓XP, ↓x_ifs, ↓XU, XU, XQ, eq_self, List.reverse_cons, List.reverse_nil, Int.cast_ofNat_Int, List.length_cons, List.length_nil, List.nil_append, List.cons_append, ne_eq, Nat.reduceAdd, Nat.reduceLeDiff, Int.reduceEq, Int.reduceLT, Int.reduceLE, Int.reduceToNat, Int.reducePow, Int.reduceAdd, Int.reduceMul, Int.reduceSub, Int.reduceNeg, List.getElem?_cons_zero, List.getElem?_cons_succ, dd_is_integer])
    refine q_src ?_
    by_cases z : L = []
    · rw [decide_eq_true z]
      simp -implicitDefEqProofs only [t__law_bent, ↓XP, ↓x_ifs, ↓XU, XU, XQ, eq_self, List.reverse_cons, List.reverse_nil, Int.cast_ofNat_Int, List.length_cons, List.length_nil, List.nil_append, List.cons_append, ne_eq, Nat.reduceAdd, Nat.reduceLeDiff, Int.reduceEq, Int.reduceLT, Int.reduceLE, Int.reduceToNat, Int.reducePow, Int.reduceAdd, Int.reduceMul, Int.reduceSub, Int.reduceNeg, List.getElem?_cons_zero, List.getElem?_cons_succ, dd_is_integer, lL]
      (repeat (refine ⟨by (first | omega | exact cm (by omega) (by omega) | exact lg (by omega) | exact pw10 (by decide) | decide +kernel), ?_⟩))
      intro k k_j k_a k_b k_c k_d
      try (simp -implicitDefEqProofs only [t__law_bent, ↓XP, ↓x_ifs, ↓XU, XU, XQ, eq_self, List.reverse_cons, List.reverse_nil, Int.cast_ofNat_Int, List.length_cons, List.length_nil, List.nil_append, List.cons_append, ne_eq, Nat.reduceAdd, Nat.reduceLeDiff, Int.reduceEq, Int.reduceLT, Int.reduceLE, Int.reduceToNat, Int.reducePow, Int.reduceAdd, Int.reduceMul, Int.reduceSub, Int.reduceNeg, List.getElem?_cons_zero, List.getElem?_cons_succ, dd_is_integer])
      obtain ⟨k, rfl⟩ : ∃ u : Nat, k = u := ⟨k.toNat, by omega⟩
      refine ⟨⟨by omega, by omega⟩, ⟨by omega, by omega⟩, by omega, fun d j hd j1 j2 => ?_⟩
      obtain ⟨g1, g2⟩ := ins_ok (k := k) itL hd
      have g3 : (List.map prD L).take k = dSlc.cutV' (List.map prD L) none (some (k : Int)) := (cut_take (by rw [lL]; omega)).symm
      rw [← cut_drop, g3] at g1 g2
      rw [lL] at g1
      have g4 := g1
      rw [List.length_append] at g4
      have g5 := g4
      rw [List.length_append, List.length_singleton] at g5
      exact ⟨small (by omega), small (by omega), fin _ _ (by omega) g2 (by omega) (by omega)⟩
    · rw [decide_eq_false z]
      have l1 : 1 ≤ L.length := List.length_pos_iff.mpr z
      by_cases i0 : i = 0
      · subst i0
        simp -implicitDefEqProofs only [t__law_bent, ↓XP, ↓x_ifs, ↓XU, XU, XQ, eq_self, List.reverse_cons, List.reverse_nil, Int.cast_ofNat_Int, List.length_cons, List.length_nil, List.nil_append, List.cons_append, ne_eq, Nat.reduceAdd, Nat.reduceLeDiff, Int.reduceEq, Int.reduceLT, Int.reduceLE, Int.reduceToNat, Int.reducePow, Int.reduceAdd, Int.reduceMul, Int.reduceSub, Int.reduceNeg, List.getElem?_cons_zero, List.getElem?_cons_succ, dd_is_integer, lL]
        (repeat (refine ⟨by (first | omega | exact cm (by omega) (by omega) | exact lg (by omega) | exact pw10 (by decide) | decide +kernel), ?_⟩))
        intro k k_j k_a k_b k_c k_d
        try (simp -implicitDefEqProofs only [t__law_bent, ↓XP, ↓x_ifs, ↓XU, XU, XQ, eq_self, List.reverse_cons, List.reverse_nil, Int.cast_ofNat_Int, List.length_cons, List.length_nil, List.nil_append, List.cons_append, ne_eq, Nat.reduceAdd, Nat.reduceLeDiff, Int.reduceEq, Int.reduceLT, Int.reduceLE, Int.reduceToNat, Int.reducePow, Int.reduceAdd, Int.reduceMul, Int.reduceSub, Int.reduceNeg, List.getElem?_cons_zero, List.getElem?_cons_succ, dd_is_integer])
        obtain ⟨k, rfl⟩ : ∃ u : Nat, k = u := ⟨k.toNat, by omega⟩
        refine ⟨⟨by omega, by omega⟩, ⟨by omega, by omega⟩, by omega, fun d j hd j1 j2 => ?_⟩
        obtain ⟨g1, g2⟩ := ins_ok (k := k) itL hd
        have g3 : (List.map prD L).take k = dSlc.cutV' (List.map prD L) none (some (k : Int)) := (cut_take (by rw [lL]; omega)).symm
        rw [← cut_drop, g3] at g1 g2
        rw [lL] at g1
        have g4 := g1
        rw [List.length_append] at g4
        have g5 := g4
        rw [List.length_append, List.length_singleton] at g5
        exact ⟨small (by omega), small (by omega), fin _ _ (by omega) g2 (by omega) (by omega)⟩
      · simp -implicitDefEqProofs only [t__law_bent, ↓XP, ↓x_ifs, ↓XU, XU, XQ, eq_self, List.reverse_cons, List.reverse_nil, Int.cast_ofNat_Int, List.length_cons, List.length_nil, List.nil_append, List.cons_append, ne_eq, Nat.reduceAdd, Nat.reduceLeDiff, Int.reduceEq, Int.reduceLT, Int.reduceLE, Int.reduceToNat, Int.reducePow, Int.reduceAdd, Int.reduceMul, Int.reduceSub, Int.reduceNeg, List.getElem?_cons_zero, List.getElem?_cons_succ, dd_is_integer, i0]
        (repeat (refine ⟨by (first | omega | exact cm (by omega) (by omega) | exact lg (by omega) | exact pw10 (by decide) | decide +kernel), ?_⟩))
        intro x x_j x_a x_b x_c x_d
        try (simp -implicitDefEqProofs only [t__law_bent, ↓XP, ↓x_ifs, ↓XU, XU, XQ, eq_self, List.reverse_cons, List.reverse_nil, Int.cast_ofNat_Int, List.length_cons, List.length_nil, List.nil_append, List.cons_append, ne_eq, Nat.reduceAdd, Nat.reduceLeDiff, Int.reduceEq, Int.reduceLT, Int.reduceLE, Int.reduceToNat, Int.reducePow, Int.reduceAdd, Int.reduceMul, Int.reduceSub, Int.reduceNeg, List.getElem?_cons_zero, List.getElem?_cons_succ, dd_is_integer])
        (repeat (refine ⟨by (first | omega | exact cm (by omega) (by omega) | exact lg (by omega) | exact pw10 (by decide) | decide +kernel), ?_⟩))
        intro y y_j y_a y_b y_c y_d
        try (simp -implicitDefEqProofs only [t__law_bent, ↓XP, ↓x_ifs, ↓XU, XU, XQ, eq_self, List.reverse_cons, List.reverse_nil, Int.cast_ofNat_Int, List.length_cons, List.length_nil, List.nil_append, List.cons_append, ne_eq, Nat.reduceAdd, Nat.reduceLeDiff, Int.reduceEq, Int.reduceLT, Int.reduceLE, Int.reduceToNat, Int.reducePow, Int.reduceAdd, Int.reduceMul, Int.reduceSub, Int.reduceNeg, List.getElem?_cons_zero, List.getElem?_cons_succ, dd_is_integer])
        obtain ⟨x, rfl⟩ : ∃ u : Nat, x = u := ⟨x.toNat, by omega⟩
        obtain ⟨y, rfl⟩ : ∃ u : Nat, y = u := ⟨y.toNat, by omega⟩
        have hx : x < L.length := by omega
        have hy : y < L.length := by omega
        have ax : atI (List.map prD L) (x : Int) = some (prD L[x]) := atI_nat (by rw [List.getElem?_map, List.getElem?_eq_getElem hx]; rfl)
        have ay : atI (List.map prD L) (y : Int) = some (prD L[y]) := atI_nat (by rw [List.getElem?_map, List.getElem?_eq_getElem hy]; rfl)
        have ix : ItemOk (prD L[x]) := itL _ (List.mem_map.mpr ⟨_, List.getElem_mem hx, rfl⟩)
        have iy : ItemOk (prD L[y]) := itL _ (List.mem_map.mpr ⟨_, List.getElem_mem hy, rfl⟩)
        by_cases i1 : i = 1
        · subst i1
          simp -implicitDefEqProofs only [t__law_bent, ↓XP, ↓x_ifs, ↓XU, XU, XQ, eq_self, List.reverse_cons, List.reverse_nil, Int.cast_ofNat_Int, List.length_cons, List.length_nil, List.nil_append, List.cons_append, ne_eq, Nat.reduceAdd, Nat.reduceLeDiff, Int.reduceEq, Int.reduceLT, Int.reduceLE, Int.reduceToNat, Int.reducePow, Int.reduceAdd, Int.reduceMul, Int.reduceSub, Int.reduceNeg, List.getElem?_cons_zero, List.getElem?_cons_succ, dd_is_integer, ax, ay]
          refine ⟨⟨by omega, by rw [lL]; omega⟩, ⟨by omega, by rw [List.length_set, lL]; omega⟩, fin _ _ (by rw [List.length_set, List.length_set, lL]; omega) (fun d hd => ?_) (by omega) (by omega)⟩
          rcases List.mem_or_eq_of_mem_set hd with hd | rfl
          · rcases List.mem_or_eq_of_mem_set hd with hd | rfl
            · exact itL d hd
            · exact iy
          · exact ix
        · by_cases i2 : i = 2
          · subst i2
            simp -implicitDefEqProofs only [t__law_bent, ↓XP, ↓x_ifs, ↓XU, XU, XQ, eq_self, List.reverse_cons, List.reverse_nil, Int.cast_ofNat_Int, List.length_cons, List.length_nil, List.nil_append, List.cons_append, ne_eq, Nat.reduceAdd, Nat.reduceLeDiff, Int.reduceEq, Int.reduceLT, Int.reduceLE, Int.reduceToNat, Int.reducePow, Int.reduceAdd, Int.reduceMul, Int.reduceSub, Int.reduceNeg, List.getElem?_cons_zero, List.getElem?_cons_succ, dd_is_integer, ax, ay]
            obtain ⟨g1, g2⟩ := ins_ok (k := y) itL ix
            have g3 : (List.map prD L).take y = dSlc.cutV' (List.map prD L) none (some (y : Int)) := (cut_take (by rw [lL]; omega)).symm
            rw [← cut_drop, g3] at g1 g2
            rw [lL] at g1
            have g4 := g1
            rw [List.length_append] at g4
            have g5 := g4
            rw [List.length_append, List.length_singleton] at g5
            exact ⟨small (by omega), small (by omega), fin _ _ (by omega) g2 (by omega) (by omega)⟩
          · by_cases i3 : i = 3
            · subst i3
              simp -implicitDefEqProofs only [t__law_bent, ↓XP, ↓x_ifs, ↓XU, XU, XQ, eq_self, List.reverse_cons, List.reverse_nil, Int.cast_ofNat_Int, List.length_cons, List.length_nil, List.nil_append, List.cons_append, ne_eq, Nat.reduceAdd, Nat.reduceLeDiff, Int.reduceEq, Int.reduceLT, Int.reduceLE, Int.reduceToNat, Int.reducePow, Int.reduceAdd, Int.reduceMul, Int.reduceSub, Int.reduceNeg, List.getElem?_cons_zero, List.getElem?_cons_succ, dd_is_integer, ax, ay]
              obtain ⟨d1, d2⟩ := del_ok (k := x) (by rw [lL]; omega) itL
              have d3 : (List.map prD L).take x = dSlc.cutV' (List.map prD L) none (some (x : Int)) := (cut_take (by rw [lL]; omega)).symm
              have d4 : (List.map prD L).drop (x + 1) = dSlc.cutV' (List.map prD L) (some ((x : Int) + 1)) none := (cut_drop (k := x + 1)).symm
              rw [d3, d4] at d1 d2
              rw [lL] at d1
              generalize hE : dSlc.cutV' (List.map prD L) none (some (x : Int)) ++ dSlc.cutV' (List.map prD L) (some ((x : Int) + 1)) none = E at d1 d2 ⊢
              have dl : (dSlc.cutV' (List.map prD L) none (some (x : Int))).length + (dSlc.cutV' (List.map prD L) (some ((x : Int) + 1)) none).length = E.length := by rw [← hE, List.length_append]
              obtain ⟨g1, g2⟩ := ins_ok (k := y) d2 ix
              have g3 : E.take y = dSlc.cutV' E none (some (y : Int)) := (cut_take (by omega)).symm
              rw [← cut_drop, g3] at g1 g2
              have g4 := g1
              rw [List.length_append] at g4
              have g5 := g4
              rw [List.length_append, List.length_singleton] at g5
              exact ⟨small (by omega), small (by omega), small (by omega), fin _ _ (by omega) g2 (by omega) (by omega)⟩
            · by_cases i4 : i = 4
              · subst i4
                simp -implicitDefEqProofs only [t__law_bent, ↓XP, ↓x_ifs, ↓XU, XU, XQ, eq_self, List.reverse_cons, List.reverse_nil, Int.cast_ofNat_Int, List.length_cons, List.length_nil, List.nil_append, List.cons_append, ne_eq, Nat.reduceAdd, Nat.reduceLeDiff, Int.reduceEq, Int.reduceLT, Int.reduceLE, Int.reduceToNat, Int.reducePow, Int.reduceAdd, Int.reduceMul, Int.reduceSub, Int.reduceNeg, List.getElem?_cons_zero, List.getElem?_cons_succ, dd_is_integer, ax, ay]
                obtain ⟨d1, d2⟩ := del_ok (k := x) (by rw [lL]; omega) itL
                have d3 : (List.map prD L).take x = dSlc.cutV' (List.map prD L) none (some (x : Int)) := (cut_take (by rw [lL]; omega)).symm
                have d4 : (List.map prD L).drop (x + 1) = dSlc.cutV' (List.map prD L) (some ((x : Int) + 1)) none := (cut_drop (k := x + 1)).symm
                rw [d3, d4] at d1 d2
                rw [lL] at d1
                generalize hE : dSlc.cutV' (List.map prD L) none (some (x : Int)) ++ dSlc.cutV' (List.map prD L) (some ((x : Int) + 1)) none = E at d1 d2 ⊢
                have dl : (dSlc.cutV' (List.map prD L) none (some (x : Int))).length + (dSlc.cutV' (List.map prD L) (some ((x : Int) + 1)) none).length = E.length := by rw [← hE, List.length_append]
                exact ⟨small (by omega), fin _ _ (by omega) d2 (by omega) (by omega)⟩
              · by_cases i5 : i = 5
                · subst i5
                  simp -implicitDefEqProofs only [t__law_bent, ↓XP, ↓x_ifs, ↓XU, XU, XQ, eq_self, List.reverse_cons, List.reverse_nil, Int.cast_ofNat_Int, List.length_cons, List.length_nil, List.nil_append, List.cons_append, ne_eq, Nat.reduceAdd, Nat.reduceLeDiff, Int.reduceEq, Int.reduceLT, Int.reduceLE, Int.reduceToNat, Int.reducePow, Int.reduceAdd, Int.reduceMul, Int.reduceSub, Int.reduceNeg, List.getElem?_cons_zero, List.getElem?_cons_succ, dd_is_integer, ax, ay]
                  exact fin _ _ (by rw [List.length_reverse, lL]; omega) (fun d hd => itL d (List.mem_reverse.mp hd)) (by omega) (by omega)
                · simp -implicitDefEqProofs only [t__law_bent, ↓XP, ↓x_ifs, ↓XU, XU, XQ, eq_self, List.reverse_cons, List.reverse_nil, Int.cast_ofNat_Int, List.length_cons, List.length_nil, List.nil_append, List.cons_append, ne_eq, Nat.reduceAdd, Nat.reduceLeDiff, Int.reduceEq, Int.reduceLT, Int.reduceLE, Int.reduceToNat, Int.reducePow, Int.reduceAdd, Int.reduceMul, Int.reduceSub, Int.reduceNeg, List.getElem?_cons_zero, List.getElem?_cons_succ, dd_is_integer, i1, i2, i3, i4, i5]
                  (repeat (refine ⟨by (first | omega | exact cm (by omega) (by omega) | exact lg (by omega) | exact pw10 (by decide) | decide +kernel), ?_⟩))
                  intro k k_j k_a k_b k_c k_d
                  try (simp -implicitDefEqProofs only [t__law_bent, ↓XP, ↓x_ifs, ↓XU, XU, XQ, eq_self, List.reverse_cons, List.reverse_nil, Int.cast_ofNat_Int, List.length_cons, List.length_nil, List.nil_append, List.cons_append, ne_eq, Nat.reduceAdd, Nat.reduceLeDiff, Int.reduceEq, Int.reduceLT, Int.reduceLE, Int.reduceToNat, Int.reducePow, Int.reduceAdd, Int.reduceMul, Int.reduceSub, Int.reduceNeg, List.getElem?_cons_zero, List.getElem?_cons_succ, dd_is_integer])
                  (repeat (refine ⟨by (first | omega | exact cm (by omega) (by omega) | exact lg (by omega) | exact pw10 (by decide) | decide +kernel), ?_⟩))
                  intro l l_j l_a l_b l_c l_d
                  try (simp -implicitDefEqProofs only [t__law_bent, ↓XP, ↓x_ifs, ↓XU, XU, XQ, eq_self, List.reverse_cons, List.reverse_nil, Int.cast_ofNat_Int, List.length_cons, List.length_nil, List.nil_append, List.cons_append, ne_eq, Nat.reduceAdd, Nat.reduceLeDiff, Int.reduceEq, Int.reduceLT, Int.reduceLE, Int.reduceToNat, Int.reducePow, Int.reduceAdd, Int.reduceMul, Int.reduceSub, Int.reduceNeg, List.getElem?_cons_zero, List.getElem?_cons_succ, dd_is_integer])
                  refine ⟨by rw [lL]; exact Nat.lt_of_le_of_lt hl (by decide), fin _ _ (by rw [List.length_append, List.length_singleton, lL]; omega) (fun d hd => ?_) (by omega) (by omega)⟩
                  rcases List.mem_append.mp hd with hd | hd
                  · exact itL d hd
                  · rw [List.mem_singleton] at hd
                    subst hd
                    exact itemOk_pr (p := (k, l)) (by simp only; omega) (by simp only; omega)
  · exact h.elim
theorem L__law_told_right : ∀ n ds Q, S__law_told_right n ds Q → ds.length = ps__law_told_right.length := by
  intro n ds Q h
  unfold S__law_told_right at h
  split at h <;> first | exact h.elim | rfl
theorem l__law_told_right : ∀ n ds Q, S__law_told_right n ds Q → t__law_told_right (defE Q) (startG n N__law_told_right ds) := by
  intro n ds Q h
  unfold S__law_told_right at h
  split at h
  · rename_i ds r c d
    show t__law_told_right (defE Q) ⟨[some (.dat (.lst ds)), some (.dat (.int r)), some (.dat (.int c)), some (.dat (d)), none, none, none], n⟩
    obtain ⟨ms, rfl, hs, hr, hc, ⟨ok, sh⟩, h⟩ := h
    cases d <;> first | exact absurd ok Bool.false_ne_true | skip
    all_goals
      simp -implicitDefEqProofs only [t__law_told_right, ↓XP, ↓x_ifs, ↓XU, XU, XQ, eq_self, List.reverse_cons, List.reverse_nil, Int.cast_ofNat_Int, List.length_cons, List.length_nil, List.nil_append, List.cons_append, ne_eq, Nat.reduceAdd, Nat.reduceLeDiff, Int.reduceEq, Int.reduceLT, Int.reduceLE, Int.reduceToNat, Int.reducePow, Int.reduceAdd, Int.reduceMul, Int.reduceSub, Int.reduceNeg, List.getElem?_cons_zero, List.getElem?_cons_succ, dd_is_integer]
      refine ⟨ms, rfl, hs, ok, ?_⟩
      try (simp -implicitDefEqProofs only [t__law_told_right, ↓XP, ↓x_ifs, ↓XU, XU, XQ, eq_self, List.reverse_cons, List.reverse_nil, Int.cast_ofNat_Int, List.length_cons, List.length_nil, List.nil_append, List.cons_append, ne_eq, Nat.reduceAdd, Nat.reduceLeDiff, Int.reduceEq, Int.reduceLT, Int.reduceLE, Int.reduceToNat, Int.reducePow, Int.reduceAdd, Int.reduceMul, Int.reduceSub, Int.reduceNeg, List.getElem?_cons_zero, List.getElem?_cons_succ, dd_is_integer])
      refine rp_of sh ?_
      try (simp -implicitDefEqProofs only [t__law_told_right, ↓XP, ↓x_ifs, ↓XU, XU, XQ, eq_self, List.reverse_cons, List.reverse_nil, Int.cast_ofNat_Int, List.length_cons, List.length_nil, List.nil_append, List.cons_append, ne_eq, Nat.reduceAdd, Nat.reduceLeDiff, Int.reduceEq, Int.reduceLT, Int.reduceLE, Int.reduceToNat, Int.reducePow, Int.reduceAdd, Int.reduceMul, Int.reduceSub, Int.reduceNeg, List.getElem?_cons_zero, List.getElem?_cons_succ, dd_is_integer])
      refine ⟨ms, rfl, hs, hr, hc, ok, ?_⟩
      try (simp -implicitDefEqProofs only [t__law_told_right, ↓XP, ↓x_ifs, ↓XU, XU, XQ, eq_self, List.reverse_cons, List.reverse_nil, Int.cast_ofNat_Int, List.length_cons, List.length_nil, List.nil_append, List.cons_append, ne_eq, Nat.reduceAdd, Nat.reduceLeDiff, Int.reduceEq, Int.reduceLT, Int.reduceLE, Int.reduceToNat, Int.reducePow, Int.reduceAdd, Int.reduceMul, Int.reduceSub, Int.reduceNeg, List.getElem?_cons_zero, List.getElem?_cons_succ, dd_is_integer])
      refine ⟨ms, rfl, hs, hr, hc, ok, ?_⟩
      try (simp -implicitDefEqProofs only [t__law_told_right, ↓XP, ↓x_ifs, ↓XU, XU, XQ, eq_self, List.reverse_cons, List.reverse_nil, Int.cast_ofNat_Int, List.length_cons, List.length_nil, List.nil_append, List.cons_append, ne_eq, Nat.reduceAdd, Nat.reduceLeDiff, Int.reduceEq, Int.reduceLT, Int.reduceLE, Int.reduceToNat, Int.reducePow, Int.reduceAdd, Int.reduceMul, Int.reduceSub, Int.reduceNeg, List.getElem?_cons_zero, List.getElem?_cons_succ, dd_is_integer])
      generalize listB ms r c _ = b
      have two : Shw 1 20 (.lst [.bl b, .bl b]) := (shw_lst (k := 0) (m := 5) fun e he => by
        simp only [List.mem_cons, List.not_mem_nil, or_false, or_self] at he
        subst he
        exact shw_bl).mono (by decide) (by simp only [List.length_cons, List.length_nil]; decide)
      refine rp_of two (rp_of two ?_)
      simp -implicitDefEqProofs only [t__law_told_right, ↓XP, ↓x_ifs, ↓XU, XU, XQ, eq_self, List.reverse_cons, List.reverse_nil, Int.cast_ofNat_Int, List.length_cons, List.length_nil, List.nil_append, List.cons_append, ne_eq, Nat.reduceAdd, Nat.reduceLeDiff, Int.reduceEq, Int.reduceLT, Int.reduceLE, Int.reduceToNat, Int.reducePow, Int.reduceAdd, Int.reduceMul, Int.reduceSub, Int.reduceNeg, List.getElem?_cons_zero, List.getElem?_cons_succ, dd_is_integer]
      refine rp_of sh ?_
      simp -implicitDefEqProofs only [t__law_told_right, ↓XP, ↓x_ifs, ↓XU, XU, XQ, eq_self, List.reverse_cons, List.reverse_nil, Int.cast_ofNat_Int, List.length_cons, List.length_nil, List.nil_append, List.cons_append, ne_eq, Nat.reduceAdd, Nat.reduceLeDiff, Int.reduceEq, Int.reduceLT, Int.reduceLE, Int.reduceToNat, Int.reducePow, Int.reduceAdd, Int.reduceMul, Int.reduceSub, Int.reduceNeg, List.getElem?_cons_zero, List.getElem?_cons_succ, dd_is_integer]
      exact h
  · exact h.elim
theorem L__law_right : ∀ n ds Q, S__law_right n ds Q → ds.length = ps__law_right.length := by
  intro n ds Q h
  unfold S__law_right at h
  split at h <;> first | exact h.elim | rfl
theorem l__law_right : ∀ n ds Q, S__law_right n ds Q → t__law_right (defE Q) (startG n N__law_right ds) := by
  intro n ds Q h
  unfold S__law_right at h
  split at h
  · rename_i m
    show t__law_right (defE Q) ⟨[some (.dat (.src)), some (.dat (.int m)), none, none, none, none, none, none, none, none], n⟩
    obtain ⟨⟨m1, m2⟩, h1, h⟩ := h
    simp -implicitDefEqProofs only [t__law_right, ↓XP, ↓x_ifs, ↓XU, XU, XQ, eq_self, List.reverse_cons, List.reverse_nil, Int.cast_ofNat_Int, List.length_cons, List.length_nil, List.nil_append, List.cons_append, ne_eq, Nat.reduceAdd, Nat.reduceLeDiff, Int.reduceEq, Int.reduceLT, Int.reduceLE, Int.reduceToNat, Int.reducePow, Int.reduceAdd, Int.reduceMul, Int.reduceSub, Int.reduceNeg, List.getElem?_cons_zero, List.getElem?_cons_succ, dd_is_integer]
    refine ⟨by omega, fun ms j1 hs j11 j12 => ?_⟩
    try (simp -implicitDefEqProofs only [t__law_right, ↓XP, ↓x_ifs, ↓XU, XU, XQ, eq_self, List.reverse_cons, List.reverse_nil, Int.cast_ofNat_Int, List.length_cons, List.length_nil, List.nil_append, List.cons_append, ne_eq, Nat.reduceAdd, Nat.reduceLeDiff, Int.reduceEq, Int.reduceLT, Int.reduceLE, Int.reduceToNat, Int.reducePow, Int.reduceAdd, Int.reduceMul, Int.reduceSub, Int.reduceNeg, List.getElem?_cons_zero, List.getElem?_cons_succ, dd_is_integer])
    refine ⟨⟨by omega, by omega⟩, by omega, fun a b j2 a1 b1 am bm ab j21 j22 => ?_⟩
    try (simp -implicitDefEqProofs only [t__law_right, ↓XP, ↓x_ifs, ↓XU, XU, XQ, eq_self, List.reverse_cons, List.reverse_nil, Int.cast_ofNat_Int, List.length_cons, List.length_nil, List.nil_append, List.cons_append, ne_eq, Nat.reduceAdd, Nat.reduceLeDiff, Int.reduceEq, Int.reduceLT, Int.reduceLE, Int.reduceToNat, Int.reducePow, Int.reduceAdd, Int.reduceMul, Int.reduceSub, Int.reduceNeg, List.getElem?_cons_zero, List.getElem?_cons_succ, dd_is_integer])
    (repeat (refine ⟨by (first | omega | exact cm (by omega) (by omega) | exact lg (by omega) | exact pw10 (by decide) | decide +kernel), ?_⟩))
    intro sz sz_j sz_a sz_b sz_c sz_d
    try (simp -implicitDefEqProofs only [t__law_right, ↓XP, ↓x_ifs, ↓XU, XU, XQ, eq_self, List.reverse_cons, List.reverse_nil, Int.cast_ofNat_Int, List.length_cons, List.length_nil, List.nil_append, List.cons_append, ne_eq, Nat.reduceAdd, Nat.reduceLeDiff, Int.reduceEq, Int.reduceLT, Int.reduceLE, Int.reduceToNat, Int.reducePow, Int.reduceAdd, Int.reduceMul, Int.reduceSub, Int.reduceNeg, List.getElem?_cons_zero, List.getElem?_cons_succ, dd_is_integer])
    have ab0 : (a * b).toNat ≤ 60 := by omega
    refine ⟨ms, rfl, hs, ⟨by omega, by omega⟩, ⟨by omega, by omega⟩, by omega, by omega, fun L j3 hL nd hl _ j31 j32 => ?_⟩
    have sa : sizeB a := ⟨by omega, by omega⟩
    have sb : sizeB b := ⟨by omega, by omega⟩
    have l4 : L.length ≤ 400 := by omega
    have lb : listB ms a b (.lst (L.map prD)) = true := by
      show (decide ((L.map prD).length ≤ 400) && legalB ms a b [] (L.map prD)) = true
      rw [legal_listB hL, Bool.and_true, List.length_map]; exact decide_eq_true l4
    have bx := fun p hp => (legal_mem hL p hp).1
    have itL : ∀ d ∈ L.map prD, ItemOk d := fun d hd => by
      obtain ⟨p, hp, rfl⟩ := List.mem_map.mp hd
      have := bx p hp
      unfold inB at this
      exact itemOk_pr (by omega) (by omega)
    have okL1 := anyOk_lst itL (by rw [List.length_map]; omega)
    try (simp -implicitDefEqProofs only [t__law_right, ↓XP, ↓x_ifs, ↓XU, XU, XQ, eq_self, List.reverse_cons, List.reverse_nil, Int.cast_ofNat_Int, List.length_cons, List.length_nil, List.nil_append, List.cons_append, ne_eq, Nat.reduceAdd, Nat.reduceLeDiff, Int.reduceEq, Int.reduceLT, Int.reduceLE, Int.reduceToNat, Int.reducePow, Int.reduceAdd, Int.reduceMul, Int.reduceSub, Int.reduceNeg, List.getElem?_cons_zero, List.getElem?_cons_succ, dd_is_integer])
    refine ⟨ms, rfl, hs, sa, sb, okL1.ok, ?_⟩
    rw [lb]
    try (simp -implicitDefEqProofs only [t__law_right, ↓XP, ↓x_ifs, ↓XU, XU, XQ, eq_self, List.reverse_cons, List.reverse_nil, Int.cast_ofNat_Int, List.length_cons, List.length_nil, List.nil_append, List.cons_append, ne_eq, Nat.reduceAdd, Nat.reduceLeDiff, Int.reduceEq, Int.reduceLT, Int.reduceLE, Int.reduceToNat, Int.reducePow, Int.reduceAdd, Int.reduceMul, Int.reduceSub, Int.reduceNeg, List.getElem?_cons_zero, List.getElem?_cons_succ, dd_is_integer])
    refine ⟨by decide, ?_⟩
    refine lc_for (fun r acc G => ∃ c : Nat, (j3 ≤ c ∧ c + 5 * r.length ≤ j3 + 20) ∧ acc.length + r.length = 4 ∧ (∀ d ∈ acc, AnyOk d) ∧ G = ⟨[some (.dat .src), some (.dat (.int m)), some (.dat (.lst (ms.map prD))), some (.dat (.lst (L.map prD))), none, none, none, some (.dat (.int a)), some (.dat (.int b)), none], c⟩) ?_ _ ?_ _ _ ⟨j3, ⟨Nat.le_refl _, Nat.le_refl _⟩, rfl, fun d hd => (by cases hd), rfl⟩
    · rintro acc G ⟨c, ⟨c1, c2⟩, l1, hac, rfl⟩
      simp only [List.length_nil, Nat.add_zero, Nat.mul_zero] at c2 l1
      have sl : Shw 4 50000 (.lst (L.map prD)) := (shw_lst (k := 3) (m := 700) fun d hd => (itL d hd).sh).mono (by decide) (by have := Nat.mul_le_mul_right (700 + 2) (show (L.map prD).length ≤ 60 by rw [List.length_map]; omega); omega)
      try (simp -implicitDefEqProofs only [t__law_right, ↓XP, ↓x_ifs, ↓XU, XU, XQ, eq_self, List.reverse_cons, List.reverse_nil, Int.cast_ofNat_Int, List.length_cons, List.length_nil, List.nil_append, List.cons_append, ne_eq, Nat.reduceAdd, Nat.reduceLeDiff, Int.reduceEq, Int.reduceLT, Int.reduceLE, Int.reduceToNat, Int.reducePow, Int.reduceAdd, Int.reduceMul, Int.reduceSub, Int.reduceNeg, List.getElem?_cons_zero, List.getElem?_cons_succ, dd_is_integer])
      refine ⟨Nat.le_trans (m := 100) (by simp only [List.length_cons, List.length_nil]; omega) (by decide), ?_⟩
      try (simp -implicitDefEqProofs only [t__law_right, ↓XP, ↓x_ifs, ↓XU, XU, XQ, eq_self, List.reverse_cons, List.reverse_nil, Int.cast_ofNat_Int, List.length_cons, List.length_nil, List.nil_append, List.cons_append, ne_eq, Nat.reduceAdd, Nat.reduceLeDiff, Int.reduceEq, Int.reduceLT, Int.reduceLE, Int.reduceToNat, Int.reducePow, Int.reduceAdd, Int.reduceMul, Int.reduceSub, Int.reduceNeg, List.getElem?_cons_zero, List.getElem?_cons_succ, dd_is_integer])
      refine for_inv (fun r G => ∃ (o5 : Option SC), (∀ d ∈ r, AnyOk d) ∧ G = ⟨[some (.dat .src), some (.dat (.int m)), some (.dat (.lst (ms.map prD))), some (.dat (.lst (L.map prD))), some (.dat (.lst (acc ++ [.tup (L.map prD), .non, .int 0, .bl true, .str (Str.ofString "0,0"), .dK [], .dK [(.inr (Str.ofString "a"), .lst (L.map prD))], .lst [.lst (L.map prD)], .tup [.int 0, .int 0], .lst [.lst [.int 0, .int 0]], .lst []]))), o5, none, some (.dat (.int a)), some (.dat (.int b)), none], c⟩) ?_ _ ?_ _ ⟨_, fun d hd => ?_, rfl⟩
      · rintro G ⟨o5, _, rfl⟩
        try (simp -implicitDefEqProofs only [t__law_right, ↓XP, ↓x_ifs, ↓XU, XU, XQ, eq_self, List.reverse_cons, List.reverse_nil, Int.cast_ofNat_Int, List.length_cons, List.length_nil, List.nil_append, List.cons_append, ne_eq, Nat.reduceAdd, Nat.reduceLeDiff, Int.reduceEq, Int.reduceLT, Int.reduceLE, Int.reduceToNat, Int.reducePow, Int.reduceAdd, Int.reduceMul, Int.reduceSub, Int.reduceNeg, List.getElem?_cons_zero, List.getElem?_cons_succ, dd_is_integer])
        (repeat (refine ⟨by (first | omega | exact cm (by omega) (by omega) | exact lg (by omega) | exact pw10 (by decide) | decide +kernel), ?_⟩))
        intro u u_j u_a u_b u_c u_d
        try (simp -implicitDefEqProofs only [t__law_right, ↓XP, ↓x_ifs, ↓XU, XU, XQ, eq_self, List.reverse_cons, List.reverse_nil, Int.cast_ofNat_Int, List.length_cons, List.length_nil, List.nil_append, List.cons_append, ne_eq, Nat.reduceAdd, Nat.reduceLeDiff, Int.reduceEq, Int.reduceLT, Int.reduceLE, Int.reduceToNat, Int.reducePow, Int.reduceAdd, Int.reduceMul, Int.reduceSub, Int.reduceNeg, List.getElem?_cons_zero, List.getElem?_cons_succ, dd_is_integer])
        obtain rfl | rfl : u = 0 ∨ u = 1 := by omega
        all_goals
          simp -implicitDefEqProofs only [t__law_right, ↓XP, ↓x_ifs, ↓XU, XU, XQ, eq_self, List.reverse_cons, List.reverse_nil, Int.cast_ofNat_Int, List.length_cons, List.length_nil, List.nil_append, List.cons_append, ne_eq, Nat.reduceAdd, Nat.reduceLeDiff, Int.reduceEq, Int.reduceLT, Int.reduceLE, Int.reduceToNat, Int.reducePow, Int.reduceAdd, Int.reduceMul, Int.reduceSub, Int.reduceNeg, List.getElem?_cons_zero, List.getElem?_cons_succ, dd_is_integer]
          refine ⟨by decide +kernel, ms, rfl, hs, by unfold sizeB; omega, by unfold sizeB; omega, okL1, ?_⟩
          try (simp -implicitDefEqProofs only [t__law_right, ↓XP, ↓x_ifs, ↓XU, XU, XQ, eq_self, List.reverse_cons, List.reverse_nil, Int.cast_ofNat_Int, List.length_cons, List.length_nil, List.nil_append, List.cons_append, ne_eq, Nat.reduceAdd, Nat.reduceLeDiff, Int.reduceEq, Int.reduceLT, Int.reduceLE, Int.reduceToNat, Int.reducePow, Int.reduceAdd, Int.reduceMul, Int.reduceSub, Int.reduceNeg, List.getElem?_cons_zero, List.getElem?_cons_succ, dd_is_integer])
          refine ⟨ms, rfl, hs, by unfold sizeB; omega, by unfold sizeB; omega, okL1, ?_⟩
          try (simp -implicitDefEqProofs only [t__law_right, ↓XP, ↓x_ifs, ↓XU, XU, XQ, eq_self, List.reverse_cons, List.reverse_nil, Int.cast_ofNat_Int, List.length_cons, List.length_nil, List.nil_append, List.cons_append, ne_eq, Nat.reduceAdd, Nat.reduceLeDiff, Int.reduceEq, Int.reduceLT, Int.reduceLE, Int.reduceToNat, Int.reducePow, Int.reduceAdd, Int.reduceMul, Int.reduceSub, Int.reduceNeg, List.getElem?_cons_zero, List.getElem?_cons_succ, dd_is_integer])
          exact h u_j (by omega) (by omega)
      · rintro d r G N hsub ⟨o5, hany, rfl⟩ hN
        have hd := hany d List.mem_cons_self
        try (simp -implicitDefEqProofs only [t__law_right, ↓XP, ↓x_ifs, ↓XU, XU, XQ, eq_self, List.reverse_cons, List.reverse_nil, Int.cast_ofNat_Int, List.length_cons, List.length_nil, List.nil_append, List.cons_append, ne_eq, Nat.reduceAdd, Nat.reduceLeDiff, Int.reduceEq, Int.reduceLT, Int.reduceLE, Int.reduceToNat, Int.reducePow, Int.reduceAdd, Int.reduceMul, Int.reduceSub, Int.reduceNeg, List.getElem?_cons_zero, List.getElem?_cons_succ, dd_is_integer])
        refine ⟨ms, rfl, hs, sa, sb, hd, ?_⟩
        try (simp -implicitDefEqProofs only [t__law_right, ↓XP, ↓x_ifs, ↓XU, XU, XQ, eq_self, List.reverse_cons, List.reverse_nil, Int.cast_ofNat_Int, List.length_cons, List.length_nil, List.nil_append, List.cons_append, ne_eq, Nat.reduceAdd, Nat.reduceLeDiff, Int.reduceEq, Int.reduceLT, Int.reduceLE, Int.reduceToNat, Int.reducePow, Int.reduceAdd, Int.reduceMul, Int.reduceSub, Int.reduceNeg, List.getElem?_cons_zero, List.getElem?_cons_succ, dd_is_integer])
        exact hN _ ⟨_, fun e he => hany e (List.mem_cons_of_mem _ he), rfl⟩
      · rcases List.mem_append.mp hd with hd | hd
        · exact hac d hd
        · simp only [List.mem_cons, List.not_mem_nil, or_false] at hd
          rcases hd with rfl | rfl | rfl | rfl | rfl | rfl | rfl | rfl | rfl | rfl | rfl
          all_goals first
            | exact ⟨rfl, shw_clo (by decide +kernel) (by decide +kernel) (by decide +kernel)⟩
            | skip
          · exact ⟨rfl, (shw_tup (k := 3) (m := 700) fun d hd => (itL d hd).sh).mono (by decide) (by have := Nat.mul_le_mul_right (700 + 2) (show (L.map prD).length ≤ 60 by rw [List.length_map]; omega); omega)⟩
          · exact ⟨rfl, (shw_dK1 (by decide +kernel) (by decide +kernel) sl).mono (by decide) (by decide)⟩
          · exact ⟨rfl, (shw_lst (k := 4) (m := 50000) fun d hd => by rw [List.mem_singleton] at hd; subst hd; exact sl).mono (by decide) (by simp only [List.length_cons, List.length_nil]; decide)⟩
    · rintro d r acc G K1 K2 hsub ⟨c, ⟨c1, c2⟩, l1, hac, rfl⟩ hk hk2
      rw [List.length_cons] at c2 l1
      try (simp -implicitDefEqProofs only [t__law_right, ↓XP, ↓x_ifs, ↓XU, XU, XQ, eq_self, List.reverse_cons, List.reverse_nil, Int.cast_ofNat_Int, List.length_cons, List.length_nil, List.nil_append, List.cons_append, ne_eq, Nat.reduceAdd, Nat.reduceLeDiff, Int.reduceEq, Int.reduceLT, Int.reduceLE, Int.reduceToNat, Int.reducePow, Int.reduceAdd, Int.reduceMul, Int.reduceSub, Int.reduceNeg, List.getElem?_cons_zero, List.getElem?_cons_succ, dd_is_integer])
      refine ⟨⟨L, rfl, l4, bx⟩, ⟨by omega, by omega⟩, ⟨by omega, by omega⟩, by omega, fun es j4 e1 e2 j41 j42 => ?_⟩
      try (simp -implicitDefEqProofs only [t__law_right, ↓XP, ↓x_ifs, ↓XU, XU, XQ, eq_self, List.reverse_cons, List.reverse_nil, Int.cast_ofNat_Int, List.length_cons, List.length_nil, List.nil_append, List.cons_append, ne_eq, Nat.reduceAdd, Nat.reduceLeDiff, Int.reduceEq, Int.reduceLT, Int.reduceLE, Int.reduceToNat, Int.reducePow, Int.reduceAdd, Int.reduceMul, Int.reduceSub, Int.reduceNeg, List.getElem?_cons_zero, List.getElem?_cons_succ, dd_is_integer])
      refine hk _ _ ⟨j4, ⟨by omega, by omega⟩, by rw [List.length_append, List.length_singleton]; omega, fun e he => ?_, rfl⟩
      rcases List.mem_append.mp he with he | he
      · exact hac e he
      · rw [List.mem_singleton] at he
        subst he
        exact anyOk_lst e2 (by rw [List.length_map] at e1; omega)
  · exact h.elim
theorem L_law : ∀ n ds Q, S_law n ds Q → ds.length = ps_law.length := by
  rintro n ds Q ⟨_, ns, rfl, _⟩
  rfl
theorem l_law : ∀ n ds Q, S_law n ds Q → t_law (defE Q) (startG n N_law ds) := by
  rintro n ds Q ⟨rfl, ns, rfl, hn, h⟩
  show t_law (defE Q) ⟨[some (.dat (.scr ns)), none, none, none, none, none, none, none], 0⟩
  obtain ⟨c1, hm⟩ := cells2 8 (ns := ns) (by decide) (by decide)
  have hn : ns.length ≤ 63 := hn
  simp -implicitDefEqProofs only [t_law, ↓XP, ↓x_ifs, ↓XU, XU, XQ, eq_self, List.reverse_cons, List.reverse_nil, Int.cast_ofNat_Int, List.length_cons, List.length_nil, List.nil_append, List.cons_append, ne_eq, Nat.reduceAdd, Nat.reduceLeDiff, Int.reduceEq, Int.reduceLT, Int.reduceLE, Int.reduceToNat, Int.reducePow, Int.reduceAdd, Int.reduceMul, Int.reduceSub, Int.reduceNeg, List.getElem?_cons_zero, List.getElem?_cons_succ, dd_is_integer, ↓add_sl, ↓len_scr]
  refine ⟨Nat.le_trans (m := 64) (by omega) (by decide), ?_⟩
  rw [show ((8 : Nat) : Int) = 8 from rfl] at c1 hm
  generalize dSlc.cutV' (ns.map D.int ++ [D.int 0]) none (some (maxI 1 (minI (ns.length : Int) 8))) = B at c1 hm ⊢
  try (simp -implicitDefEqProofs only [t_law, ↓XP, ↓x_ifs, ↓XU, XU, XQ, eq_self, List.reverse_cons, List.reverse_nil, Int.cast_ofNat_Int, List.length_cons, List.length_nil, List.nil_append, List.cons_append, ne_eq, Nat.reduceAdd, Nat.reduceLeDiff, Int.reduceEq, Int.reduceLT, Int.reduceLE, Int.reduceToNat, Int.reducePow, Int.reduceAdd, Int.reduceMul, Int.reduceSub, Int.reduceNeg, List.getElem?_cons_zero, List.getElem?_cons_succ, dd_is_integer])
  refine for_inv (fun r G => ∃ o1 o2 o3 o4 o5 o6 o7 c, c + 1200 * r.length ≤ 9600 ∧ G = ⟨[some (.dat (.scr ns)), o1, o2, o3, o4, o5, o6, o7], c⟩) ?_ _ ?_ _ ⟨_, _, _, _, _, _, _, 0, by rw [enumD_len]; omega, rfl⟩
  · rintro G ⟨o1, o2, o3, o4, o5, o6, o7, c, _, rfl⟩
    have s1 : StepsOk [(1, 0), (0, 1)] := ⟨by decide, by decide, by decide, by decide⟩
    simp -implicitDefEqProofs only [t_law, ↓XP, ↓x_ifs, ↓XU, XU, XQ, eq_self, List.reverse_cons, List.reverse_nil, Int.cast_ofNat_Int, List.length_cons, List.length_nil, List.nil_append, List.cons_append, ne_eq, Nat.reduceAdd, Nat.reduceLeDiff, Int.reduceEq, Int.reduceLT, Int.reduceLE, Int.reduceToNat, Int.reducePow, Int.reduceAdd, Int.reduceMul, Int.reduceSub, Int.reduceNeg, List.getElem?_cons_zero, List.getElem?_cons_succ, dd_is_integer]
    have y1 : listB [(1, 0), (0, 1)] 2 3 (.lst [.tup [.int 0, .int 0], .tup [.int 1, .int 0]]) = true := by decide +kernel
    have y2 : listB [(1, 0), (0, 1)] 2 3 (.lst [.tup [.int 1, .int 0], .tup [.int 0, .int 0]]) = false := by decide +kernel
    refine ⟨_, rfl, s1, ⟨by decide, by decide⟩, ⟨by decide, by decide⟩, rfl, ?_⟩
    rw [y1]
    try (simp -implicitDefEqProofs only [t_law, ↓XP, ↓x_ifs, ↓XU, XU, XQ, eq_self, List.reverse_cons, List.reverse_nil, Int.cast_ofNat_Int, List.length_cons, List.length_nil, List.nil_append, List.cons_append, ne_eq, Nat.reduceAdd, Nat.reduceLeDiff, Int.reduceEq, Int.reduceLT, Int.reduceLE, Int.reduceToNat, Int.reducePow, Int.reduceAdd, Int.reduceMul, Int.reduceSub, Int.reduceNeg, List.getElem?_cons_zero, List.getElem?_cons_succ, dd_is_integer])
    refine ⟨_, rfl, s1, ⟨by decide, by decide⟩, ⟨by decide, by decide⟩, rfl, ?_⟩
    rw [y2]
    try (simp -implicitDefEqProofs only [t_law, ↓XP, ↓x_ifs, ↓XU, XU, XQ, eq_self, List.reverse_cons, List.reverse_nil, Int.cast_ofNat_Int, List.length_cons, List.length_nil, List.nil_append, List.cons_append, ne_eq, Nat.reduceAdd, Nat.reduceLeDiff, Int.reduceEq, Int.reduceLT, Int.reduceLE, Int.reduceToNat, Int.reducePow, Int.reduceAdd, Int.reduceMul, Int.reduceSub, Int.reduceNeg, List.getElem?_cons_zero, List.getElem?_cons_succ, dd_is_integer])
    exact h c
  · rintro d r G N hs ⟨o1, o2, o3, o4, o5, o6, o7, c, hc, rfl⟩ hN
    obtain ⟨j, d', rfl, hd⟩ := enum_at (hs.subset List.mem_cons_self)
    have hj : j < B.length := (List.getElem?_eq_some_iff.mp hd).1
    obtain ⟨v, rfl⟩ := hm d' (List.mem_of_getElem? hd)
    rw [List.length_cons] at hc
    simp -implicitDefEqProofs only [t_law, ↓XP, ↓x_ifs, ↓XU, XU, XQ, eq_self, List.reverse_cons, List.reverse_nil, Int.cast_ofNat_Int, List.length_cons, List.length_nil, List.nil_append, List.cons_append, ne_eq, Nat.reduceAdd, Nat.reduceLeDiff, Int.reduceEq, Int.reduceLT, Int.reduceLE, Int.reduceToNat, Int.reducePow, Int.reduceAdd, Int.reduceMul, Int.reduceSub, Int.reduceNeg, List.getElem?_cons_zero, List.getElem?_cons_succ, dd_is_integer]
    refine ⟨by omega, by omega, ?_⟩
    refine for_inv (fun q G => ∃ o4 o5 o6 o7 c', c' + 130 * q.length ≤ c + 520 ∧ G = ⟨[some (.dat (.scr ns)), some (.dat (.int (0 + j))), some (.dat (.int v)), some (.dat .src), o4, o5, o6, o7], c'⟩) ?_ _ ?_ _ ⟨_, _, _, _, _, Nat.le_refl _, rfl⟩
    · rintro G ⟨o4, o5, o6, o7, c', hc', rfl⟩
      simp only [List.length_nil, Nat.mul_zero, Nat.add_zero] at hc'
      have next : ∀ (o4 o5 o6 o7 : Option SC) (k : Nat), k ≤ c + 1200 → N ⟨[some (.dat (.scr ns)), some (.dat (.int (0 + j))), some (.dat (.int v)), some (.dat .src), o4, o5, o6, o7], k⟩ := fun _ _ _ _ k hk => hN _ ⟨_, _, _, _, _, _, _, _, by omega, rfl⟩
      simp -implicitDefEqProofs only [t_law, ↓XP, ↓x_ifs, ↓XU, XU, XQ, eq_self, List.reverse_cons, List.reverse_nil, Int.cast_ofNat_Int, List.length_cons, List.length_nil, List.nil_append, List.cons_append, ne_eq, Nat.reduceAdd, Nat.reduceLeDiff, Int.reduceEq, Int.reduceLT, Int.reduceLE, Int.reduceToNat, Int.reducePow, Int.reduceAdd, Int.reduceMul, Int.reduceSub, Int.reduceNeg, List.getElem?_cons_zero, List.getElem?_cons_succ, dd_is_integer]
      cases ez : decide ((0 : Int) + j = 0) with
      | false =>
        simp -implicitDefEqProofs only [t_law, ↓XP, ↓x_ifs, ↓XU, XU, XQ, eq_self, List.reverse_cons, List.reverse_nil, Int.cast_ofNat_Int, List.length_cons, List.length_nil, List.nil_append, List.cons_append, ne_eq, Nat.reduceAdd, Nat.reduceLeDiff, Int.reduceEq, Int.reduceLT, Int.reduceLE, Int.reduceToNat, Int.reducePow, Int.reduceAdd, Int.reduceMul, Int.reduceSub, Int.reduceNeg, List.getElem?_cons_zero, List.getElem?_cons_succ, dd_is_integer]
        exact next _ _ _ _ _ (by omega)
      | true =>
        simp -implicitDefEqProofs only [t_law, ↓XP, ↓x_ifs, ↓XU, XU, XQ, eq_self, List.reverse_cons, List.reverse_nil, Int.cast_ofNat_Int, List.length_cons, List.length_nil, List.nil_append, List.cons_append, ne_eq, Nat.reduceAdd, Nat.reduceLeDiff, Int.reduceEq, Int.reduceLT, Int.reduceLE, Int.reduceToNat, Int.reducePow, Int.reduceAdd, Int.reduceMul, Int.reduceSub, Int.reduceNeg, List.getElem?_cons_zero, List.getElem?_cons_succ, dd_is_integer]
        refine q_scr ?_
        cases hz : decide (ns = []) with
        | true =>
          simp -implicitDefEqProofs only [t_law, ↓XP, ↓x_ifs, ↓XU, XU, XQ, eq_self, List.reverse_cons, List.reverse_nil, Int.cast_ofNat_Int, List.length_cons, List.length_nil, List.nil_append, List.cons_append, ne_eq, Nat.reduceAdd, Nat.reduceLeDiff, Int.reduceEq, Int.reduceLT, Int.reduceLE, Int.reduceToNat, Int.reducePow, Int.reduceAdd, Int.reduceMul, Int.reduceSub, Int.reduceNeg, List.getElem?_cons_zero, List.getElem?_cons_succ, dd_is_integer]
          exact next _ _ _ _ _ (by omega)
        | false =>
          simp -implicitDefEqProofs only [t_law, ↓XP, ↓x_ifs, ↓XU, XU, XQ, eq_self, List.reverse_cons, List.reverse_nil, Int.cast_ofNat_Int, List.length_cons, List.length_nil, List.nil_append, List.cons_append, ne_eq, Nat.reduceAdd, Nat.reduceLeDiff, Int.reduceEq, Int.reduceLT, Int.reduceLE, Int.reduceToNat, Int.reducePow, Int.reduceAdd, Int.reduceMul, Int.reduceSub, Int.reduceNeg, List.getElem?_cons_zero, List.getElem?_cons_succ, dd_is_integer]
          refine ⟨by omega, fun ms k1 hms k11 k12 => ?_⟩
          try (simp -implicitDefEqProofs only [t_law, ↓XP, ↓x_ifs, ↓XU, XU, XQ, eq_self, List.reverse_cons, List.reverse_nil, Int.cast_ofNat_Int, List.length_cons, List.length_nil, List.nil_append, List.cons_append, ne_eq, Nat.reduceAdd, Nat.reduceLeDiff, Int.reduceEq, Int.reduceLT, Int.reduceLE, Int.reduceToNat, Int.reducePow, Int.reduceAdd, Int.reduceMul, Int.reduceSub, Int.reduceNeg, List.getElem?_cons_zero, List.getElem?_cons_succ, dd_is_integer])
          refine ⟨ms, rfl, hms, by omega, fun L k2 hL nd hl _ k21 k22 => ?_⟩
          try (simp -implicitDefEqProofs only [t_law, ↓XP, ↓x_ifs, ↓XU, XU, XQ, eq_self, List.reverse_cons, List.reverse_nil, Int.cast_ofNat_Int, List.length_cons, List.length_nil, List.nil_append, List.cons_append, ne_eq, Nat.reduceAdd, Nat.reduceLeDiff, Int.reduceEq, Int.reduceLT, Int.reduceLE, Int.reduceToNat, Int.reducePow, Int.reduceAdd, Int.reduceMul, Int.reduceSub, Int.reduceNeg, List.getElem?_cons_zero, List.getElem?_cons_succ, dd_is_integer])
          have itL : ∀ d ∈ L.map prD, ItemOk d := fun d hd => by
            obtain ⟨p, hp, rfl⟩ := List.mem_map.mp hd
            have := (legal_mem hL p hp).1
            unfold inB at this
            exact itemOk_pr (by omega) (by omega)
          have lL : (L.map prD).length ≤ 420 := by rw [List.length_map]; omega
          have cl : ∀ u : Int, (dSlc.cutV' (L.map prD) none (some u)).length ≤ 420 := fun u => Nat.le_trans cut_le lL
          have i1 : ItemOk (.tup [.int 20, .int 0]) := ⟨rfl, shw_clo (by decide +kernel) (by decide +kernel) (by decide +kernel)⟩
          have i2 : ItemOk .non := ⟨rfl, shw_clo (by decide +kernel) (by decide +kernel) (by decide +kernel)⟩
          have snoc : ∀ (u : Int) (d : D), ItemOk d → AnyOk (.lst (dSlc.cutV' (L.map prD) none (some u) ++ [d])) := fun u d hd => anyOk_lst (fun e he => by
            rcases List.mem_append.mp he with he | he
            · exact itL e (cut_mem he)
            · rw [List.mem_singleton] at he; subst he; exact hd) (by have := cl u; rw [List.length_append, List.length_singleton]; omega)
          refine ⟨Nat.le_trans (Nat.succ_le_succ (cl _)) (by decide), Nat.le_trans (Nat.succ_le_succ (cl _)) (by decide), ?_⟩
          refine for_inv (fun r G => ∃ (o7 : Option SC), (∀ d ∈ r, AnyOk d) ∧ G = ⟨[some (.dat (.scr ns)), some (.dat (.int (0 + j))), some (.dat (.int v)), some (.dat .src), o4, some (.dat (.lst (ms.map prD))), some (.dat (.lst (L.map prD))), o7], k2⟩) ?_ _ ?_ _ ⟨_, fun d hd => ?_, rfl⟩
          · rintro G ⟨o7, _, rfl⟩
            exact next _ _ _ _ _ (by omega)
          · rintro d r G M hsub ⟨o7, hany, rfl⟩ hM
            have hd := hany d List.mem_cons_self
            try (simp -implicitDefEqProofs only [t_law, ↓XP, ↓x_ifs, ↓XU, XU, XQ, eq_self, List.reverse_cons, List.reverse_nil, Int.cast_ofNat_Int, List.length_cons, List.length_nil, List.nil_append, List.cons_append, ne_eq, Nat.reduceAdd, Nat.reduceLeDiff, Int.reduceEq, Int.reduceLT, Int.reduceLE, Int.reduceToNat, Int.reducePow, Int.reduceAdd, Int.reduceMul, Int.reduceSub, Int.reduceNeg, List.getElem?_cons_zero, List.getElem?_cons_succ, dd_is_integer])
            refine ⟨ms, rfl, hms, ⟨by decide, by decide⟩, ⟨by decide, by decide⟩, hd, ?_⟩
            try (simp -implicitDefEqProofs only [t_law, ↓XP, ↓x_ifs, ↓XU, XU, XQ, eq_self, List.reverse_cons, List.reverse_nil, Int.cast_ofNat_Int, List.length_cons, List.length_nil, List.nil_append, List.cons_append, ne_eq, Nat.reduceAdd, Nat.reduceLeDiff, Int.reduceEq, Int.reduceLT, Int.reduceLE, Int.reduceToNat, Int.reducePow, Int.reduceAdd, Int.reduceMul, Int.reduceSub, Int.reduceNeg, List.getElem?_cons_zero, List.getElem?_cons_succ, dd_is_integer])
            exact hM _ ⟨_, fun e he => hany e (List.mem_cons_of_mem _ he), rfl⟩
          · simp only [List.mem_cons, List.not_mem_nil, or_false] at hd
            rcases hd with rfl | rfl | rfl | rfl
            · exact anyOk_lst (fun e he => itL e (cut_mem he)) (Nat.le_trans (cl _) (by decide))
            · exact anyOk_lst itL (Nat.le_trans lL (by decide))
            · exact snoc _ _ i1
            · exact snoc _ _ i2
    · rintro d q G M hq ⟨o4, o5, o6, o7, c', hc', rfl⟩ hM
      rw [List.length_cons] at hc'
      simp -implicitDefEqProofs only [t_law, ↓XP, ↓x_ifs, ↓XU, XU, XQ, eq_self, List.reverse_cons, List.reverse_nil, Int.cast_ofNat_Int, List.length_cons, List.length_nil, List.nil_append, List.cons_append, ne_eq, Nat.reduceAdd, Nat.reduceLeDiff, Int.reduceEq, Int.reduceLT, Int.reduceLE, Int.reduceToNat, Int.reducePow, Int.reduceAdd, Int.reduceMul, Int.reduceSub, Int.reduceNeg, List.getElem?_cons_zero, List.getElem?_cons_succ, dd_is_integer]
      refine q_scr ?_
      cases hz : decide (ns = [])
      all_goals
        simp -implicitDefEqProofs only [t_law, ↓XP, ↓x_ifs, ↓XU, XU, XQ, eq_self, List.reverse_cons, List.reverse_nil, Int.cast_ofNat_Int, List.length_cons, List.length_nil, List.nil_append, List.cons_append, ne_eq, Nat.reduceAdd, Nat.reduceLeDiff, Int.reduceEq, Int.reduceLT, Int.reduceLE, Int.reduceToNat, Int.reducePow, Int.reduceAdd, Int.reduceMul, Int.reduceSub, Int.reduceNeg, List.getElem?_cons_zero, List.getElem?_cons_succ, dd_is_integer, if_true, if_false, Bool.false_eq_true]
        refine ⟨by omega, fun k1 k11 k12 => ?_⟩
        try (simp -implicitDefEqProofs only [t_law, ↓XP, ↓x_ifs, ↓XU, XU, XQ, eq_self, List.reverse_cons, List.reverse_nil, Int.cast_ofNat_Int, List.length_cons, List.length_nil, List.nil_append, List.cons_append, ne_eq, Nat.reduceAdd, Nat.reduceLeDiff, Int.reduceEq, Int.reduceLT, Int.reduceLE, Int.reduceToNat, Int.reducePow, Int.reduceAdd, Int.reduceMul, Int.reduceSub, Int.reduceNeg, List.getElem?_cons_zero, List.getElem?_cons_succ, dd_is_integer])
        exact hM _ ⟨_, _, _, _, _, by omega, rfl⟩

def topS (i : Nat) : Stmt := PySem.Challenge.pw_storerounds_k35_lists_judged.main.body.getD i (.Pass ⟨0, 0, 0, 0⟩)
abbrev s__law_source : Stmt := topS 24
abbrev s__law_draw : Stmt := topS 25
abbrev s__law_move : Stmt := topS 26
abbrev s__law_moves : Stmt := topS 27
abbrev s__law_some_moves : Stmt := topS 28
abbrev s__law_box : Stmt := topS 32
abbrev s__law_spots : Stmt := topS 31
abbrev s__law_behind : Stmt := topS 29
abbrev s__law_ahead : Stmt := topS 30
abbrev s__law_list : Stmt := topS 33
abbrev s_is_integer : Stmt := topS 8
abbrev s_is_pair : Stmt := topS 9
abbrev s_is_step : Stmt := topS 10
abbrev s_steps_fault : Stmt := topS 11
abbrev s_need_steps : Stmt := topS 12
abbrev s_need_size : Stmt := topS 13
abbrev s_need_box : Stmt := topS 14
abbrev s_in_box : Stmt := topS 15
abbrev s_taken : Stmt := topS 16
abbrev s_sources_of : Stmt := topS 17
abbrev s_can_stand : Stmt := topS 20
abbrev s_list_fault : Stmt := topS 21
abbrev s_is_list : Stmt := topS 22
abbrev s__law_odd_spot : Stmt := topS 35
abbrev s__law_bent : Stmt := topS 36
abbrev s__law_is_list : Stmt := topS 34
abbrev s__law_told_right : Stmt := topS 37
abbrev s__law_right : Stmt := topS 38
abbrev s_law : Stmt := topS 39
theorem sc__law_source : FnScope N__law_source ps__law_source (defScope s__law_source) := ⟨rfl, rfl, rfl, by decide +kernel, rfl, by decide +kernel, by decide +kernel⟩
theorem sc__law_draw : FnScope N__law_draw ps__law_draw (defScope s__law_draw) := ⟨rfl, rfl, rfl, by decide +kernel, rfl, by decide +kernel, by decide +kernel⟩
theorem sc__law_move : FnScope N__law_move ps__law_move (defScope s__law_move) := ⟨rfl, rfl, rfl, by decide +kernel, rfl, by decide +kernel, by decide +kernel⟩
theorem sc__law_moves : FnScope N__law_moves ps__law_moves (defScope s__law_moves) := ⟨rfl, rfl, rfl, by decide +kernel, rfl, by decide +kernel, by decide +kernel⟩
theorem sc__law_some_moves : FnScope N__law_some_moves ps__law_some_moves (defScope s__law_some_moves) := ⟨rfl, rfl, rfl, by decide +kernel, rfl, by decide +kernel, by decide +kernel⟩
theorem sc__law_box : FnScope N__law_box ps__law_box (defScope s__law_box) := ⟨rfl, rfl, rfl, by decide +kernel, rfl, by decide +kernel, by decide +kernel⟩
theorem sc__law_spots : FnScope N__law_spots ps__law_spots (defScope s__law_spots) := ⟨rfl, rfl, rfl, by decide +kernel, rfl, by decide +kernel, by decide +kernel⟩
theorem sc__law_behind : FnScope N__law_behind ps__law_behind (defScope s__law_behind) := ⟨rfl, rfl, rfl, by decide +kernel, rfl, by decide +kernel, by decide +kernel⟩
theorem sc__law_ahead : FnScope N__law_ahead ps__law_ahead (defScope s__law_ahead) := ⟨rfl, rfl, rfl, by decide +kernel, rfl, by decide +kernel, by decide +kernel⟩
theorem sc__law_list : FnScope N__law_list ps__law_list (defScope s__law_list) := ⟨rfl, rfl, rfl, by decide +kernel, rfl, by decide +kernel, by decide +kernel⟩
theorem sc_is_integer : FnScope N_is_integer ps_is_integer (defScope s_is_integer) := ⟨rfl, rfl, rfl, by decide +kernel, rfl, by decide +kernel, by decide +kernel⟩
theorem sc_is_pair : FnScope N_is_pair ps_is_pair (defScope s_is_pair) := ⟨rfl, rfl, rfl, by decide +kernel, rfl, by decide +kernel, by decide +kernel⟩
theorem sc_is_step : FnScope N_is_step ps_is_step (defScope s_is_step) := ⟨rfl, rfl, rfl, by decide +kernel, rfl, by decide +kernel, by decide +kernel⟩
theorem sc_steps_fault : FnScope N_steps_fault ps_steps_fault (defScope s_steps_fault) := ⟨rfl, rfl, rfl, by decide +kernel, rfl, by decide +kernel, by decide +kernel⟩
theorem sc_need_steps : FnScope N_need_steps ps_need_steps (defScope s_need_steps) := ⟨rfl, rfl, rfl, by decide +kernel, rfl, by decide +kernel, by decide +kernel⟩
theorem sc_need_size : FnScope N_need_size ps_need_size (defScope s_need_size) := ⟨rfl, rfl, rfl, by decide +kernel, rfl, by decide +kernel, by decide +kernel⟩
theorem sc_need_box : FnScope N_need_box ps_need_box (defScope s_need_box) := ⟨rfl, rfl, rfl, by decide +kernel, rfl, by decide +kernel, by decide +kernel⟩
theorem sc_in_box : FnScope N_in_box ps_in_box (defScope s_in_box) := ⟨rfl, rfl, rfl, by decide +kernel, rfl, by decide +kernel, by decide +kernel⟩
theorem sc_taken : FnScope N_taken ps_taken (defScope s_taken) := ⟨rfl, rfl, rfl, by decide +kernel, rfl, by decide +kernel, by decide +kernel⟩
theorem sc_sources_of : FnScope N_sources_of ps_sources_of (defScope s_sources_of) := ⟨rfl, rfl, rfl, by decide +kernel, rfl, by decide +kernel, by decide +kernel⟩
theorem sc_can_stand : FnScope N_can_stand ps_can_stand (defScope s_can_stand) := ⟨rfl, rfl, rfl, by decide +kernel, rfl, by decide +kernel, by decide +kernel⟩
theorem sc_list_fault : FnScope N_list_fault ps_list_fault (defScope s_list_fault) := ⟨rfl, rfl, rfl, by decide +kernel, rfl, by decide +kernel, by decide +kernel⟩
theorem sc_is_list : FnScope N_is_list ps_is_list (defScope s_is_list) := ⟨rfl, rfl, rfl, by decide +kernel, rfl, by decide +kernel, by decide +kernel⟩
theorem sc__law_odd_spot : FnScope N__law_odd_spot ps__law_odd_spot (defScope s__law_odd_spot) := ⟨rfl, rfl, rfl, by decide +kernel, rfl, by decide +kernel, by decide +kernel⟩
theorem sc__law_bent : FnScope N__law_bent ps__law_bent (defScope s__law_bent) := ⟨rfl, rfl, rfl, by decide +kernel, rfl, by decide +kernel, by decide +kernel⟩
theorem sc__law_is_list : FnScope N__law_is_list ps__law_is_list (defScope s__law_is_list) := ⟨rfl, rfl, rfl, by decide +kernel, rfl, by decide +kernel, by decide +kernel⟩
theorem sc__law_told_right : FnScope N__law_told_right ps__law_told_right (defScope s__law_told_right) := ⟨rfl, rfl, rfl, by decide +kernel, rfl, by decide +kernel, by decide +kernel⟩
theorem sc__law_right : FnScope N__law_right ps__law_right (defScope s__law_right) := ⟨rfl, rfl, rfl, by decide +kernel, rfl, by decide +kernel, by decide +kernel⟩
theorem sc_law : FnScope N_law ps_law (defScope s_law) := ⟨rfl, rfl, rfl, by decide +kernel, rfl, by decide +kernel, by decide +kernel⟩
theorem bb_abs : bootBuiltins "abs" = some (.builtin "abs") := by first | decide +kernel | rfl
theorem bb_int : bootBuiltins "int" = some (.type "int") := by first | decide +kernel | rfl
theorem bb_max : bootBuiltins "max" = some (.builtin "max") := by first | decide +kernel | rfl
theorem bb_sorted : bootBuiltins "sorted" = some (.builtin "sorted") := by first | decide +kernel | rfl
theorem bb_len : bootBuiltins "len" = some (.builtin "len") := by first | decide +kernel | rfl
theorem bb_isinstance : bootBuiltins "isinstance" = some (.builtin "isinstance") := by first | decide +kernel | rfl
theorem bb_bool : bootBuiltins "bool" = some (.type "bool") := by first | decide +kernel | rfl
theorem bb_tuple : bootBuiltins "tuple" = some (.type "tuple") := by first | decide +kernel | rfl
theorem bb_all : bootBuiltins "all" = some (.builtin "all") := by first | decide +kernel | rfl
theorem bb_list : bootBuiltins "list" = some (.type "list") := by first | decide +kernel | rfl
theorem bb_repr : bootBuiltins "repr" = some (.builtin "repr") := by first | decide +kernel | rfl
theorem bb_min : bootBuiltins "min" = some (.builtin "min") := by first | decide +kernel | rfl
theorem bd__law_source_2 {K : PySem.W.Frag} {f : Addr} {fd : FuncData} (F : FunT K "_law_source" "_law_source" s__law_source [] f fd) : Bnd K fd ps__law_source 2 [] fun ds _ => ds := bnd_pos F 2 rfl fun _ _ _ _ _ _ us h1 => match us, h1 with | [_, _], _ => rfl
theorem bd__law_right_2 {K : PySem.W.Frag} {f : Addr} {fd : FuncData} (F : FunT K "_law_right" "_law_right" s__law_right [] f fd) : Bnd K fd ps__law_right 2 [] fun ds _ => ds := bnd_pos F 2 rfl fun _ _ _ _ _ _ us h1 => match us, h1 with | [_, _], _ => rfl
theorem bd__law_some_moves_1 {K : PySem.W.Frag} {f : Addr} {fd : FuncData} (F : FunT K "_law_some_moves" "_law_some_moves" s__law_some_moves [] f fd) : Bnd K fd ps__law_some_moves 1 [] fun ds _ => ds := bnd_pos F 1 rfl fun _ _ _ _ _ _ us h1 => match us, h1 with | [_], _ => rfl
theorem bd__law_list_5 {K : PySem.W.Frag} {f : Addr} {fd : FuncData} (F : FunT K "_law_list" "_law_list" s__law_list [] f fd) : Bnd K fd ps__law_list 5 [] fun ds _ => ds := bnd_pos F 5 rfl fun _ _ _ _ _ _ us h1 => match us, h1 with | [_, _, _, _, _], _ => rfl
theorem bd__law_told_right_4 {K : PySem.W.Frag} {f : Addr} {fd : FuncData} (F : FunT K "_law_told_right" "_law_told_right" s__law_told_right [] f fd) : Bnd K fd ps__law_told_right 4 [] fun ds _ => ds := bnd_pos F 4 rfl fun _ _ _ _ _ _ us h1 => match us, h1 with | [_, _, _, _], _ => rfl
theorem bd_is_list_4 {K : PySem.W.Frag} {f : Addr} {fd : FuncData} (F : FunT K "is_list" "is_list" s_is_list [] f fd) : Bnd K fd ps_is_list 4 [] fun ds _ => ds := bnd_pos F 4 rfl fun _ _ _ _ _ _ us h1 => match us, h1 with | [_, _, _, _], _ => rfl
theorem bd__law_box_2 {K : PySem.W.Frag} {f : Addr} {fd : FuncData} (F : FunT K "_law_box" "_law_box" s__law_box [] f fd) : Bnd K fd ps__law_box 2 [] fun ds _ => ds := bnd_pos F 2 rfl fun _ _ _ _ _ _ us h1 => match us, h1 with | [_, _], _ => rfl
theorem bd__law_draw_2 {K : PySem.W.Frag} {f : Addr} {fd : FuncData} (F : FunT K "_law_draw" "_law_draw" s__law_draw [] f fd) : Bnd K fd ps__law_draw 2 [] fun ds _ => ds := bnd_pos F 2 rfl fun _ _ _ _ _ _ us h1 => match us, h1 with | [_, _], _ => rfl
theorem bd__law_bent_4 {K : PySem.W.Frag} {f : Addr} {fd : FuncData} (F : FunT K "_law_bent" "_law_bent" s__law_bent [] f fd) : Bnd K fd ps__law_bent 4 [] fun ds _ => ds := bnd_pos F 4 rfl fun _ _ _ _ _ _ us h1 => match us, h1 with | [_, _, _, _], _ => rfl
theorem bd__law_moves_3 {K : PySem.W.Frag} {f : Addr} {fd : FuncData} (F : FunT K "_law_moves" "_law_moves" s__law_moves [] f fd) : Bnd K fd ps__law_moves 3 [] fun ds _ => ds := bnd_pos F 3 rfl fun _ _ _ _ _ _ us h1 => match us, h1 with | [_, _, _], _ => rfl
theorem bd__law_move_2 {K : PySem.W.Frag} {f : Addr} {fd : FuncData} (F : FunT K "_law_move" "_law_move" s__law_move [] f fd) : Bnd K fd ps__law_move 2 [] fun ds _ => ds := bnd_pos F 2 rfl fun _ _ _ _ _ _ us h1 => match us, h1 with | [_, _], _ => rfl
theorem bd__law_spots_2 {K : PySem.W.Frag} {f : Addr} {fd : FuncData} (F : FunT K "_law_spots" "_law_spots" s__law_spots [] f fd) : Bnd K fd ps__law_spots 2 [] fun ds _ => ds := bnd_pos F 2 rfl fun _ _ _ _ _ _ us h1 => match us, h1 with | [_, _], _ => rfl
theorem bd__law_behind_4 {K : PySem.W.Frag} {f : Addr} {fd : FuncData} (F : FunT K "_law_behind" "_law_behind" s__law_behind [] f fd) : Bnd K fd ps__law_behind 4 [] fun ds _ => ds := bnd_pos F 4 rfl fun _ _ _ _ _ _ us h1 => match us, h1 with | [_, _, _, _], _ => rfl
theorem bd__law_ahead_4 {K : PySem.W.Frag} {f : Addr} {fd : FuncData} (F : FunT K "_law_ahead" "_law_ahead" s__law_ahead [] f fd) : Bnd K fd ps__law_ahead 4 [] fun ds _ => ds := bnd_pos F 4 rfl fun _ _ _ _ _ _ us h1 => match us, h1 with | [_, _, _, _], _ => rfl
theorem bd_need_steps_1 {K : PySem.W.Frag} {f : Addr} {fd : FuncData} (F : FunT K "need_steps" "need_steps" s_need_steps [] f fd) : Bnd K fd ps_need_steps 1 [] fun ds _ => ds := bnd_pos F 1 rfl fun _ _ _ _ _ _ us h1 => match us, h1 with | [_], _ => rfl
theorem bd_need_box_2 {K : PySem.W.Frag} {f : Addr} {fd : FuncData} (F : FunT K "need_box" "need_box" s_need_box [] f fd) : Bnd K fd ps_need_box 2 [] fun ds _ => ds := bnd_pos F 2 rfl fun _ _ _ _ _ _ us h1 => match us, h1 with | [_, _], _ => rfl
theorem bd_list_fault_4 {K : PySem.W.Frag} {f : Addr} {fd : FuncData} (F : FunT K "list_fault" "list_fault" s_list_fault [] f fd) : Bnd K fd ps_list_fault 4 [] fun ds _ => ds := bnd_pos F 4 rfl fun _ _ _ _ _ _ us h1 => match us, h1 with | [_, _, _, _], _ => rfl
theorem bd_steps_fault_1 {K : PySem.W.Frag} {f : Addr} {fd : FuncData} (F : FunT K "steps_fault" "steps_fault" s_steps_fault [] f fd) : Bnd K fd ps_steps_fault 1 [] fun ds _ => ds := bnd_pos F 1 rfl fun _ _ _ _ _ _ us h1 => match us, h1 with | [_], _ => rfl
theorem bd_is_step_1 {K : PySem.W.Frag} {f : Addr} {fd : FuncData} (F : FunT K "is_step" "is_step" s_is_step [] f fd) : Bnd K fd ps_is_step 1 [] fun ds _ => ds := bnd_pos F 1 rfl fun _ _ _ _ _ _ us h1 => match us, h1 with | [_], _ => rfl
theorem bd_is_pair_1 {K : PySem.W.Frag} {f : Addr} {fd : FuncData} (F : FunT K "is_pair" "is_pair" s_is_pair [] f fd) : Bnd K fd ps_is_pair 1 [] fun ds _ => ds := bnd_pos F 1 rfl fun _ _ _ _ _ _ us h1 => match us, h1 with | [_], _ => rfl
theorem bd_is_integer_1_ {K : PySem.W.Frag} {f : Addr} {fd : FuncData} (F : FunT K "is_integer" "is_integer" s_is_integer dd_is_integer f fd) : Bnd K fd ps_is_integer 1 [] fun ds es => sel [0, 1, 2] (ds ++ es ++ dd_is_integer) := bnd_def F (by decide) (by decide) 1 [] [0, 1, 2] fun _ _ _ _ _ _ _ us ws its h1 h2 h3 => match us, ws, its, h1, h2, h3 with | [_], [], [_, _], _, _, _ => ⟨_, rfl, rfl⟩
theorem bd_need_size_1 {K : PySem.W.Frag} {f : Addr} {fd : FuncData} (F : FunT K "need_size" "need_size" s_need_size [] f fd) : Bnd K fd ps_need_size 1 [] fun ds _ => ds := bnd_pos F 1 rfl fun _ _ _ _ _ _ us h1 => match us, h1 with | [_], _ => rfl
theorem bd_is_integer_3_ {K : PySem.W.Frag} {f : Addr} {fd : FuncData} (F : FunT K "is_integer" "is_integer" s_is_integer dd_is_integer f fd) : Bnd K fd ps_is_integer 3 [] fun ds es => sel [0, 1, 2] (ds ++ es ++ dd_is_integer) := bnd_def F (by decide) (by decide) 3 [] [0, 1, 2] fun _ _ _ _ _ _ _ us ws its h1 h2 h3 => match us, ws, its, h1, h2, h3 with | [_, _, _], [], [_, _], _, _, _ => ⟨_, rfl, rfl⟩
theorem bd_can_stand_5 {K : PySem.W.Frag} {f : Addr} {fd : FuncData} (F : FunT K "can_stand" "can_stand" s_can_stand [] f fd) : Bnd K fd ps_can_stand 5 [] fun ds _ => ds := bnd_pos F 5 rfl fun _ _ _ _ _ _ us h1 => match us, h1 with | [_, _, _, _, _], _ => rfl
theorem bd_in_box_3 {K : PySem.W.Frag} {f : Addr} {fd : FuncData} (F : FunT K "in_box" "in_box" s_in_box [] f fd) : Bnd K fd ps_in_box 3 [] fun ds _ => ds := bnd_pos F 3 rfl fun _ _ _ _ _ _ us h1 => match us, h1 with | [_, _, _], _ => rfl
theorem bd_sources_of_4 {K : PySem.W.Frag} {f : Addr} {fd : FuncData} (F : FunT K "sources_of" "sources_of" s_sources_of [] f fd) : Bnd K fd ps_sources_of 4 [] fun ds _ => ds := bnd_pos F 4 rfl fun _ _ _ _ _ _ us h1 => match us, h1 with | [_, _, _, _], _ => rfl
theorem bd_taken_2 {K : PySem.W.Frag} {f : Addr} {fd : FuncData} (F : FunT K "taken" "taken" s_taken [] f fd) : Bnd K fd ps_taken 2 [] fun ds _ => ds := bnd_pos F 2 rfl fun _ _ _ _ _ _ us h1 => match us, h1 with | [_, _], _ => rfl
theorem bd__law_odd_spot_3 {K : PySem.W.Frag} {f : Addr} {fd : FuncData} (F : FunT K "_law_odd_spot" "_law_odd_spot" s__law_odd_spot [] f fd) : Bnd K fd ps__law_odd_spot 3 [] fun ds _ => ds := bnd_pos F 3 rfl fun _ _ _ _ _ _ us h1 => match us, h1 with | [_, _, _], _ => rfl
theorem bd__law_is_list_4 {K : PySem.W.Frag} {f : Addr} {fd : FuncData} (F : FunT K "_law_is_list" "_law_is_list" s__law_is_list [] f fd) : Bnd K fd ps__law_is_list 4 [] fun ds _ => ds := bnd_pos F 4 rfl fun _ _ _ _ _ _ us h1 => match us, h1 with | [_, _, _, _], _ => rfl
theorem bd_is_list_0_value_columns_rows_steps {K : PySem.W.Frag} {f : Addr} {fd : FuncData} (F : FunT K "is_list" "is_list" s_is_list [] f fd) : Bnd K fd ps_is_list 0 ["value", "columns", "rows", "steps"] fun ds es => sel [3, 2, 1, 0] (ds ++ es) := bnd_key F 0 ["value", "columns", "rows", "steps"] [3, 2, 1, 0] fun _ _ _ _ _ _ us ws h1 h2 => match us, ws, h1, h2 with | [], [_, _, _, _], _, _ => rfl
section
variable {P : Program} {w : World} {K : PySem.W.Frag} {mg : Str → Option Value} {base : Heap}
set_option maxHeartbeats 0 in
theorem ok__law_source (F : FunH K mg "_law_source" s__law_source []) (b_abs : mg "abs" = none) (b_int : mg "int" = none) (b_max : mg "max" = none) : Has P w K mg base 1 "_law_source" s__law_source [] ps__law_source S__law_source :=
  has_of (t := t__law_source) F sc__law_source (fun f cdv A outer s H gd hr => ds_cons (ds_set 2 sc__law_source.nd (de_b1 cd_abs b_abs bb_abs (de_var 0)))
    (ds_one (ds_ret (de_src (de_lst (da_cons (de_bn (cd_max2 rfl) b_max bb_max (da_cons (de_int) (da_cons (de_bin od_sub (de_var 2) (de_bin od_pow (de_int) (de_int))) (da_nil)))) (da_cons (de_bin od_add (de_bin od_add (de_bin od_mul (de_bin od_mod (de_t1 cd_int b_int bb_int (de_var 2)) (de_bin od_add (de_bin od_pow (de_int) (de_int)) (de_int))) (de_int)) (de_bin od_mul (de_int) (de_var 1))) (de_t1 cd_int b_int bb_int (de_cmp od_lt (de_var 0) (de_int)))) (da_cons (de_int) (da_nil))))))))) L__law_source l__law_source
set_option maxHeartbeats 0 in
theorem ok__law_draw (F : FunH K mg "_law_draw" s__law_draw []) (b_int : mg "int" = none) : Has P w K mg base 1 "_law_draw" s__law_draw [] ps__law_draw S__law_draw :=
  has_of (t := t__law_draw) F sc__law_draw (fun f cdv A outer s H gd hr => ds_cons (ds_if (dt_cmp od_gt (de_ixSrc 0 0) (de_int)) (ds_cons (ds_set 3 sc__law_draw.nd (de_bin od_mod (de_t1 cd_int b_int bb_int (de_ixSrc 0 0)) (de_var 1)))
    (ds_cons (ds_setSrc 0 0 (de_bin od_fdv (de_ixSrc 0 0) (de_var 1)))
    (ds_one (ds_ret (de_var 3))))) (ds_nil))
    (ds_cons (ds_setSrc 0 2 (de_bin od_add (de_ixSrc 0 2) (de_int)))
    (ds_cons (ds_set 2 sc__law_draw.nd (de_bin od_mod (de_t1 cd_int b_int bb_int (de_bin od_pow (de_bin od_add (de_ixSrc 0 1) (de_bin od_mul (de_int) (de_ixSrc 0 2))) (de_int))) (de_bin od_add (de_bin od_pow (de_int) (de_int)) (de_int))))
    (ds_cons (ds_set 2 sc__law_draw.nd (de_bin od_mod (de_t1 cd_int b_int bb_int (de_bin od_pow (de_bin od_add (de_bin od_mul (de_var 2) (de_ixSrc 0 2)) (de_int)) (de_int))) (de_bin od_add (de_bin od_pow (de_int) (de_int)) (de_int))))
    (ds_one (ds_ret (de_bin od_mod (de_t1 cd_int b_int bb_int (de_bin od_fdv (de_var 2) (de_int))) (de_var 1)))))))) L__law_draw l__law_draw
set_option maxHeartbeats 0 in
theorem ok__law_move (F : FunH K mg "_law_move" s__law_move []) (h__law_draw : Has P w K mg base 1 "_law_draw" s__law_draw [] ps__law_draw S__law_draw) : Has P w K mg base 2 "_law_move" s__law_move [] ps__law_move S__law_move :=
  has_of (t := t__law_move) F sc__law_move (fun f cdv A outer s H gd hr => ds_cons (ds_set 2 sc__law_move.nd (dh_call h__law_draw gd hr (fun _ _ F => bd__law_draw_2 F) (da_cons (de_var 0) (da_cons (de_bin od_add (de_var 1) (de_int)) (da_nil)))))
    (ds_cons (ds_if (dt_cmp (od_eq hr.units) (de_var 2) (de_int)) (ds_one (ds_ret (de_tup (da_cons (de_int) (da_cons (de_bin od_add (de_int) (dh_call h__law_draw gd hr (fun _ _ F => bd__law_draw_2 F) (da_cons (de_var 0) (da_cons (de_var 1) (da_nil))))) (da_nil)))))) (ds_nil))
    (ds_one (ds_ret (de_tup (da_cons (de_var 2) (da_cons (de_bin od_sub (dh_call h__law_draw gd hr (fun _ _ F => bd__law_draw_2 F) (da_cons (de_var 0) (da_cons (de_bin od_add (de_bin od_mul (de_int) (de_var 1)) (de_int)) (da_nil)))) (de_var 1)) (da_nil)))))))) L__law_move l__law_move
set_option maxHeartbeats 0 in
theorem ok__law_moves (F : FunH K mg "_law_moves" s__law_moves []) (h__law_draw : Has P w K mg base 1 "_law_draw" s__law_draw [] ps__law_draw S__law_draw) (h__law_move : Has P w K mg base 2 "_law_move" s__law_move [] ps__law_move S__law_move) (b_range : mg "range" = none) : Has P w K mg base 3 "_law_moves" s__law_moves [] ps__law_moves S__law_moves :=
  has_of (t := t__law_moves) F sc__law_moves (fun f cdv A outer s H gd hr => ds_cons (ds_set 3 sc__law_moves.nd (de_lst (da_nil)))
    (ds_cons (ds_for (ws := [4]) PassesOwn.never (di_range1 b_range (da_cons (de_bin od_add (de_int) (dh_call h__law_draw gd hr (fun _ _ F => bd__law_draw_2 F) (da_cons (de_var 0) (da_cons (de_var 2) (da_nil))))) (da_nil))) (dg_name 4 sc__law_moves.nd) (ds_cons (ds_set 5 sc__law_moves.nd (dh_call h__law_move gd hr (fun _ _ F => bd__law_move_2 F) (da_cons (de_var 0) (da_cons (de_var 1) (da_nil)))))
    (ds_one (ds_if (dt_cmp (od_notin (u65 hr)) (de_var 5) (de_var 3)) (ds_one (ds_expr (de_ml (i := 3) PySem.F.slot_list_append PySem.F.type_list_append mt_append ml_append (da_cons (de_var 5) (da_nil))))) (ds_nil)))))
    (ds_one (ds_ret (de_var 3))))) L__law_moves l__law_moves
set_option maxHeartbeats 0 in
theorem ok__law_some_moves (F : FunH K mg "_law_some_moves" s__law_some_moves []) (h__law_draw : Has P w K mg base 1 "_law_draw" s__law_draw [] ps__law_draw S__law_draw) (h__law_moves : Has P w K mg base 3 "_law_moves" s__law_moves [] ps__law_moves S__law_moves) (b_range : mg "range" = none) : Has P w K mg base 4 "_law_some_moves" s__law_some_moves [] ps__law_some_moves S__law_some_moves :=
  has_of (t := t__law_some_moves) F sc__law_some_moves (fun f cdv A outer s H gd hr => ds_cons (ds_set 1 sc__law_some_moves.nd (dh_call h__law_draw gd hr (fun _ _ F => bd__law_draw_2 F) (da_cons (de_var 0) (da_cons (de_int) (da_nil)))))
    (ds_cons (ds_if (dt_cmp (od_eq hr.units) (de_var 1) (de_int)) (ds_one (ds_ret (dh_call h__law_moves gd hr (fun _ _ F => bd__law_moves_3 F) (da_cons (de_var 0) (da_cons (de_int) (da_cons (de_int) (da_nil))))))) (ds_nil))
    (ds_cons (ds_if (dt_cmp (od_eq hr.units) (de_var 1) (de_int)) (ds_one (ds_ret (dh_call h__law_moves gd hr (fun _ _ F => bd__law_moves_3 F) (da_cons (de_var 0) (da_cons (de_int) (da_cons (de_int) (da_nil))))))) (ds_nil))
    (ds_cons (ds_if (dt_cmp (od_eq hr.units) (de_var 1) (de_int)) (ds_cons (ds_asg (ws := [4, 5]) (de_ix hr.units (de_lst (da_cons (de_tup (da_cons (de_int) (da_cons (de_int) (da_nil)))) (da_cons (de_tup (da_cons (de_int) (da_cons (de_int) (da_nil)))) (da_cons (de_tup (da_cons (de_int) (da_cons (de_int) (da_nil)))) (da_cons (de_tup (da_cons (de_int) (da_cons (de_un ud_neg (de_int)) (da_nil)))) (da_cons (de_tup (da_cons (de_int) (da_cons (de_int) (da_nil)))) (da_cons (de_tup (da_cons (de_int) (da_cons (de_un ud_neg (de_int)) (da_nil)))) (da_nil)))))))) (dh_call h__law_draw gd hr (fun _ _ F => bd__law_draw_2 F) (da_cons (de_var 0) (da_cons (de_int) (da_nil))))) (dg_tup (dgs_cons (dg_name 4 sc__law_some_moves.nd) (dgs_cons (dg_name 5 sc__law_some_moves.nd) (dgs_nil)))))
    (ds_cons (ds_set 2 sc__law_some_moves.nd (de_lst (da_nil)))
    (ds_cons (ds_for (ws := [3]) PassesOwn.never (di_walk (de_lc (own := [("_law_turn", 8)]) sc__law_some_moves.nd (di_range1 b_range (da_cons (de_bin od_add (de_int) (dh_call h__law_draw gd hr (fun _ _ F => bd__law_draw_2 F) (da_cons (de_var 0) (da_cons (de_int) (da_nil))))) (da_nil))) (by exact blkOk_by (N := N__law_some_moves) (sc := defScope s__law_some_moves) (by decide +kernel)) (fun _ _ _ _ _ => dg_name 8 sc__law_some_moves.nd) (fun _ _ _ _ _ => dts_nil) (fun _ _ _ _ _ => de_bin od_add (de_int) (dh_call h__law_draw gd hr (fun _ _ F => bd__law_draw_2 F) (da_cons (de_var 0) (da_cons (de_int) (da_nil))))))) (dg_name 3 sc__law_some_moves.nd) (ds_one (ds_if (dt_cmp (od_notin (u65 hr)) (de_tup (da_cons (de_bin od_mul (de_var 4) (de_var 3)) (da_cons (de_bin od_mul (de_var 5) (de_var 3)) (da_nil)))) (de_var 2)) (ds_one (ds_expr (de_ml (i := 2) PySem.F.slot_list_append PySem.F.type_list_append mt_append ml_append (da_cons (de_tup (da_cons (de_bin od_mul (de_var 4) (de_var 3)) (da_cons (de_bin od_mul (de_var 5) (de_var 3)) (da_nil)))) (da_nil))))) (ds_nil))))
    (ds_one (ds_ret (de_var 2)))))) (ds_nil))
    (ds_cons (ds_if (dt_cmp (od_eq hr.units) (de_var 1) (de_int)) (ds_cons (ds_parC 6 7 sc__law_some_moves.nd (de_bin od_add (de_int) (dh_call h__law_draw gd hr (fun _ _ F => bd__law_draw_2 F) (da_cons (de_var 0) (da_cons (de_int) (da_nil))))) (de_bin od_add (de_int) (dh_call h__law_draw gd hr (fun _ _ F => bd__law_draw_2 F) (da_cons (de_var 0) (da_cons (de_int) (da_nil))))))
    (ds_one (ds_ret (de_lc (own := [("_law_x", 10), ("_law_y", 11)]) sc__law_some_moves.nd (di_walk (dh_call h__law_moves gd hr (fun _ _ F => bd__law_moves_3 F) (da_cons (de_var 0) (da_cons (de_int) (da_cons (de_int) (da_nil)))))) (by exact blkOk_by (N := N__law_some_moves) (sc := defScope s__law_some_moves) (by decide +kernel)) (fun _ _ _ _ _ => dg_tup (dgs_cons (dg_name 10 sc__law_some_moves.nd) (dgs_cons (dg_name 11 sc__law_some_moves.nd) (dgs_nil)))) (fun _ _ _ _ _ => dts_nil) (fun _ _ _ _ _ => de_tup (da_cons (de_bin od_mul (de_var 6) (de_var 10)) (da_cons (de_bin od_mul (de_var 7) (de_var 11)) (da_nil)))))))) (ds_nil))
    (ds_cons (ds_if (dt_cmp (od_eq hr.units) (de_var 1) (de_int)) (ds_one (ds_ret (de_lc (own := [("_law_spot", 9)]) sc__law_some_moves.nd (di_range1 b_range (da_cons (de_bin od_add (de_int) (dh_call h__law_draw gd hr (fun _ _ F => bd__law_draw_2 F) (da_cons (de_var 0) (da_cons (de_int) (da_nil))))) (da_nil))) (by exact blkOk_by (N := N__law_some_moves) (sc := defScope s__law_some_moves) (by decide +kernel)) (fun _ _ _ _ _ => dg_name 9 sc__law_some_moves.nd) (fun _ _ _ _ _ => dts_nil) (fun _ _ _ _ _ => de_tup (da_cons (de_bin od_add (de_int) (dh_call h__law_draw gd hr (fun _ _ F => bd__law_draw_2 F) (da_cons (de_var 0) (da_cons (de_int) (da_nil))))) (da_cons (de_bin od_sub (de_var 9) (de_int)) (da_nil))))))) (ds_nil))
    (ds_one (ds_ret (dh_call h__law_moves gd hr (fun _ _ F => bd__law_moves_3 F) (da_cons (de_var 0) (da_cons (de_int) (da_cons (de_int) (da_nil))))))))))))) L__law_some_moves l__law_some_moves
set_option maxHeartbeats 0 in
theorem ok__law_box (F : FunH K mg "_law_box" s__law_box []) (h__law_draw : Has P w K mg base 1 "_law_draw" s__law_draw [] ps__law_draw S__law_draw) : Has P w K mg base 2 "_law_box" s__law_box [] ps__law_box S__law_box :=
  has_of (t := t__law_box) F sc__law_box (fun f cdv A outer s H gd hr => ds_cons (ds_set 2 sc__law_box.nd (de_bin od_add (de_int) (dh_call h__law_draw gd hr (fun _ _ F => bd__law_draw_2 F) (da_cons (de_var 0) (da_cons (de_var 1) (da_nil))))))
    (ds_cons (ds_set 3 sc__law_box.nd (de_bin od_add (de_int) (dh_call h__law_draw gd hr (fun _ _ F => bd__law_draw_2 F) (da_cons (de_var 0) (da_cons (de_bin od_fdv (de_var 1) (de_var 2)) (da_nil))))))
    (ds_one (ds_ret (de_ix hr.units (de_lst (da_cons (de_tup (da_cons (de_var 2) (da_cons (de_var 3) (da_nil)))) (da_cons (de_tup (da_cons (de_var 3) (da_cons (de_var 2) (da_nil)))) (da_nil)))) (dh_call h__law_draw gd hr (fun _ _ F => bd__law_draw_2 F) (da_cons (de_var 0) (da_cons (de_int) (da_nil))))))))) L__law_box l__law_box
set_option maxHeartbeats 0 in
theorem ok__law_spots (F : FunH K mg "_law_spots" s__law_spots []) (b_range : mg "range" = none) (b_int : mg "int" = none) : Has P w K mg base 1 "_law_spots" s__law_spots [] ps__law_spots S__law_spots :=
  has_of (t := t__law_spots) F sc__law_spots (fun f cdv A outer s H gd hr => ds_one (ds_ret (de_lc (own := [("_law_spot", 2)]) sc__law_spots.nd (di_range1 b_range (da_cons (de_bin od_mul (de_var 0) (de_var 1)) (da_nil))) (by exact blkOk_by (N := N__law_spots) (sc := defScope s__law_spots) (by decide +kernel)) (fun _ _ _ _ _ => dg_name 2 sc__law_spots.nd) (fun _ _ _ _ _ => dts_nil) (fun _ _ _ _ _ => de_tup (da_cons (de_bin od_fdv (de_var 2) (de_var 1)) (da_cons (de_bin od_mod (de_t1 cd_int b_int bb_int (de_var 2)) (de_var 1)) (da_nil))))))) L__law_spots l__law_spots
set_option maxHeartbeats 0 in
theorem ok__law_behind (F : FunH K mg "_law_behind" s__law_behind []) (b_sorted : mg "sorted" = none) : Has P w K mg base 1 "_law_behind" s__law_behind [] ps__law_behind S__law_behind :=
  has_of (t := t__law_behind) F sc__law_behind (fun f cdv A outer s H gd hr => ds_cons (ds_setLc 4 (own := [("_law_x", 5), ("_law_y", 6)]) sc__law_behind.nd (di_walk (de_var 0)) (by exact blkOk_by (N := N__law_behind) (sc := defScope s__law_behind) (by decide +kernel)) (fun _ _ _ _ _ => dg_tup (dgs_cons (dg_name 5 sc__law_behind.nd) (dgs_cons (dg_name 6 sc__law_behind.nd) (dgs_nil)))) (fun _ _ _ _ _ => dts_nil) (fun _ _ _ _ _ => de_tup (da_cons (de_bin od_sub (de_ix hr.units (de_var 1) (de_int)) (de_var 5)) (da_cons (de_bin od_sub (de_ix hr.units (de_var 1) (de_int)) (de_var 6)) (da_nil)))) (sw_true rfl rfl rfl (by decide +kernel)))
    (ds_one (ds_ret (de_b1 cd_sorted b_sorted bb_sorted (de_lc (own := [("_law_one", 7)]) sc__law_behind.nd (di_walk (de_var 4)) (by exact blkOk_by (N := N__law_behind) (sc := defScope s__law_behind) (by decide +kernel)) (fun _ _ _ _ _ => dg_name 7 sc__law_behind.nd) (fun _ _ _ _ _ => dts_one ((dw_and (dt_chn od_le od_lt (de_int) (de_ix hr.units (de_var 7) (de_int)) (de_var 2)) (dw_and1 (dt_chn od_le od_lt (de_int) (de_ix hr.units (de_var 7) (de_int)) (de_var 3)))).pt)) (fun _ _ _ _ _ => de_var 7)))))) L__law_behind l__law_behind
set_option maxHeartbeats 0 in
theorem ok__law_ahead (F : FunH K mg "_law_ahead" s__law_ahead []) (b_sorted : mg "sorted" = none) : Has P w K mg base 1 "_law_ahead" s__law_ahead [] ps__law_ahead S__law_ahead :=
  has_of (t := t__law_ahead) F sc__law_ahead (fun f cdv A outer s H gd hr => ds_cons (ds_setLc 4 (own := [("_law_x", 5), ("_law_y", 6)]) sc__law_ahead.nd (di_walk (de_var 0)) (by exact blkOk_by (N := N__law_ahead) (sc := defScope s__law_ahead) (by decide +kernel)) (fun _ _ _ _ _ => dg_tup (dgs_cons (dg_name 5 sc__law_ahead.nd) (dgs_cons (dg_name 6 sc__law_ahead.nd) (dgs_nil)))) (fun _ _ _ _ _ => dts_nil) (fun _ _ _ _ _ => de_tup (da_cons (de_bin od_add (de_ix hr.units (de_var 1) (de_int)) (de_var 5)) (da_cons (de_bin od_add (de_ix hr.units (de_var 1) (de_int)) (de_var 6)) (da_nil)))) (sw_true rfl rfl rfl (by decide +kernel)))
    (ds_one (ds_ret (de_b1 cd_sorted b_sorted bb_sorted (de_lc (own := [("_law_one", 7)]) sc__law_ahead.nd (di_walk (de_var 4)) (by exact blkOk_by (N := N__law_ahead) (sc := defScope s__law_ahead) (by decide +kernel)) (fun _ _ _ _ _ => dg_name 7 sc__law_ahead.nd) (fun _ _ _ _ _ => dts_one ((dw_and (dt_chn od_le od_lt (de_int) (de_ix hr.units (de_var 7) (de_int)) (de_var 2)) (dw_and1 (dt_chn od_le od_lt (de_int) (de_ix hr.units (de_var 7) (de_int)) (de_var 3)))).pt)) (fun _ _ _ _ _ => de_var 7)))))) L__law_ahead l__law_ahead
set_option maxHeartbeats 0 in
theorem ok__law_list (F : FunH K mg "_law_list" s__law_list []) (h__law_spots : Has P w K mg base 1 "_law_spots" s__law_spots [] ps__law_spots S__law_spots) (h__law_behind : Has P w K mg base 1 "_law_behind" s__law_behind [] ps__law_behind S__law_behind) (h__law_draw : Has P w K mg base 1 "_law_draw" s__law_draw [] ps__law_draw S__law_draw) (h__law_ahead : Has P w K mg base 1 "_law_ahead" s__law_ahead [] ps__law_ahead S__law_ahead) (b_len : mg "len" = none) : Has P w K mg base 2 "_law_list" s__law_list [] ps__law_list S__law_list :=
  has_of (t := t__law_list) F sc__law_list (fun f cdv A outer s H gd hr => ds_cons (ds_setLc 5 (own := [("_law_spot", 9)]) sc__law_list.nd (di_walk (dh_call h__law_spots gd hr (fun _ _ F => bd__law_spots_2 F) (da_cons (de_var 2) (da_cons (de_var 3) (da_nil))))) (by exact blkOk_by (N := N__law_list) (sc := defScope s__law_list) (by decide +kernel)) (fun _ _ _ _ _ => dg_name 9 sc__law_list.nd) (fun _ _ _ _ _ => dts_one (dt_cmp (od_eq hr.units) (dh_call h__law_behind gd hr (fun _ _ F => bd__law_behind_4 F) (da_cons (de_var 1) (da_cons (de_var 9) (da_cons (de_var 2) (da_cons (de_var 3) (da_nil)))))) (de_lst (da_nil)))) (fun _ _ _ _ _ => de_var 9) (sw_true rfl rfl rfl (by decide +kernel)))
    (ds_cons (ds_parC 6 7 sc__law_list.nd (de_lst (da_nil)) (de_dnT))
    (ds_cons (ds_while PassesOwn.never ((dw_and (dt_cmp (od_ne hr.units) (de_var 5) (de_lst (da_nil))) (dw_and1 (dt_cmp od_lt (de_b1 cd_len b_len bb_len (de_var 6)) (de_var 4)))).pt) (ds_cons (ds_set 8 sc__law_list.nd (dh_call h__law_draw gd hr (fun _ _ F => bd__law_draw_2 F) (da_cons (de_var 0) (da_cons (de_b1 cd_len b_len bb_len (de_var 5)) (da_nil)))))
    (ds_cons (ds_set 9 sc__law_list.nd (de_ix hr.units (de_var 5) (de_var 8)))
    (ds_cons (ds_set 5 sc__law_list.nd (de_bin od_add (de_sl (de_var 5) (dp_none) (dp_some (de_var 8))) (de_sl (de_var 5) (dp_some (de_bin od_add (de_var 8) (de_int))) (dp_none))))
    (ds_cons (ds_expr (de_ml (i := 6) PySem.F.slot_list_append PySem.F.type_list_append mt_append ml_append (da_cons (de_var 9) (da_nil))))
    (ds_cons (ds_put 7 (de_bl) (de_var 9) (u65 hr))
    (ds_one (ds_for (ws := [10]) PassesOwn.never (di_walk (dh_call h__law_ahead gd hr (fun _ _ F => bd__law_ahead_4 F) (da_cons (de_var 1) (da_cons (de_var 9) (da_cons (de_var 2) (da_cons (de_var 3) (da_nil))))))) (dg_name 10 sc__law_list.nd) (ds_one (ds_if (dt_cmp (od_eq hr.units) (de_lc (own := [("_law_early", 11)]) sc__law_list.nd (di_walk (dh_call h__law_behind gd hr (fun _ _ F => bd__law_behind_4 F) (da_cons (de_var 1) (da_cons (de_var 10) (da_cons (de_var 2) (da_cons (de_var 3) (da_nil))))))) (by exact blkOk_by (N := N__law_list) (sc := defScope s__law_list) (by decide +kernel)) (fun _ _ _ _ _ => dg_name 11 sc__law_list.nd) (fun _ _ _ _ _ => dts_one (dt_cmp (od_notin (u65 hr)) (de_var 11) (de_var 7))) (fun _ _ _ _ _ => de_var 11)) (de_lst (da_nil))) (ds_one (ds_expr (de_ml (i := 5) PySem.F.slot_list_append PySem.F.type_list_append mt_append ml_append (da_cons (de_var 10) (da_nil))))) (ds_nil)))))))))))
    (ds_one (ds_ret (de_var 6)))))) L__law_list l__law_list
set_option maxHeartbeats 0 in
theorem ok_is_integer (F : FunH K mg "is_integer" s_is_integer dd_is_integer) (b_int : mg "int" = none) (b_isinstance : mg "isinstance" = none) (b_bool : mg "bool" = none) : Has P w K mg base 1 "is_integer" s_is_integer dd_is_integer ps_is_integer S_is_integer :=
  has_of (t := t_is_integer) F sc_is_integer (fun f cdv A outer s H gd hr => ds_cons (ds_if ((dw_or (dt_not (dt_val (de_bn cd_isi b_isinstance bb_isinstance (da_cons (de_var 0) (da_cons (de_ty b_int bb_int) (da_nil)))))) (dw_or1 (dt_val (de_bn cd_isi b_isinstance bb_isinstance (da_cons (de_var 0) (da_cons (de_ty b_bool bb_bool) (da_nil))))))).pt) (ds_one (ds_ret (de_bl))) (ds_nil))
    (ds_one (ds_ret (de_and (de_or (de_cmp od_is (de_var 1) (de_non)) (de_one (de_cmp od_ge (de_var 0) (de_var 1)))) (de_one (de_or (de_cmp od_is (de_var 2) (de_non)) (de_one (de_cmp od_le (de_var 0) (de_var 2))))))))) L_is_integer l_is_integer
set_option maxHeartbeats 0 in
theorem ok_is_pair (F : FunH K mg "is_pair" s_is_pair []) (h_is_integer : Has P w K mg base 1 "is_integer" s_is_integer dd_is_integer ps_is_integer S_is_integer) (b_tuple : mg "tuple" = none) (b_isinstance : mg "isinstance" = none) (b_len : mg "len" = none) (b_all : mg "all" = none) : Has P w K mg base 2 "is_pair" s_is_pair [] ps_is_pair S_is_pair :=
  has_of (t := t_is_pair) F sc_is_pair (fun f cdv A outer s H gd hr => ds_one (ds_ret (de_and (de_bn cd_isi b_isinstance bb_isinstance (da_cons (de_var 0) (da_cons (de_ty b_tuple bb_tuple) (da_nil)))) (de_and (de_cmp (od_eq hr.units) (de_b1 cd_len b_len bb_len (de_var 0)) (de_int)) (de_one (de_b1 (cd_all rfl) b_all bb_all (de_lc (own := [("item", 1)]) sc_is_pair.nd (di_walk (de_var 0)) (by exact blkOk_by (N := N_is_pair) (sc := defScope s_is_pair) (by decide +kernel)) (fun _ _ _ _ _ => dg_name 1 sc_is_pair.nd) (fun _ _ _ _ _ => dts_nil) (fun _ _ _ _ _ => dh_call h_is_integer gd hr (fun _ _ F => bd_is_integer_1_ F) (da_cons (de_var 1) (da_nil)))))))))) L_is_pair l_is_pair
set_option maxHeartbeats 0 in
theorem ok_is_step (F : FunH K mg "is_step" s_is_step []) (h_is_pair : Has P w K mg base 2 "is_pair" s_is_pair [] ps_is_pair S_is_pair) (g_MOST_ITEM : GlbI mg "MOST_ITEM" 6) : Has P w K mg base 3 "is_step" s_is_step [] ps_is_step S_is_step :=
  has_of (t := t_is_step) F sc_is_step (fun f cdv A outer s H gd hr => ds_cons (ds_if ((dw_or (dt_not (dt_val (dh_call h_is_pair gd hr (fun _ _ F => bd_is_pair_1 F) (da_cons (de_var 0) (da_nil))))) (dw_or1 (dt_not (dt_chn od_le od_le (de_int) (de_ix hr.units (de_var 0) (de_int)) (de_glI g_MOST_ITEM))))).pt) (ds_one (ds_ret (de_bl))) (ds_nil))
    (ds_one (ds_ret (de_chn od_le od_le (de_if (dt_cmp (od_eq hr.units) (de_ix hr.units (de_var 0) (de_int)) (de_int)) (de_int) (de_un ud_neg (de_glI g_MOST_ITEM))) (de_ix hr.units (de_var 0) (de_int)) (de_glI g_MOST_ITEM))))) L_is_step l_is_step
set_option maxHeartbeats 0 in
theorem ok_steps_fault (F : FunH K mg "steps_fault" s_steps_fault []) (h_is_step : Has P w K mg base 3 "is_step" s_is_step [] ps_is_step S_is_step) (b_list : mg "list" = none) (b_isinstance : mg "isinstance" = none) (b_len : mg "len" = none) (b_enumerate : mg "enumerate" = none) (g_MOST_STEPS : GlbI mg "MOST_STEPS" 4) : Has P w K mg base 4 "steps_fault" s_steps_fault [] ps_steps_fault S_steps_fault :=
  has_of (t := t_steps_fault) F sc_steps_fault (fun f cdv A outer s H gd hr => ds_cons (ds_if ((dw_or (dt_not (dt_val (de_bn cd_isi b_isinstance bb_isinstance (da_cons (de_var 0) (da_cons (de_ty b_list bb_list) (da_nil)))))) (dw_or1 (dt_not (dt_chn od_le od_le (de_int) (de_b1 cd_len b_len bb_len (de_var 0)) (de_glI g_MOST_STEPS))))).pt) (ds_one (ds_ret (de_tup (da_cons (de_non) (da_nil))))) (ds_nil))
    (ds_cons (ds_for (ws := [1, 2]) PassesOwn.never (di_enum b_enumerate (da_cons (de_var 0) (da_nil))) (dg_tup (dgs_cons (dg_name 1 sc_steps_fault.nd) (dgs_cons (dg_name 2 sc_steps_fault.nd) (dgs_nil)))) (ds_one (ds_if ((dw_or (dt_not (dt_val (dh_call h_is_step gd hr (fun _ _ F => bd_is_step_1 F) (da_cons (de_var 2) (da_nil))))) (dw_or1 (dt_cmp (od_in (u65 hr)) (de_var 2) (de_sl (de_var 0) (dp_none) (dp_some (de_var 1)))))).pt) (ds_one (ds_ret (de_tup (da_cons (de_var 1) (da_nil))))) (ds_nil))))
    (ds_one (ds_ret (de_tup (da_nil)))))) L_steps_fault l_steps_fault
set_option maxHeartbeats 0 in
theorem ok_need_steps (F : FunH K mg "need_steps" s_need_steps []) (h_steps_fault : Has P w K mg base 4 "steps_fault" s_steps_fault [] ps_steps_fault S_steps_fault) : Has P w K mg base 5 "need_steps" s_need_steps [] ps_need_steps S_need_steps :=
  has_of (t := t_need_steps) F sc_need_steps (fun f cdv A outer s H gd hr => ds_cons (ds_set 1 sc_need_steps.nd (dh_call h_steps_fault gd hr (fun _ _ F => bd_steps_fault_1 F) (da_cons (de_var 0) (da_nil))))
    (ds_one (ds_if (dt_cmp (od_ne hr.units) (de_var 1) (de_tup (da_nil))) (dss_never) (ds_nil)))) L_need_steps l_need_steps
set_option maxHeartbeats 0 in
theorem ok_need_size (F : FunH K mg "need_size" s_need_size []) (h_is_integer : Has P w K mg base 1 "is_integer" s_is_integer dd_is_integer ps_is_integer S_is_integer) (g_MOST_SIZE : GlbI mg "MOST_SIZE" 999999999999999999999999999999) : Has P w K mg base 2 "need_size" s_need_size [] ps_need_size S_need_size :=
  has_of (t := t_need_size) F sc_need_size (fun f cdv A outer s H gd hr => ds_one (ds_if (dt_not (dt_val (dh_call h_is_integer gd hr (fun _ _ F => bd_is_integer_3_ F) (da_cons (de_var 0) (da_cons (de_int) (da_cons (de_glI g_MOST_SIZE) (da_nil))))))) (dss_never) (ds_nil))) L_need_size l_need_size
set_option maxHeartbeats 0 in
theorem ok_need_box (F : FunH K mg "need_box" s_need_box []) (h_need_size : Has P w K mg base 2 "need_size" s_need_size [] ps_need_size S_need_size) : Has P w K mg base 3 "need_box" s_need_box [] ps_need_box S_need_box :=
  has_of (t := t_need_box) F sc_need_box (fun f cdv A outer s H gd hr => ds_cons (ds_expr (dh_call h_need_size gd hr (fun _ _ F => bd_need_size_1 F) (da_cons (de_var 0) (da_nil))))
    (ds_one (ds_expr (dh_call h_need_size gd hr (fun _ _ F => bd_need_size_1 F) (da_cons (de_var 1) (da_nil)))))) L_need_box l_need_box
set_option maxHeartbeats 0 in
theorem ok_in_box (F : FunH K mg "in_box" s_in_box []) : Has P w K mg base 1 "in_box" s_in_box [] ps_in_box S_in_box :=
  has_of (t := t_in_box) F sc_in_box (fun f cdv A outer s H gd hr => ds_one (ds_ret (de_and (de_chn od_le od_lt (de_int) (de_ix hr.units (de_var 2) (de_int)) (de_var 0)) (de_one (de_chn od_le od_lt (de_int) (de_ix hr.units (de_var 2) (de_int)) (de_var 1)))))) L_in_box l_in_box
set_option maxHeartbeats 0 in
theorem ok_taken (F : FunH K mg "taken" s_taken []) : Has P w K mg base 1 "taken" s_taken [] ps_taken S_taken :=
  has_of (t := t_taken) F sc_taken (fun f cdv A outer s H gd hr => ds_one (ds_ret (de_tup (da_cons (de_bin od_sub (de_ix hr.units (de_var 0) (de_int)) (de_ix hr.units (de_var 1) (de_int))) (da_cons (de_bin od_sub (de_ix hr.units (de_var 0) (de_int)) (de_ix hr.units (de_var 1) (de_int))) (da_nil)))))) L_taken l_taken
set_option maxHeartbeats 0 in
theorem ok_sources_of (F : FunH K mg "sources_of" s_sources_of []) (h_taken : Has P w K mg base 1 "taken" s_taken [] ps_taken S_taken) (h_in_box : Has P w K mg base 1 "in_box" s_in_box [] ps_in_box S_in_box) (b_sorted : mg "sorted" = none) : Has P w K mg base 2 "sources_of" s_sources_of [] ps_sources_of S_sources_of :=
  has_of (t := t_sources_of) F sc_sources_of (fun f cdv A outer s H gd hr => ds_cons (ds_setLc 4 (own := [("step", 5)]) sc_sources_of.nd (di_walk (de_var 0)) (by exact blkOk_by (N := N_sources_of) (sc := defScope s_sources_of) (by decide +kernel)) (fun _ _ _ _ _ => dg_name 5 sc_sources_of.nd) (fun _ _ _ _ _ => dts_nil) (fun _ _ _ _ _ => dh_call h_taken gd hr (fun _ _ F => bd_taken_2 F) (da_cons (de_var 3) (da_cons (de_var 5) (da_nil)))) (sw_true rfl rfl rfl (by decide +kernel)))
    (ds_one (ds_ret (de_b1 cd_sorted b_sorted bb_sorted (de_lc (own := [("place", 6)]) sc_sources_of.nd (di_walk (de_var 4)) (by exact blkOk_by (N := N_sources_of) (sc := defScope s_sources_of) (by decide +kernel)) (fun _ _ _ _ _ => dg_name 6 sc_sources_of.nd) (fun _ _ _ _ _ => dts_one (dt_val (dh_call h_in_box gd hr (fun _ _ F => bd_in_box_3 F) (da_cons (de_var 1) (da_cons (de_var 2) (da_cons (de_var 6) (da_nil))))))) (fun _ _ _ _ _ => de_var 6)))))) L_sources_of l_sources_of
set_option maxHeartbeats 0 in
theorem ok_can_stand (F : FunH K mg "can_stand" s_can_stand []) (h_in_box : Has P w K mg base 1 "in_box" s_in_box [] ps_in_box S_in_box) (h_sources_of : Has P w K mg base 2 "sources_of" s_sources_of [] ps_sources_of S_sources_of) (b_all : mg "all" = none) : Has P w K mg base 3 "can_stand" s_can_stand [] ps_can_stand S_can_stand :=
  has_of (t := t_can_stand) F sc_can_stand (fun f cdv A outer s H gd hr => ds_cons (ds_if ((dw_or (dt_not (dt_val (dh_call h_in_box gd hr (fun _ _ F => bd_in_box_3 F) (da_cons (de_var 1) (da_cons (de_var 2) (da_cons (de_var 4) (da_nil))))))) (dw_or1 (dt_cmp (od_in (u65 hr)) (de_var 4) (de_var 3)))).pt) (ds_one (ds_ret (de_bl))) (ds_nil))
    (ds_one (ds_ret (de_b1 (cd_all rfl) b_all bb_all (de_lc (own := [("source", 5)]) sc_can_stand.nd (di_walk (dh_call h_sources_of gd hr (fun _ _ F => bd_sources_of_4 F) (da_cons (de_var 0) (da_cons (de_var 1) (da_cons (de_var 2) (da_cons (de_var 4) (da_nil))))))) (by exact blkOk_by (N := N_can_stand) (sc := defScope s_can_stand) (by decide +kernel)) (fun _ _ _ _ _ => dg_name 5 sc_can_stand.nd) (fun _ _ _ _ _ => dts_nil) (fun _ _ _ _ _ => de_cmp (od_in (u65 hr)) (de_var 5) (de_var 3))))))) L_can_stand l_can_stand
set_option maxHeartbeats 0 in
theorem ok_list_fault (F : FunH K mg "list_fault" s_list_fault []) (h_is_pair : Has P w K mg base 2 "is_pair" s_is_pair [] ps_is_pair S_is_pair) (h_can_stand : Has P w K mg base 3 "can_stand" s_can_stand [] ps_can_stand S_can_stand) (b_list : mg "list" = none) (b_isinstance : mg "isinstance" = none) (b_len : mg "len" = none) (b_enumerate : mg "enumerate" = none) (g_MOST_ITEMS : GlbI mg "MOST_ITEMS" 400) : Has P w K mg base 4 "list_fault" s_list_fault [] ps_list_fault S_list_fault :=
  has_of (t := t_list_fault) F sc_list_fault (fun f cdv A outer s H gd hr => ds_cons (ds_if ((dw_or (dt_not (dt_val (de_bn cd_isi b_isinstance bb_isinstance (da_cons (de_var 3) (da_cons (de_ty b_list bb_list) (da_nil)))))) (dw_or1 (dt_cmp od_gt (de_b1 cd_len b_len bb_len (de_var 3)) (de_glI g_MOST_ITEMS)))).pt) (ds_one (ds_ret (de_tup (da_cons (de_non) (da_nil))))) (ds_nil))
    (ds_cons (ds_set 4 sc_list_fault.nd (de_dnT))
    (ds_cons (ds_for (ws := [5, 6]) PassesOwn.never (di_enum b_enumerate (da_cons (de_var 3) (da_nil))) (dg_tup (dgs_cons (dg_name 5 sc_list_fault.nd) (dgs_cons (dg_name 6 sc_list_fault.nd) (dgs_nil)))) (ds_cons (ds_if ((dw_or (dt_not (dt_val (dh_call h_is_pair gd hr (fun _ _ F => bd_is_pair_1 F) (da_cons (de_var 6) (da_nil))))) (dw_or1 (dt_not (dt_val (dh_callB h_can_stand gd hr (fun _ _ F => bd_can_stand_5 F) (da_consT (de_var 0) (da_consT (de_var 1) (da_consT (de_var 2) (da_consT (de_var 4) (da_consT (de_var 6) (da_nilT))))))))))).pt) (ds_one (ds_ret (de_tup (da_cons (de_var 5) (da_nil))))) (ds_nil))
    (ds_one (ds_put 4 (de_var 5) (de_var 6) (u65 hr)))))
    (ds_one (ds_ret (de_tup (da_nil))))))) L_list_fault l_list_fault
set_option maxHeartbeats 0 in
theorem ok_is_list (F : FunH K mg "is_list" s_is_list []) (h_need_steps : Has P w K mg base 5 "need_steps" s_need_steps [] ps_need_steps S_need_steps) (h_need_box : Has P w K mg base 3 "need_box" s_need_box [] ps_need_box S_need_box) (h_list_fault : Has P w K mg base 4 "list_fault" s_list_fault [] ps_list_fault S_list_fault) : Has P w K mg base 6 "is_list" s_is_list [] ps_is_list S_is_list :=
  has_of (t := t_is_list) F sc_is_list (fun f cdv A outer s H gd hr => ds_cons (ds_expr (dh_call h_need_steps gd hr (fun _ _ F => bd_need_steps_1 F) (da_cons (de_var 0) (da_nil))))
    (ds_cons (ds_expr (dh_call h_need_box gd hr (fun _ _ F => bd_need_box_2 F) (da_cons (de_var 1) (da_cons (de_var 2) (da_nil)))))
    (ds_one (ds_ret (de_cmp (od_eq hr.units) (dh_call h_list_fault gd hr (fun _ _ F => bd_list_fault_4 F) (da_cons (de_var 0) (da_cons (de_var 1) (da_cons (de_var 2) (da_cons (de_var 3) (da_nil)))))) (de_tup (da_nil))))))) L_is_list l_is_list
set_option maxHeartbeats 0 in
theorem ok__law_odd_spot (F : FunH K mg "_law_odd_spot" s__law_odd_spot []) (h__law_draw : Has P w K mg base 1 "_law_draw" s__law_draw [] ps__law_draw S__law_draw) (b_len : mg "len" = none) : Has P w K mg base 2 "_law_odd_spot" s__law_odd_spot [] ps__law_odd_spot S__law_odd_spot :=
  has_of (t := t__law_odd_spot) F sc__law_odd_spot (fun f cdv A outer s H gd hr => ds_cons (ds_set 3 sc__law_odd_spot.nd (de_lst (da_cons (de_non) (da_cons (de_tup (da_cons (de_var 1) (da_cons (de_int) (da_nil)))) (da_cons (de_tup (da_cons (de_int) (da_cons (de_var 2) (da_nil)))) (da_cons (de_tup (da_cons (de_un ud_neg (de_int)) (da_cons (de_int) (da_nil)))) (da_cons (de_tup (da_cons (de_int) (da_cons (de_un ud_neg (de_int)) (da_nil)))) (da_cons (de_lst (da_cons (de_int) (da_cons (de_int) (da_nil)))) (da_cons (de_tup (da_cons (de_int) (da_nil))) (da_cons (de_tup (da_cons (de_int) (da_cons (de_int) (da_cons (de_int) (da_nil))))) (da_cons (de_tup (da_cons (de_bl) (da_cons (de_int) (da_nil)))) (da_cons (de_tup (da_cons (de_int) (da_cons (de_bl) (da_nil)))) (da_cons (de_str) (da_nil))))))))))))))
    (ds_cons (ds_set 3 sc__law_odd_spot.nd (de_bin od_add (de_var 3) (de_lst (da_cons (de_tup (da_cons (de_int) (da_cons (de_str) (da_nil)))) (da_cons (de_tup (da_cons (de_tup (da_cons (de_int) (da_cons (de_int) (da_nil)))) (da_nil))) (da_cons (de_dnK) (da_cons (de_int) (da_cons (de_tup (da_nil)) (da_cons (de_tup (da_cons (de_non) (da_cons (de_int) (da_nil)))) (da_cons (de_tup (da_cons (de_bin od_add (de_var 1) (dh_call h__law_draw gd hr (fun _ _ F => bd__law_draw_2 F) (da_cons (de_var 0) (da_cons (de_bin od_pow (de_int) (de_int)) (da_nil))))) (da_cons (de_int) (da_nil)))) (da_cons (de_tup (da_cons (de_tup (da_cons (de_int) (da_nil))) (da_cons (de_int) (da_nil)))) (da_nil))))))))))))
    (ds_one (ds_ret (de_ix hr.units (de_var 3) (dh_call h__law_draw gd hr (fun _ _ F => bd__law_draw_2 F) (da_cons (de_var 0) (da_cons (de_b1 cd_len b_len bb_len (de_var 3)) (da_nil))))))))) L__law_odd_spot l__law_odd_spot
set_option maxHeartbeats 0 in
theorem ok__law_bent (F : FunH K mg "_law_bent" s__law_bent []) (h__law_draw : Has P w K mg base 1 "_law_draw" s__law_draw [] ps__law_draw S__law_draw) (h__law_odd_spot : Has P w K mg base 2 "_law_odd_spot" s__law_odd_spot [] ps__law_odd_spot S__law_odd_spot) (b_list : mg "list" = none) (b_len : mg "len" = none) : Has P w K mg base 3 "_law_bent" s__law_bent [] ps__law_bent S__law_bent :=
  has_of (t := t__law_bent) F sc__law_bent (fun f cdv A outer s H gd hr => ds_cons (ds_par2 4 5 sc__law_bent.nd (de_t1 cd_list b_list bb_list (de_var 1)) (dh_call h__law_draw gd hr (fun _ _ F => bd__law_draw_2 F) (da_cons (de_var 0) (da_cons (de_int) (da_nil)))))
    (ds_cons (ds_if ((dw_or (dt_cmp (od_eq hr.units) (de_var 4) (de_lst (da_nil))) (dw_or1 (dt_cmp (od_eq hr.units) (de_var 5) (de_int)))).pt) (ds_cons (ds_set 6 sc__law_bent.nd (dh_call h__law_draw gd hr (fun _ _ F => bd__law_draw_2 F) (da_cons (de_var 0) (da_cons (de_bin od_add (de_b1 cd_len b_len bb_len (de_var 4)) (de_int)) (da_nil)))))
    (ds_one (ds_ret (de_bin od_add (de_bin od_add (de_sl (de_var 4) (dp_none) (dp_some (de_var 6))) (de_lst (da_cons (dh_call h__law_odd_spot gd hr (fun _ _ F => bd__law_odd_spot_3 F) (da_cons (de_var 0) (da_cons (de_var 2) (da_cons (de_var 3) (da_nil))))) (da_nil)))) (de_sl (de_var 4) (dp_some (de_var 6)) (dp_none)))))) (ds_nil))
    (ds_cons (ds_par2 7 8 sc__law_bent.nd (dh_call h__law_draw gd hr (fun _ _ F => bd__law_draw_2 F) (da_cons (de_var 0) (da_cons (de_b1 cd_len b_len bb_len (de_var 4)) (da_nil)))) (dh_call h__law_draw gd hr (fun _ _ F => bd__law_draw_2 F) (da_cons (de_var 0) (da_cons (de_b1 cd_len b_len bb_len (de_var 4)) (da_nil)))))
    (ds_cons (ds_if (dt_cmp (od_eq hr.units) (de_var 5) (de_int)) (ds_cons (ds_set 9 sc__law_bent.nd (de_ix hr.units (de_var 4) (de_var 7)))
    (ds_cons (ds_putL 4 (de_ix hr.units (de_var 4) (de_var 8)) (de_var 7))
    (ds_one (ds_putL 4 (de_var 9) (de_var 8))))) (ds_one (ds_if (dt_cmp (od_eq hr.units) (de_var 5) (de_int)) (ds_one (ds_set 4 sc__law_bent.nd (de_bin od_add (de_bin od_add (de_sl (de_var 4) (dp_none) (dp_some (de_var 8))) (de_lst (da_cons (de_ix hr.units (de_var 4) (de_var 7)) (da_nil)))) (de_sl (de_var 4) (dp_some (de_var 8)) (dp_none))))) (ds_one (ds_if (dt_cmp (od_eq hr.units) (de_var 5) (de_int)) (ds_cons (ds_set 9 sc__law_bent.nd (de_ix hr.units (de_var 4) (de_var 7)))
    (ds_cons (ds_set 4 sc__law_bent.nd (de_bin od_add (de_sl (de_var 4) (dp_none) (dp_some (de_var 7))) (de_sl (de_var 4) (dp_some (de_bin od_add (de_var 7) (de_int))) (dp_none))))
    (ds_one (ds_set 4 sc__law_bent.nd (de_bin od_add (de_bin od_add (de_sl (de_var 4) (dp_none) (dp_some (de_var 8))) (de_lst (da_cons (de_var 9) (da_nil)))) (de_sl (de_var 4) (dp_some (de_var 8)) (dp_none))))))) (ds_one (ds_if (dt_cmp (od_eq hr.units) (de_var 5) (de_int)) (ds_one (ds_set 4 sc__law_bent.nd (de_bin od_add (de_sl (de_var 4) (dp_none) (dp_some (de_var 7))) (de_sl (de_var 4) (dp_some (de_bin od_add (de_var 7) (de_int))) (dp_none))))) (ds_one (ds_if (dt_cmp (od_eq hr.units) (de_var 5) (de_int)) (ds_one (ds_set 4 sc__law_bent.nd (de_sl3 (de_var 4) (dp_none) (dp_none) (dp_some (de_un ud_neg (de_int)))))) (ds_one (ds_expr (de_ml (i := 4) PySem.F.slot_list_append PySem.F.type_list_append mt_append ml_append (da_cons (de_tup (da_cons (dh_call h__law_draw gd hr (fun _ _ F => bd__law_draw_2 F) (da_cons (de_var 0) (da_cons (de_var 2) (da_nil)))) (da_cons (dh_call h__law_draw gd hr (fun _ _ F => bd__law_draw_2 F) (da_cons (de_var 0) (da_cons (de_var 3) (da_nil)))) (da_nil)))) (da_nil))))))))))))))
    (ds_one (ds_ret (de_var 4))))))) L__law_bent l__law_bent
set_option maxHeartbeats 0 in
theorem ok__law_is_list (F : FunH K mg "_law_is_list" s__law_is_list []) (h__law_behind : Has P w K mg base 1 "_law_behind" s__law_behind [] ps__law_behind S__law_behind) (b_list : mg "list" = none) (b_isinstance : mg "isinstance" = none) (b_len : mg "len" = none) (b_tuple : mg "tuple" = none) (b_int : mg "int" = none) (b_bool : mg "bool" = none) : Has P w K mg base 2 "_law_is_list" s__law_is_list [] ps__law_is_list S__law_is_list :=
  has_of (t := t__law_is_list) F sc__law_is_list (fun f cdv A outer s H gd hr => ds_cons (ds_if ((dw_or (dt_not (dt_val (de_bn cd_isi b_isinstance bb_isinstance (da_cons (de_var 3) (da_cons (de_ty b_list bb_list) (da_nil)))))) (dw_or1 (dt_cmp od_gt (de_b1 cd_len b_len bb_len (de_var 3)) (de_int)))).pt) (ds_one (ds_ret (de_bl))) (ds_nil))
    (ds_cons (ds_set 4 sc__law_is_list.nd (de_dnT))
    (ds_cons (ds_for (ws := [5]) PassesOwn.never (di_walk (de_var 3)) (dg_name 5 sc__law_is_list.nd) (ds_cons (ds_if ((dw_or (dt_not (dt_val (de_bn cd_isi b_isinstance bb_isinstance (da_cons (de_var 5) (da_cons (de_ty b_tuple bb_tuple) (da_nil)))))) (dw_or1 (dt_cmp (od_ne hr.units) (de_b1 cd_len b_len bb_len (de_var 5)) (de_int)))).pt) (ds_one (ds_ret (de_bl))) (ds_nil))
    (ds_cons (ds_for (ws := [6]) PassesOwn.never (di_walk (de_var 5)) (dg_name 6 sc__law_is_list.nd) (ds_one (ds_if ((dw_or (dt_not (dt_val (de_bn cd_isi b_isinstance bb_isinstance (da_cons (de_var 6) (da_cons (de_ty b_int bb_int) (da_nil)))))) (dw_or1 (dt_val (de_bn cd_isi b_isinstance bb_isinstance (da_cons (de_var 6) (da_cons (de_ty b_bool bb_bool) (da_nil))))))).pt) (ds_one (ds_ret (de_bl))) (ds_nil))))
    (ds_cons (ds_if ((dw_or (dt_not (dt_chn od_le od_lt (de_int) (de_ix hr.units (de_var 5) (de_int)) (de_var 1))) (dw_or (dt_not (dt_chn od_le od_lt (de_int) (de_ix hr.units (de_var 5) (de_int)) (de_var 2))) (dw_or1 (dt_cmp (od_in (u65 hr)) (de_var 5) (de_var 4))))).pt) (ds_one (ds_ret (de_bl))) (ds_nil))
    (ds_cons (ds_if (dt_cmp (od_ne hr.units) (de_lc (own := [("_law_early", 7)]) sc__law_is_list.nd (di_walk (dh_call h__law_behind gd hr (fun _ _ F => bd__law_behind_4 F) (da_cons (de_var 0) (da_cons (de_var 5) (da_cons (de_var 1) (da_cons (de_var 2) (da_nil))))))) (by exact blkOk_by (N := N__law_is_list) (sc := defScope s__law_is_list) (by decide +kernel)) (fun _ _ _ _ _ => dg_name 7 sc__law_is_list.nd) (fun _ _ _ _ _ => dts_one (dt_cmp (od_notin (u65 hr)) (de_var 7) (de_var 4))) (fun _ _ _ _ _ => de_var 7)) (de_lst (da_nil))) (ds_one (ds_ret (de_bl))) (ds_nil))
    (ds_one (ds_put 4 (de_bl) (de_var 5) (u65 hr))))))))
    (ds_one (ds_ret (de_bl)))))) L__law_is_list l__law_is_list
set_option maxHeartbeats 0 in
theorem ok__law_told_right (F : FunH K mg "_law_told_right" s__law_told_right []) (h__law_is_list : Has P w K mg base 2 "_law_is_list" s__law_is_list [] ps__law_is_list S__law_is_list) (h_is_list : Has P w K mg base 6 "is_list" s_is_list [] ps_is_list S_is_list) (b_repr : mg "repr" = none) : Has P w K mg base 7 "_law_told_right" s__law_told_right [] ps__law_told_right S__law_told_right :=
  has_of (t := t__law_told_right) F sc__law_told_right (fun f cdv A outer s H gd hr => ds_cons (ds_par2 5 6 sc__law_told_right.nd (dh_call h__law_is_list gd hr (fun _ _ F => bd__law_is_list_4 F) (da_cons (de_var 0) (da_cons (de_var 1) (da_cons (de_var 2) (da_cons (de_var 3) (da_nil)))))) (de_b1 (cd_repr gd hr.units) b_repr bb_repr (de_var 3)))
    (ds_cons (ds_set 4 sc__law_told_right.nd (de_lst (da_cons (dh_call h_is_list gd hr (fun _ _ F => bd_is_list_4 F) (da_cons (de_var 0) (da_cons (de_var 1) (da_cons (de_var 2) (da_cons (de_var 3) (da_nil)))))) (da_cons (dh_callK0 h_is_list gd hr ["value", "columns", "rows", "steps"] (fun _ _ F => bd_is_list_0_value_columns_rows_steps F) (dk_cons (de_var 3) (dk_cons (de_var 2) (dk_cons (de_var 1) (dk_cons (de_var 0) (dk_nil)))))) (da_nil)))))
    (ds_one (ds_ret (de_and (de_cmp (od_eq hr.units) (de_b1 (cd_repr gd hr.units) b_repr bb_repr (de_var 4)) (de_reprL gd hr.units b_repr (da_consT (de_var 5) (da_consT (de_var 5) (da_nilT))))) (de_one (de_cmp (od_eq hr.units) (de_b1 (cd_repr gd hr.units) b_repr bb_repr (de_var 3)) (de_var 6)))))))) L__law_told_right l__law_told_right
set_option maxHeartbeats 0 in
theorem ok__law_right (F : FunH K mg "_law_right" s__law_right []) (h__law_some_moves : Has P w K mg base 4 "_law_some_moves" s__law_some_moves [] ps__law_some_moves S__law_some_moves) (h__law_box : Has P w K mg base 2 "_law_box" s__law_box [] ps__law_box S__law_box) (h__law_list : Has P w K mg base 2 "_law_list" s__law_list [] ps__law_list S__law_list) (h__law_draw : Has P w K mg base 1 "_law_draw" s__law_draw [] ps__law_draw S__law_draw) (h_is_list : Has P w K mg base 6 "is_list" s_is_list [] ps_is_list S_is_list) (h__law_bent : Has P w K mg base 3 "_law_bent" s__law_bent [] ps__law_bent S__law_bent) (h__law_told_right : Has P w K mg base 7 "_law_told_right" s__law_told_right [] ps__law_told_right S__law_told_right) (b_range : mg "range" = none) (b_list : mg "list" = none) (b_tuple : mg "tuple" = none) : Has P w K mg base 8 "_law_right" s__law_right [] ps__law_right S__law_right :=
  has_of (t := t__law_right) F sc__law_right (fun f cdv A outer s H gd hr => ds_cons (ds_set 2 sc__law_right.nd (dh_call h__law_some_moves gd hr (fun _ _ F => bd__law_some_moves_1 F) (da_cons (de_var 0) (da_nil))))
    (ds_cons (ds_asg (ws := [7, 8]) (dh_call h__law_box gd hr (fun _ _ F => bd__law_box_2 F) (da_cons (de_var 0) (da_cons (de_var 1) (da_nil)))) (dg_tup (dgs_cons (dg_name 7 sc__law_right.nd) (dgs_cons (dg_name 8 sc__law_right.nd) (dgs_nil)))))
    (ds_cons (ds_set 3 sc__law_right.nd (dh_call h__law_list gd hr (fun _ _ F => bd__law_list_5 F) (da_cons (de_var 0) (da_cons (de_var 2) (da_cons (de_var 7) (da_cons (de_var 8) (da_cons (dh_call h__law_draw gd hr (fun _ _ F => bd__law_draw_2 F) (da_cons (de_var 0) (da_cons (de_bin od_add (de_var 1) (de_int)) (da_nil)))) (da_nil))))))))
    (ds_cons (ds_if (dt_cmp od_isn (dh_call h_is_list gd hr (fun _ _ F => bd_is_list_4 F) (da_cons (de_var 2) (da_cons (de_var 7) (da_cons (de_var 8) (da_cons (de_var 3) (da_nil)))))) (de_bl)) (ds_one (ds_ret (de_bl))) (ds_nil))
    (ds_cons (ds_setLc 4 (own := [("_law_turn", 9)]) sc__law_right.nd (di_range1 b_range (da_cons (de_int) (da_nil))) (by exact blkOk_by (N := N__law_right) (sc := defScope s__law_right) (by decide +kernel)) (fun _ _ _ _ _ => dg_name 9 sc__law_right.nd) (fun _ _ _ _ _ => dts_nil) (fun _ _ _ _ _ => dh_call h__law_bent gd hr (fun _ _ F => bd__law_bent_4 F) (da_cons (de_var 0) (da_cons (de_var 3) (da_cons (de_var 7) (da_cons (de_var 8) (da_nil)))))) (sw_true rfl rfl rfl (by decide +kernel)))
    (ds_cons (ds_set 4 sc__law_right.nd (de_bin od_add (de_var 4) (de_lst (da_cons (de_t1 cd_tuple b_tuple bb_tuple (de_var 3)) (da_cons (de_non) (da_cons (de_int) (da_cons (de_bl) (da_cons (de_str) (da_cons (de_dnK) (da_cons (de_dspS (de_str) (de_var 3)) (da_cons (de_lst (da_cons (de_var 3) (da_nil))) (da_cons (de_tup (da_cons (de_int) (da_cons (de_int) (da_nil)))) (da_cons (de_lst (da_cons (de_t1 cd_list b_list bb_list (de_tup (da_cons (de_int) (da_cons (de_int) (da_nil))))) (da_nil))) (da_cons (de_lst (da_nil)) (da_nil)))))))))))))))
    (ds_cons (ds_for (ws := [5]) PassesOwn.never (di_walk (de_var 4)) (dg_name 5 sc__law_right.nd) (ds_one (ds_if (dt_not (dt_val (dh_call h__law_told_right gd hr (fun _ _ F => bd__law_told_right_4 F) (da_cons (de_var 2) (da_cons (de_var 7) (da_cons (de_var 8) (da_cons (de_var 5) (da_nil)))))))) (ds_one (ds_ret (de_bl))) (ds_nil))))
    (ds_cons (ds_set 6 sc__law_right.nd (de_ix hr.units (de_lst (da_cons (de_bin od_sub (de_bin od_pow (de_int) (de_int)) (de_int)) (da_cons (de_var 7) (da_nil)))) (dh_call h__law_draw gd hr (fun _ _ F => bd__law_draw_2 F) (da_cons (de_var 0) (da_cons (de_int) (da_nil))))))
    (ds_one (ds_ret (de_and (dh_call h__law_told_right gd hr (fun _ _ F => bd__law_told_right_4 F) (da_cons (de_var 2) (da_cons (de_var 6) (da_cons (de_bin od_sub (de_bin od_pow (de_int) (de_int)) (de_int)) (da_cons (de_var 3) (da_nil)))))) (de_one (dh_call h__law_told_right gd hr (fun _ _ F => bd__law_told_right_4 F) (da_cons (de_var 2) (da_cons (de_var 8) (da_cons (de_var 7) (da_cons (de_var 3) (da_nil)))))))))))))))))) L__law_right l__law_right
set_option maxHeartbeats 0 in
theorem ok_law (F : FunH K mg "law" s_law []) (h__law_source : Has P w K mg base 1 "_law_source" s__law_source [] ps__law_source S__law_source) (h__law_right : Has P w K mg base 8 "_law_right" s__law_right [] ps__law_right S__law_right) (h__law_some_moves : Has P w K mg base 4 "_law_some_moves" s__law_some_moves [] ps__law_some_moves S__law_some_moves) (h__law_list : Has P w K mg base 2 "_law_list" s__law_list [] ps__law_list S__law_list) (h__law_told_right : Has P w K mg base 7 "_law_told_right" s__law_told_right [] ps__law_told_right S__law_told_right) (h_is_list : Has P w K mg base 6 "is_list" s_is_list [] ps_is_list S_is_list) (b_len : mg "len" = none) (b_min : mg "min" = none) (b_max : mg "max" = none) (b_enumerate : mg "enumerate" = none) (b_range : mg "range" = none) (b_int : mg "int" = none) : Has P w K mg base 9 "law" s_law [] ps_law S_law :=
  has_of (t := t_law) F sc_law (fun f cdv A outer s H gd hr => ds_cons (ds_for (ws := [1, 2]) PassesOwn.never (di_enum b_enumerate (da_cons (de_sl (de_bin od_add (de_var 0) (de_lst (da_cons (de_int) (da_nil)))) (dp_none) (dp_some (de_bn (cd_max2 rfl) b_max bb_max (da_cons (de_int) (da_cons (de_bn (cd_min2 rfl) b_min bb_min (da_cons (de_b1 cd_len b_len bb_len (de_var 0)) (da_cons (de_int) (da_nil)))) (da_nil)))))) (da_nil))) (dg_tup (dgs_cons (dg_name 1 sc_law.nd) (dgs_cons (dg_name 2 sc_law.nd) (dgs_nil)))) (ds_cons (ds_set 3 sc_law.nd (dh_call h__law_source gd hr (fun _ _ F => bd__law_source_2 F) (da_cons (de_var 2) (da_cons (de_var 1) (da_nil)))))
    (ds_cons (ds_for (ws := [4]) PassesOwn.never (di_range1 b_range (da_cons (de_int) (da_nil))) (dg_name 4 sc_law.nd) (ds_one (ds_if (dt_not (dt_val (dh_call h__law_right gd hr (fun _ _ F => bd__law_right_2 F) (da_cons (de_var 3) (da_cons (de_ix hr.units (de_lst (da_cons (de_int) (da_cons (de_int) (da_nil)))) (de_t1 cd_int b_int bb_int (de_cmp (od_ne hr.units) (de_var 0) (de_lst (da_nil))))) (da_nil)))))) (ds_one (ds_ret (de_bl))) (ds_nil))))
    (ds_one (ds_if ((dw_and (dt_cmp (od_eq hr.units) (de_var 1) (de_int)) (dw_and1 (dt_cmp (od_ne hr.units) (de_var 0) (de_lst (da_nil))))).pt) (ds_cons (ds_set 5 sc_law.nd (dh_call h__law_some_moves gd hr (fun _ _ F => bd__law_some_moves_1 F) (da_cons (de_var 3) (da_nil))))
    (ds_cons (ds_set 6 sc_law.nd (dh_call h__law_list gd hr (fun _ _ F => bd__law_list_5 F) (da_cons (de_var 3) (da_cons (de_var 5) (da_cons (de_int) (da_cons (de_int) (da_cons (de_int) (da_nil))))))))
    (ds_one (ds_for (ws := [7]) PassesOwn.never (di_walk (de_tup (da_cons (de_sl (de_var 6) (dp_none) (dp_some (de_int))) (da_cons (de_var 6) (da_cons (de_bin od_add (de_sl (de_var 6) (dp_none) (dp_some (de_int))) (de_lst (da_cons (de_tup (da_cons (de_int) (da_cons (de_int) (da_nil)))) (da_nil)))) (da_cons (de_bin od_add (de_sl (de_var 6) (dp_none) (dp_some (de_int))) (de_lst (da_cons (de_non) (da_nil)))) (da_nil))))))) (dg_name 7 sc_law.nd) (ds_one (ds_if (dt_not (dt_val (dh_call h__law_told_right gd hr (fun _ _ F => bd__law_told_right_4 F) (da_cons (de_var 5) (da_cons (de_int) (da_cons (de_int) (da_cons (de_var 7) (da_nil)))))))) (ds_one (ds_ret (de_bl))) (ds_nil))))))) (ds_nil))))))
    (ds_one (ds_ret (de_and (dh_call h_is_list gd hr (fun _ _ F => bd_is_list_4 F) (da_cons (de_lst (da_cons (de_tup (da_cons (de_int) (da_cons (de_int) (da_nil)))) (da_cons (de_tup (da_cons (de_int) (da_cons (de_int) (da_nil)))) (da_nil)))) (da_cons (de_int) (da_cons (de_int) (da_cons (de_lst (da_cons (de_tup (da_cons (de_int) (da_cons (de_int) (da_nil)))) (da_cons (de_tup (da_cons (de_int) (da_cons (de_int) (da_nil)))) (da_nil)))) (da_nil)))))) (de_one (de_not (dh_call h_is_list gd hr (fun _ _ F => bd_is_list_4 F) (da_cons (de_lst (da_cons (de_tup (da_cons (de_int) (da_cons (de_int) (da_nil)))) (da_cons (de_tup (da_cons (de_int) (da_cons (de_int) (da_nil)))) (da_nil)))) (da_cons (de_int) (da_cons (de_int) (da_cons (de_lst (da_cons (de_tup (da_cons (de_int) (da_cons (de_int) (da_nil)))) (da_cons (de_tup (da_cons (de_int) (da_cons (de_int) (da_nil)))) (da_nil)))) (da_nil)))))))))))) L_law l_law
end
theorem all_ok {P : Program} {w : World} {K : PySem.W.Frag} {mg : Str → Option Value} {base : Heap} (F__law_source : FunH K mg "_law_source" s__law_source []) (F__law_draw : FunH K mg "_law_draw" s__law_draw []) (F__law_move : FunH K mg "_law_move" s__law_move []) (F__law_moves : FunH K mg "_law_moves" s__law_moves []) (F__law_some_moves : FunH K mg "_law_some_moves" s__law_some_moves []) (F__law_box : FunH K mg "_law_box" s__law_box []) (F__law_spots : FunH K mg "_law_spots" s__law_spots []) (F__law_behind : FunH K mg "_law_behind" s__law_behind []) (F__law_ahead : FunH K mg "_law_ahead" s__law_ahead []) (F__law_list : FunH K mg "_law_list" s__law_list []) (F_is_integer : FunH K mg "is_integer" s_is_integer dd_is_integer) (F_is_pair : FunH K mg "is_pair" s_is_pair []) (F_is_step : FunH K mg "is_step" s_is_step []) (F_steps_fault : FunH K mg "steps_fault" s_steps_fault []) (F_need_steps : FunH K mg "need_steps" s_need_steps []) (F_need_size : FunH K mg "need_size" s_need_size []) (F_need_box : FunH K mg "need_box" s_need_box []) (F_in_box : FunH K mg "in_box" s_in_box []) (F_taken : FunH K mg "taken" s_taken []) (F_sources_of : FunH K mg "sources_of" s_sources_of []) (F_can_stand : FunH K mg "can_stand" s_can_stand []) (F_list_fault : FunH K mg "list_fault" s_list_fault []) (F_is_list : FunH K mg "is_list" s_is_list []) (F__law_odd_spot : FunH K mg "_law_odd_spot" s__law_odd_spot []) (F__law_bent : FunH K mg "_law_bent" s__law_bent []) (F__law_is_list : FunH K mg "_law_is_list" s__law_is_list []) (F__law_told_right : FunH K mg "_law_told_right" s__law_told_right []) (F__law_right : FunH K mg "_law_right" s__law_right []) (F_law : FunH K mg "law" s_law []) (b_abs : mg "abs" = none) (b_int : mg "int" = none) (b_max : mg "max" = none) (b_range : mg "range" = none) (b_sorted : mg "sorted" = none) (b_len : mg "len" = none) (b_isinstance : mg "isinstance" = none) (b_bool : mg "bool" = none) (b_tuple : mg "tuple" = none) (b_all : mg "all" = none) (b_list : mg "list" = none) (b_enumerate : mg "enumerate" = none) (b_repr : mg "repr" = none) (b_min : mg "min" = none) (g_MOST_ITEM : GlbI mg "MOST_ITEM" 6) (g_MOST_STEPS : GlbI mg "MOST_STEPS" 4) (g_MOST_SIZE : GlbI mg "MOST_SIZE" 999999999999999999999999999999) (g_MOST_ITEMS : GlbI mg "MOST_ITEMS" 400) : Has P w K mg base 9 "law" s_law [] ps_law S_law := by
  have h__law_source := ok__law_source (P := P) (w := w) (base := base) F__law_source b_abs b_int b_max
  have h__law_draw := ok__law_draw (P := P) (w := w) (base := base) F__law_draw b_int
  have h__law_move := ok__law_move (P := P) (w := w) (base := base) F__law_move h__law_draw
  have h__law_moves := ok__law_moves (P := P) (w := w) (base := base) F__law_moves h__law_draw h__law_move b_range
  have h__law_some_moves := ok__law_some_moves (P := P) (w := w) (base := base) F__law_some_moves h__law_draw h__law_moves b_range
  have h__law_box := ok__law_box (P := P) (w := w) (base := base) F__law_box h__law_draw
  have h__law_spots := ok__law_spots (P := P) (w := w) (base := base) F__law_spots b_range b_int
  have h__law_behind := ok__law_behind (P := P) (w := w) (base := base) F__law_behind b_sorted
  have h__law_ahead := ok__law_ahead (P := P) (w := w) (base := base) F__law_ahead b_sorted
  have h__law_list := ok__law_list (P := P) (w := w) (base := base) F__law_list h__law_spots h__law_behind h__law_draw h__law_ahead b_len
  have h_is_integer := ok_is_integer (P := P) (w := w) (base := base) F_is_integer b_int b_isinstance b_bool
  have h_is_pair := ok_is_pair (P := P) (w := w) (base := base) F_is_pair h_is_integer b_tuple b_isinstance b_len b_all
  have h_is_step := ok_is_step (P := P) (w := w) (base := base) F_is_step h_is_pair g_MOST_ITEM
  have h_steps_fault := ok_steps_fault (P := P) (w := w) (base := base) F_steps_fault h_is_step b_list b_isinstance b_len b_enumerate g_MOST_STEPS
  have h_need_steps := ok_need_steps (P := P) (w := w) (base := base) F_need_steps h_steps_fault
  have h_need_size := ok_need_size (P := P) (w := w) (base := base) F_need_size h_is_integer g_MOST_SIZE
  have h_need_box := ok_need_box (P := P) (w := w) (base := base) F_need_box h_need_size
  have h_in_box := ok_in_box (P := P) (w := w) (base := base) F_in_box 
  have h_taken := ok_taken (P := P) (w := w) (base := base) F_taken 
  have h_sources_of := ok_sources_of (P := P) (w := w) (base := base) F_sources_of h_taken h_in_box b_sorted
  have h_can_stand := ok_can_stand (P := P) (w := w) (base := base) F_can_stand h_in_box h_sources_of b_all
  have h_list_fault := ok_list_fault (P := P) (w := w) (base := base) F_list_fault h_is_pair h_can_stand b_list b_isinstance b_len b_enumerate g_MOST_ITEMS
  have h_is_list := ok_is_list (P := P) (w := w) (base := base) F_is_list h_need_steps h_need_box h_list_fault
  have h__law_odd_spot := ok__law_odd_spot (P := P) (w := w) (base := base) F__law_odd_spot h__law_draw b_len
  have h__law_bent := ok__law_bent (P := P) (w := w) (base := base) F__law_bent h__law_draw h__law_odd_spot b_list b_len
  have h__law_is_list := ok__law_is_list (P := P) (w := w) (base := base) F__law_is_list h__law_behind b_list b_isinstance b_len b_tuple b_int b_bool
  have h__law_told_right := ok__law_told_right (P := P) (w := w) (base := base) F__law_told_right h__law_is_list h_is_list b_repr
  have h__law_right := ok__law_right (P := P) (w := w) (base := base) F__law_right h__law_some_moves h__law_box h__law_list h__law_draw h_is_list h__law_bent h__law_told_right b_range b_list b_tuple
  have h_law := ok_law (P := P) (w := w) (base := base) F_law h__law_source h__law_right h__law_some_moves h__law_list h__law_told_right h_is_list b_len b_min b_max b_enumerate b_range b_int
  exact h_law

theorem fin {l : PySem.W.OpenLaw} {w : World} {K : PySem.W.Frag} {h : Heap} {mg : Str → Option Value} {fa : Addr} (X : K.In h) (G : h.Ns mainGlobals mg) (hfa : mg "law" = some (.ref fa))
    {f0 : Addr} {od0 an0 : Option Addr} {sl0 : Array (Option Value)} {oc0 kV0 dc0 pm0 cd0 ct0 : Value}
    (a0 : PySem.W.nsIn K mainGlobals "_law_source" = some (some (.ref f0))) (l0 : K.lookup f0 = some ⟨oc0, od0, .func (PySem.W.fnOf "_law_source" "_law_source" (defArgs s__law_source) (defBody s__law_source) (defScope s__law_source) .none kV0 dc0 pm0 an0 cd0 ct0), sl0⟩) (c0 : PySem.W.codeIn K cd0 "_law_source" = true) (k0 : PySem.W.keepIn K (.ref f0) = true)
    {f1 : Addr} {od1 an1 : Option Addr} {sl1 : Array (Option Value)} {oc1 kV1 dc1 pm1 cd1 ct1 : Value}
    (a1 : PySem.W.nsIn K mainGlobals "_law_draw" = some (some (.ref f1))) (l1 : K.lookup f1 = some ⟨oc1, od1, .func (PySem.W.fnOf "_law_draw" "_law_draw" (defArgs s__law_draw) (defBody s__law_draw) (defScope s__law_draw) .none kV1 dc1 pm1 an1 cd1 ct1), sl1⟩) (c1 : PySem.W.codeIn K cd1 "_law_draw" = true) (k1 : PySem.W.keepIn K (.ref f1) = true)
    {f2 : Addr} {od2 an2 : Option Addr} {sl2 : Array (Option Value)} {oc2 kV2 dc2 pm2 cd2 ct2 : Value}
    (a2 : PySem.W.nsIn K mainGlobals "_law_move" = some (some (.ref f2))) (l2 : K.lookup f2 = some ⟨oc2, od2, .func (PySem.W.fnOf "_law_move" "_law_move" (defArgs s__law_move) (defBody s__law_move) (defScope s__law_move) .none kV2 dc2 pm2 an2 cd2 ct2), sl2⟩) (c2 : PySem.W.codeIn K cd2 "_law_move" = true) (k2 : PySem.W.keepIn K (.ref f2) = true)
    {f3 : Addr} {od3 an3 : Option Addr} {sl3 : Array (Option Value)} {oc3 kV3 dc3 pm3 cd3 ct3 : Value}
    (a3 : PySem.W.nsIn K mainGlobals "_law_moves" = some (some (.ref f3))) (l3 : K.lookup f3 = some ⟨oc3, od3, .func (PySem.W.fnOf "_law_moves" "_law_moves" (defArgs s__law_moves) (defBody s__law_moves) (defScope s__law_moves) .none kV3 dc3 pm3 an3 cd3 ct3), sl3⟩) (c3 : PySem.W.codeIn K cd3 "_law_moves" = true) (k3 : PySem.W.keepIn K (.ref f3) = true)
    {f4 : Addr} {od4 an4 : Option Addr} {sl4 : Array (Option Value)} {oc4 kV4 dc4 pm4 cd4 ct4 : Value}
    (a4 : PySem.W.nsIn K mainGlobals "_law_some_moves" = some (some (.ref f4))) (l4 : K.lookup f4 = some ⟨oc4, od4, .func (PySem.W.fnOf "_law_some_moves" "_law_some_moves" (defArgs s__law_some_moves) (defBody s__law_some_moves) (defScope s__law_some_moves) .none kV4 dc4 pm4 an4 cd4 ct4), sl4⟩) (c4 : PySem.W.codeIn K cd4 "_law_some_moves" = true) (k4 : PySem.W.keepIn K (.ref f4) = true)
    {f5 : Addr} {od5 an5 : Option Addr} {sl5 : Array (Option Value)} {oc5 kV5 dc5 pm5 cd5 ct5 : Value}
    (a5 : PySem.W.nsIn K mainGlobals "_law_box" = some (some (.ref f5))) (l5 : K.lookup f5 = some ⟨oc5, od5, .func (PySem.W.fnOf "_law_box" "_law_box" (defArgs s__law_box) (defBody s__law_box) (defScope s__law_box) .none kV5 dc5 pm5 an5 cd5 ct5), sl5⟩) (c5 : PySem.W.codeIn K cd5 "_law_box" = true) (k5 : PySem.W.keepIn K (.ref f5) = true)
    {f6 : Addr} {od6 an6 : Option Addr} {sl6 : Array (Option Value)} {oc6 kV6 dc6 pm6 cd6 ct6 : Value}
    (a6 : PySem.W.nsIn K mainGlobals "_law_spots" = some (some (.ref f6))) (l6 : K.lookup f6 = some ⟨oc6, od6, .func (PySem.W.fnOf "_law_spots" "_law_spots" (defArgs s__law_spots) (defBody s__law_spots) (defScope s__law_spots) .none kV6 dc6 pm6 an6 cd6 ct6), sl6⟩) (c6 : PySem.W.codeIn K cd6 "_law_spots" = true) (k6 : PySem.W.keepIn K (.ref f6) = true)
    {f7 : Addr} {od7 an7 : Option Addr} {sl7 : Array (Option Value)} {oc7 kV7 dc7 pm7 cd7 ct7 : Value}
    (a7 : PySem.W.nsIn K mainGlobals "_law_behind" = some (some (.ref f7))) (l7 : K.lookup f7 = some ⟨oc7, od7, .func (PySem.W.fnOf "_law_behind" "_law_behind" (defArgs s__law_behind) (defBody s__law_behind) (defScope s__law_behind) .none kV7 dc7 pm7 an7 cd7 ct7), sl7⟩) (c7 : PySem.W.codeIn K cd7 "_law_behind" = true) (k7 : PySem.W.keepIn K (.ref f7) = true)
    {f8 : Addr} {od8 an8 : Option Addr} {sl8 : Array (Option Value)} {oc8 kV8 dc8 pm8 cd8 ct8 : Value}
    (a8 : PySem.W.nsIn K mainGlobals "_law_ahead" = some (some (.ref f8))) (l8 : K.lookup f8 = some ⟨oc8, od8, .func (PySem.W.fnOf "_law_ahead" "_law_ahead" (defArgs s__law_ahead) (defBody s__law_ahead) (defScope s__law_ahead) .none kV8 dc8 pm8 an8 cd8 ct8), sl8⟩) (c8 : PySem.W.codeIn K cd8 "_law_ahead" = true) (k8 : PySem.W.keepIn K (.ref f8) = true)
    {f9 : Addr} {od9 an9 : Option Addr} {sl9 : Array (Option Value)} {oc9 kV9 dc9 pm9 cd9 ct9 : Value}
    (a9 : PySem.W.nsIn K mainGlobals "_law_list" = some (some (.ref f9))) (l9 : K.lookup f9 = some ⟨oc9, od9, .func (PySem.W.fnOf "_law_list" "_law_list" (defArgs s__law_list) (defBody s__law_list) (defScope s__law_list) .none kV9 dc9 pm9 an9 cd9 ct9), sl9⟩) (c9 : PySem.W.codeIn K cd9 "_law_list" = true) (k9 : PySem.W.keepIn K (.ref f9) = true)
    {f10 : Addr} {od10 an10 : Option Addr} {sl10 : Array (Option Value)} {oc10 kV10 dc10 pm10 cd10 ct10 dV10 : Value}
    (a10 : PySem.W.nsIn K mainGlobals "is_integer" = some (some (.ref f10))) (l10 : K.lookup f10 = some ⟨oc10, od10, .func (PySem.W.fnOf "is_integer" "is_integer" (defArgs s_is_integer) (defBody s_is_integer) (defScope s_is_integer) dV10 kV10 dc10 pm10 an10 cd10 ct10), sl10⟩) (c10 : PySem.W.codeIn K cd10 "is_integer" = true) (k10 : PySem.W.keepIn K (.ref f10) = true)
    (d10 : He.dflB K dV10 (dd_is_integer.map flV) = true)
    {f11 : Addr} {od11 an11 : Option Addr} {sl11 : Array (Option Value)} {oc11 kV11 dc11 pm11 cd11 ct11 : Value}
    (a11 : PySem.W.nsIn K mainGlobals "is_pair" = some (some (.ref f11))) (l11 : K.lookup f11 = some ⟨oc11, od11, .func (PySem.W.fnOf "is_pair" "is_pair" (defArgs s_is_pair) (defBody s_is_pair) (defScope s_is_pair) .none kV11 dc11 pm11 an11 cd11 ct11), sl11⟩) (c11 : PySem.W.codeIn K cd11 "is_pair" = true) (k11 : PySem.W.keepIn K (.ref f11) = true)
    {f12 : Addr} {od12 an12 : Option Addr} {sl12 : Array (Option Value)} {oc12 kV12 dc12 pm12 cd12 ct12 : Value}
    (a12 : PySem.W.nsIn K mainGlobals "is_step" = some (some (.ref f12))) (l12 : K.lookup f12 = some ⟨oc12, od12, .func (PySem.W.fnOf "is_step" "is_step" (defArgs s_is_step) (defBody s_is_step) (defScope s_is_step) .none kV12 dc12 pm12 an12 cd12 ct12), sl12⟩) (c12 : PySem.W.codeIn K cd12 "is_step" = true) (k12 : PySem.W.keepIn K (.ref f12) = true)
    {f13 : Addr} {od13 an13 : Option Addr} {sl13 : Array (Option Value)} {oc13 kV13 dc13 pm13 cd13 ct13 : Value}
    (a13 : PySem.W.nsIn K mainGlobals "steps_fault" = some (some (.ref f13))) (l13 : K.lookup f13 = some ⟨oc13, od13, .func (PySem.W.fnOf "steps_fault" "steps_fault" (defArgs s_steps_fault) (defBody s_steps_fault) (defScope s_steps_fault) .none kV13 dc13 pm13 an13 cd13 ct13), sl13⟩) (c13 : PySem.W.codeIn K cd13 "steps_fault" = true) (k13 : PySem.W.keepIn K (.ref f13) = true)
    {f14 : Addr} {od14 an14 : Option Addr} {sl14 : Array (Option Value)} {oc14 kV14 dc14 pm14 cd14 ct14 : Value}
    (a14 : PySem.W.nsIn K mainGlobals "need_steps" = some (some (.ref f14))) (l14 : K.lookup f14 = some ⟨oc14, od14, .func (PySem.W.fnOf "need_steps" "need_steps" (defArgs s_need_steps) (defBody s_need_steps) (defScope s_need_steps) .none kV14 dc14 pm14 an14 cd14 ct14), sl14⟩) (c14 : PySem.W.codeIn K cd14 "need_steps" = true) (k14 : PySem.W.keepIn K (.ref f14) = true)
    {f15 : Addr} {od15 an15 : Option Addr} {sl15 : Array (Option Value)} {oc15 kV15 dc15 pm15 cd15 ct15 : Value}
    (a15 : PySem.W.nsIn K mainGlobals "need_size" = some (some (.ref f15))) (l15 : K.lookup f15 = some ⟨oc15, od15, .func (PySem.W.fnOf "need_size" "need_size" (defArgs s_need_size) (defBody s_need_size) (defScope s_need_size) .none kV15 dc15 pm15 an15 cd15 ct15), sl15⟩) (c15 : PySem.W.codeIn K cd15 "need_size" = true) (k15 : PySem.W.keepIn K (.ref f15) = true)
    {f16 : Addr} {od16 an16 : Option Addr} {sl16 : Array (Option Value)} {oc16 kV16 dc16 pm16 cd16 ct16 : Value}
    (a16 : PySem.W.nsIn K mainGlobals "need_box" = some (some (.ref f16))) (l16 : K.lookup f16 = some ⟨oc16, od16, .func (PySem.W.fnOf "need_box" "need_box" (defArgs s_need_box) (defBody s_need_box) (defScope s_need_box) .none kV16 dc16 pm16 an16 cd16 ct16), sl16⟩) (c16 : PySem.W.codeIn K cd16 "need_box" = true) (k16 : PySem.W.keepIn K (.ref f16) = true)
    {f17 : Addr} {od17 an17 : Option Addr} {sl17 : Array (Option Value)} {oc17 kV17 dc17 pm17 cd17 ct17 : Value}
    (a17 : PySem.W.nsIn K mainGlobals "in_box" = some (some (.ref f17))) (l17 : K.lookup f17 = some ⟨oc17, od17, .func (PySem.W.fnOf "in_box" "in_box" (defArgs s_in_box) (defBody s_in_box) (defScope s_in_box) .none kV17 dc17 pm17 an17 cd17 ct17), sl17⟩) (c17 : PySem.W.codeIn K cd17 "in_box" = true) (k17 : PySem.W.keepIn K (.ref f17) = true)
    {f18 : Addr} {od18 an18 : Option Addr} {sl18 : Array (Option Value)} {oc18 kV18 dc18 pm18 cd18 ct18 : Value}
    (a18 : PySem.W.nsIn K mainGlobals "taken" = some (some (.ref f18))) (l18 : K.lookup f18 = some ⟨oc18, od18, .func (PySem.W.fnOf "taken" "taken" (defArgs s_taken) (defBody s_taken) (defScope s_taken) .none kV18 dc18 pm18 an18 cd18 ct18), sl18⟩) (c18 : PySem.W.codeIn K cd18 "taken" = true) (k18 : PySem.W.keepIn K (.ref f18) = true)
    {f19 : Addr} {od19 an19 : Option Addr} {sl19 : Array (Option Value)} {oc19 kV19 dc19 pm19 cd19 ct19 : Value}
    (a19 : PySem.W.nsIn K mainGlobals "sources_of" = some (some (.ref f19))) (l19 : K.lookup f19 = some ⟨oc19, od19, .func (PySem.W.fnOf "sources_of" "sources_of" (defArgs s_sources_of) (defBody s_sources_of) (defScope s_sources_of) .none kV19 dc19 pm19 an19 cd19 ct19), sl19⟩) (c19 : PySem.W.codeIn K cd19 "sources_of" = true) (k19 : PySem.W.keepIn K (.ref f19) = true)
    {f20 : Addr} {od20 an20 : Option Addr} {sl20 : Array (Option Value)} {oc20 kV20 dc20 pm20 cd20 ct20 : Value}
    (a20 : PySem.W.nsIn K mainGlobals "can_stand" = some (some (.ref f20))) (l20 : K.lookup f20 = some ⟨oc20, od20, .func (PySem.W.fnOf "can_stand" "can_stand" (defArgs s_can_stand) (defBody s_can_stand) (defScope s_can_stand) .none kV20 dc20 pm20 an20 cd20 ct20), sl20⟩) (c20 : PySem.W.codeIn K cd20 "can_stand" = true) (k20 : PySem.W.keepIn K (.ref f20) = true)
    {f21 : Addr} {od21 an21 : Option Addr} {sl21 : Array (Option Value)} {oc21 kV21 dc21 pm21 cd21 ct21 : Value}
    (a21 : PySem.W.nsIn K mainGlobals "list_fault" = some (some (.ref f21))) (l21 : K.lookup f21 = some ⟨oc21, od21, .func (PySem.W.fnOf "list_fault" "list_fault" (defArgs s_list_fault) (defBody s_list_fault) (defScope s_list_fault) .none kV21 dc21 pm21 an21 cd21 ct21), sl21⟩) (c21 : PySem.W.codeIn K cd21 "list_fault" = true) (k21 : PySem.W.keepIn K (.ref f21) = true)
    {f22 : Addr} {od22 an22 : Option Addr} {sl22 : Array (Option Value)} {oc22 kV22 dc22 pm22 cd22 ct22 : Value}
    (a22 : PySem.W.nsIn K mainGlobals "is_list" = some (some (.ref f22))) (l22 : K.lookup f22 = some ⟨oc22, od22, .func (PySem.W.fnOf "is_list" "is_list" (defArgs s_is_list) (defBody s_is_list) (defScope s_is_list) .none kV22 dc22 pm22 an22 cd22 ct22), sl22⟩) (c22 : PySem.W.codeIn K cd22 "is_list" = true) (k22 : PySem.W.keepIn K (.ref f22) = true)
    {f23 : Addr} {od23 an23 : Option Addr} {sl23 : Array (Option Value)} {oc23 kV23 dc23 pm23 cd23 ct23 : Value}
    (a23 : PySem.W.nsIn K mainGlobals "_law_odd_spot" = some (some (.ref f23))) (l23 : K.lookup f23 = some ⟨oc23, od23, .func (PySem.W.fnOf "_law_odd_spot" "_law_odd_spot" (defArgs s__law_odd_spot) (defBody s__law_odd_spot) (defScope s__law_odd_spot) .none kV23 dc23 pm23 an23 cd23 ct23), sl23⟩) (c23 : PySem.W.codeIn K cd23 "_law_odd_spot" = true) (k23 : PySem.W.keepIn K (.ref f23) = true)
    {f24 : Addr} {od24 an24 : Option Addr} {sl24 : Array (Option Value)} {oc24 kV24 dc24 pm24 cd24 ct24 : Value}
    (a24 : PySem.W.nsIn K mainGlobals "_law_bent" = some (some (.ref f24))) (l24 : K.lookup f24 = some ⟨oc24, od24, .func (PySem.W.fnOf "_law_bent" "_law_bent" (defArgs s__law_bent) (defBody s__law_bent) (defScope s__law_bent) .none kV24 dc24 pm24 an24 cd24 ct24), sl24⟩) (c24 : PySem.W.codeIn K cd24 "_law_bent" = true) (k24 : PySem.W.keepIn K (.ref f24) = true)
    {f25 : Addr} {od25 an25 : Option Addr} {sl25 : Array (Option Value)} {oc25 kV25 dc25 pm25 cd25 ct25 : Value}
    (a25 : PySem.W.nsIn K mainGlobals "_law_is_list" = some (some (.ref f25))) (l25 : K.lookup f25 = some ⟨oc25, od25, .func (PySem.W.fnOf "_law_is_list" "_law_is_list" (defArgs s__law_is_list) (defBody s__law_is_list) (defScope s__law_is_list) .none kV25 dc25 pm25 an25 cd25 ct25), sl25⟩) (c25 : PySem.W.codeIn K cd25 "_law_is_list" = true) (k25 : PySem.W.keepIn K (.ref f25) = true)
    {f26 : Addr} {od26 an26 : Option Addr} {sl26 : Array (Option Value)} {oc26 kV26 dc26 pm26 cd26 ct26 : Value}
    (a26 : PySem.W.nsIn K mainGlobals "_law_told_right" = some (some (.ref f26))) (l26 : K.lookup f26 = some ⟨oc26, od26, .func (PySem.W.fnOf "_law_told_right" "_law_told_right" (defArgs s__law_told_right) (defBody s__law_told_right) (defScope s__law_told_right) .none kV26 dc26 pm26 an26 cd26 ct26), sl26⟩) (c26 : PySem.W.codeIn K cd26 "_law_told_right" = true) (k26 : PySem.W.keepIn K (.ref f26) = true)
    {f27 : Addr} {od27 an27 : Option Addr} {sl27 : Array (Option Value)} {oc27 kV27 dc27 pm27 cd27 ct27 : Value}
    (a27 : PySem.W.nsIn K mainGlobals "_law_right" = some (some (.ref f27))) (l27 : K.lookup f27 = some ⟨oc27, od27, .func (PySem.W.fnOf "_law_right" "_law_right" (defArgs s__law_right) (defBody s__law_right) (defScope s__law_right) .none kV27 dc27 pm27 an27 cd27 ct27), sl27⟩) (c27 : PySem.W.codeIn K cd27 "_law_right" = true) (k27 : PySem.W.keepIn K (.ref f27) = true)
    {f28 : Addr} {od28 an28 : Option Addr} {sl28 : Array (Option Value)} {oc28 kV28 dc28 pm28 cd28 ct28 : Value}
    (a28 : PySem.W.nsIn K mainGlobals "law" = some (some (.ref f28))) (l28 : K.lookup f28 = some ⟨oc28, od28, .func (PySem.W.fnOf "law" "law" (defArgs s_law) (defBody s_law) (defScope s_law) .none kV28 dc28 pm28 an28 cd28 ct28), sl28⟩) (c28 : PySem.W.codeIn K cd28 "law" = true) (k28 : PySem.W.keepIn K (.ref f28) = true)
    (z_abs : PySem.W.nsIn K mainGlobals "abs" = some none)
    (z_int : PySem.W.nsIn K mainGlobals "int" = some none)
    (z_max : PySem.W.nsIn K mainGlobals "max" = some none)
    (z_range : PySem.W.nsIn K mainGlobals "range" = some none)
    (z_sorted : PySem.W.nsIn K mainGlobals "sorted" = some none)
    (z_len : PySem.W.nsIn K mainGlobals "len" = some none)
    (z_isinstance : PySem.W.nsIn K mainGlobals "isinstance" = some none)
    (z_bool : PySem.W.nsIn K mainGlobals "bool" = some none)
    (z_tuple : PySem.W.nsIn K mainGlobals "tuple" = some none)
    (z_all : PySem.W.nsIn K mainGlobals "all" = some none)
    (z_list : PySem.W.nsIn K mainGlobals "list" = some none)
    (z_enumerate : PySem.W.nsIn K mainGlobals "enumerate" = some none)
    (z_repr : PySem.W.nsIn K mainGlobals "repr" = some none)
    (z_min : PySem.W.nsIn K mainGlobals "min" = some none)
    {y_MOST_ITEM : Tok} (g_MOST_ITEM : PySem.W.nsIn K mainGlobals "MOST_ITEM" = some (some (.int 6 y_MOST_ITEM)))
    {y_MOST_STEPS : Tok} (g_MOST_STEPS : PySem.W.nsIn K mainGlobals "MOST_STEPS" = some (some (.int 4 y_MOST_STEPS)))
    {y_MOST_SIZE : Tok} (g_MOST_SIZE : PySem.W.nsIn K mainGlobals "MOST_SIZE" = some (some (.int 999999999999999999999999999999 y_MOST_SIZE)))
    {y_MOST_ITEMS : Tok} (g_MOST_ITEMS : PySem.W.nsIn K mainGlobals "MOST_ITEMS" = some (some (.int 400 y_MOST_ITEMS)))
    : ∃ fd : FuncData, (∀ (s : Shared) (v : Value), BindsTo s fd ⟨[v], []⟩ [("_law_script", v)]) ∧ ∀ base : Heap, K.In base → base.Ns mainGlobals mg → FnD l.prog w K mg base 9 fa fd ["_law_script"] S_law := by
  obtain rfl : fa = f28 := by have e := hfa.symm.trans (PySem.W.mg_of X G a28); cases e; rfl
  have F0 : FunH K mg "_law_source" s__law_source [] := ⟨_, _, PySem.W.mg_of X G a0, fund_mk l0 c0 k0 rfl⟩
  have F1 : FunH K mg "_law_draw" s__law_draw [] := ⟨_, _, PySem.W.mg_of X G a1, fund_mk l1 c1 k1 rfl⟩
  have F2 : FunH K mg "_law_move" s__law_move [] := ⟨_, _, PySem.W.mg_of X G a2, fund_mk l2 c2 k2 rfl⟩
  have F3 : FunH K mg "_law_moves" s__law_moves [] := ⟨_, _, PySem.W.mg_of X G a3, fund_mk l3 c3 k3 rfl⟩
  have F4 : FunH K mg "_law_some_moves" s__law_some_moves [] := ⟨_, _, PySem.W.mg_of X G a4, fund_mk l4 c4 k4 rfl⟩
  have F5 : FunH K mg "_law_box" s__law_box [] := ⟨_, _, PySem.W.mg_of X G a5, fund_mk l5 c5 k5 rfl⟩
  have F6 : FunH K mg "_law_spots" s__law_spots [] := ⟨_, _, PySem.W.mg_of X G a6, fund_mk l6 c6 k6 rfl⟩
  have F7 : FunH K mg "_law_behind" s__law_behind [] := ⟨_, _, PySem.W.mg_of X G a7, fund_mk l7 c7 k7 rfl⟩
  have F8 : FunH K mg "_law_ahead" s__law_ahead [] := ⟨_, _, PySem.W.mg_of X G a8, fund_mk l8 c8 k8 rfl⟩
  have F9 : FunH K mg "_law_list" s__law_list [] := ⟨_, _, PySem.W.mg_of X G a9, fund_mk l9 c9 k9 rfl⟩
  have F10 : FunH K mg "is_integer" s_is_integer dd_is_integer := ⟨_, _, PySem.W.mg_of X G a10, fund_mk l10 c10 k10 d10⟩
  have F11 : FunH K mg "is_pair" s_is_pair [] := ⟨_, _, PySem.W.mg_of X G a11, fund_mk l11 c11 k11 rfl⟩
  have F12 : FunH K mg "is_step" s_is_step [] := ⟨_, _, PySem.W.mg_of X G a12, fund_mk l12 c12 k12 rfl⟩
  have F13 : FunH K mg "steps_fault" s_steps_fault [] := ⟨_, _, PySem.W.mg_of X G a13, fund_mk l13 c13 k13 rfl⟩
  have F14 : FunH K mg "need_steps" s_need_steps [] := ⟨_, _, PySem.W.mg_of X G a14, fund_mk l14 c14 k14 rfl⟩
  have F15 : FunH K mg "need_size" s_need_size [] := ⟨_, _, PySem.W.mg_of X G a15, fund_mk l15 c15 k15 rfl⟩
  have F16 : FunH K mg "need_box" s_need_box [] := ⟨_, _, PySem.W.mg_of X G a16, fund_mk l16 c16 k16 rfl⟩
  have F17 : FunH K mg "in_box" s_in_box [] := ⟨_, _, PySem.W.mg_of X G a17, fund_mk l17 c17 k17 rfl⟩
  have F18 : FunH K mg "taken" s_taken [] := ⟨_, _, PySem.W.mg_of X G a18, fund_mk l18 c18 k18 rfl⟩
  have F19 : FunH K mg "sources_of" s_sources_of [] := ⟨_, _, PySem.W.mg_of X G a19, fund_mk l19 c19 k19 rfl⟩
  have F20 : FunH K mg "can_stand" s_can_stand [] := ⟨_, _, PySem.W.mg_of X G a20, fund_mk l20 c20 k20 rfl⟩
  have F21 : FunH K mg "list_fault" s_list_fault [] := ⟨_, _, PySem.W.mg_of X G a21, fund_mk l21 c21 k21 rfl⟩
  have F22 : FunH K mg "is_list" s_is_list [] := ⟨_, _, PySem.W.mg_of X G a22, fund_mk l22 c22 k22 rfl⟩
  have F23 : FunH K mg "_law_odd_spot" s__law_odd_spot [] := ⟨_, _, PySem.W.mg_of X G a23, fund_mk l23 c23 k23 rfl⟩
  have F24 : FunH K mg "_law_bent" s__law_bent [] := ⟨_, _, PySem.W.mg_of X G a24, fund_mk l24 c24 k24 rfl⟩
  have F25 : FunH K mg "_law_is_list" s__law_is_list [] := ⟨_, _, PySem.W.mg_of X G a25, fund_mk l25 c25 k25 rfl⟩
  have F26 : FunH K mg "_law_told_right" s__law_told_right [] := ⟨_, _, PySem.W.mg_of X G a26, fund_mk l26 c26 k26 rfl⟩
  have F27 : FunH K mg "_law_right" s__law_right [] := ⟨_, _, PySem.W.mg_of X G a27, fund_mk l27 c27 k27 rfl⟩
  have F28 : FunH K mg "law" s_law [] := ⟨_, _, PySem.W.mg_of X G a28, fund_mk l28 c28 k28 rfl⟩
  refine ⟨PySem.W.fnOf "law" "law" (defArgs s_law) (defBody s_law) (defScope s_law) .none kV28 dc28 pm28 an28 cd28 ct28, fun s v => .of_eq rfl, fun base _ _ => ?_⟩
  obtain ⟨f, fd, m, F, h⟩ := all_ok (P := l.prog) (w := w) (base := base) F0 F1 F2 F3 F4 F5 F6 F7 F8 F9 F10 F11 F12 F13 F14 F15 F16 F17 F18 F19 F20 F21 F22 F23 F24 F25 F26 F27 F28 (PySem.W.mg_none_of X G z_abs) (PySem.W.mg_none_of X G z_int) (PySem.W.mg_none_of X G z_max) (PySem.W.mg_none_of X G z_range) (PySem.W.mg_none_of X G z_sorted) (PySem.W.mg_none_of X G z_len) (PySem.W.mg_none_of X G z_isinstance) (PySem.W.mg_none_of X G z_bool) (PySem.W.mg_none_of X G z_tuple) (PySem.W.mg_none_of X G z_all) (PySem.W.mg_none_of X G z_list) (PySem.W.mg_none_of X G z_enumerate) (PySem.W.mg_none_of X G z_repr) (PySem.W.mg_none_of X G z_min) ⟨_, PySem.W.mg_of X G g_MOST_ITEM⟩ ⟨_, PySem.W.mg_of X G g_MOST_STEPS⟩ ⟨_, PySem.W.mg_of X G g_MOST_SIZE⟩ ⟨_, PySem.W.mg_of X G g_MOST_ITEMS⟩
  have e := m.symm.trans (PySem.W.mg_of X G a28)
  cases e
  obtain ⟨_, _, _, _, _, _, _, _, _, _, e1, e2, _⟩ := F.ex
  rw [l28] at e2
  cases e2
  exact h

end LD
open PySem PySem.W PyProof.Rows
set_option maxHeartbeats 0 in
theorem PySem.Challenge.cw_storerounds_k35_lists_judged_holds : PySem.Challenge.rw_storerounds_k35_lists_judged.Holds := by
  w_on; o_law; k_head; (case hw => w_witness2)
  k_fill
  refine LD.walk_d (l := PySem.Challenge.rw_storerounds_k35_lists_judged) (n := LD.most) (k := 9) (x := "_law_script") rfl (by decide) rfl ⟨rfl, by decide, by decide⟩ (fun w h Y => PySem.W.kIn_of Y) ?F
  case F =>
    intro w mg fa h KX G hmg
    refine' LD.fin KX G hmg ?a0 ?l0 ?c0 ?k0 ?a1 ?l1 ?c1 ?k1 ?a2 ?l2 ?c2 ?k2 ?a3 ?l3 ?c3 ?k3 ?a4 ?l4 ?c4 ?k4 ?a5 ?l5 ?c5 ?k5 ?a6 ?l6 ?c6 ?k6 ?a7 ?l7 ?c7 ?k7 ?a8 ?l8 ?c8 ?k8 ?a9 ?l9 ?c9 ?k9 ?a10 ?l10 ?c10 ?k10 ?d10 ?a11 ?l11 ?c11 ?k11 ?a12 ?l12 ?c12 ?k12 ?a13 ?l13 ?c13 ?k13 ?a14 ?l14 ?c14 ?k14 ?a15 ?l15 ?c15 ?k15 ?a16 ?l16 ?c16 ?k16 ?a17 ?l17 ?c17 ?k17 ?a18 ?l18 ?c18 ?k18 ?a19 ?l19 ?c19 ?k19 ?a20 ?l20 ?c20 ?k20 ?a21 ?l21 ?c21 ?k21 ?a22 ?l22 ?c22 ?k22 ?a23 ?l23 ?c23 ?k23 ?a24 ?l24 ?c24 ?k24 ?a25 ?l25 ?c25 ?k25 ?a26 ?l26 ?c26 ?k26 ?a27 ?l27 ?c27 ?k27 ?a28 ?l28 ?c28 ?k28 ?z_abs ?z_int ?z_max ?z_range ?z_sorted ?z_len ?z_isinstance ?z_bool ?z_tuple ?z_all ?z_list ?z_enumerate ?z_repr ?z_min ?g_MOST_ITEM ?g_MOST_STEPS ?g_MOST_SIZE ?g_MOST_ITEMS
    (case a0 => k_is)
    (case l0 => k_is)
    (case c0 => k_is)
    (case k0 => k_is)
    (case a1 => k_is)
    (case l1 => k_is)
    (case c1 => k_is)
    (case k1 => k_is)
    (case a2 => k_is)
    (case l2 => k_is)
    (case c2 => k_is)
    (case k2 => k_is)
    (case a3 => k_is)
    (case l3 => k_is)
    (case c3 => k_is)
    (case k3 => k_is)
    (case a4 => k_is)
    (case l4 => k_is)
    (case c4 => k_is)
    (case k4 => k_is)
    (case a5 => k_is)
    (case l5 => k_is)
    (case c5 => k_is)
    (case k5 => k_is)
    (case a6 => k_is)
    (case l6 => k_is)
    (case c6 => k_is)
    (case k6 => k_is)
    (case a7 => k_is)
    (case l7 => k_is)
    (case c7 => k_is)
    (case k7 => k_is)
    (case a8 => k_is)
    (case l8 => k_is)
    (case c8 => k_is)
    (case k8 => k_is)
    (case a9 => k_is)
    (case l9 => k_is)
    (case c9 => k_is)
    (case k9 => k_is)
    (case a10 => k_is)
    (case l10 => k_is)
    (case c10 => k_is)
    (case k10 => k_is)
    (case d10 => rfl)
    (case a11 => k_is)
    (case l11 => k_is)
    (case c11 => k_is)
    (case k11 => k_is)
    (case a12 => k_is)
    (case l12 => k_is)
    (case c12 => k_is)
    (case k12 => k_is)
    (case a13 => k_is)
    (case l13 => k_is)
    (case c13 => k_is)
    (case k13 => k_is)
    (case a14 => k_is)
    (case l14 => k_is)
    (case c14 => k_is)
    (case k14 => k_is)
    (case a15 => k_is)
    (case l15 => k_is)
    (case c15 => k_is)
    (case k15 => k_is)
    (case a16 => k_is)
    (case l16 => k_is)
    (case c16 => k_is)
    (case k16 => k_is)
    (case a17 => k_is)
    (case l17 => k_is)
    (case c17 => k_is)
    (case k17 => k_is)
    (case a18 => k_is)
    (case l18 => k_is)
    (case c18 => k_is)
    (case k18 => k_is)
    (case a19 => k_is)
    (case l19 => k_is)
    (case c19 => k_is)
    (case k19 => k_is)
    (case a20 => k_is)
    (case l20 => k_is)
    (case c20 => k_is)
    (case k20 => k_is)
    (case a21 => k_is)
    (case l21 => k_is)
    (case c21 => k_is)
    (case k21 => k_is)
    (case a22 => k_is)
    (case l22 => k_is)
    (case c22 => k_is)
    (case k22 => k_is)
    (case a23 => k_is)
    (case l23 => k_is)
    (case c23 => k_is)
    (case k23 => k_is)
    (case a24 => k_is)
    (case l24 => k_is)
    (case c24 => k_is)
    (case k24 => k_is)
    (case a25 => k_is)
    (case l25 => k_is)
    (case c25 => k_is)
    (case k25 => k_is)
    (case a26 => k_is)
    (case l26 => k_is)
    (case c26 => k_is)
    (case k26 => k_is)
    (case a27 => k_is)
    (case l27 => k_is)
    (case c27 => k_is)
    (case k27 => k_is)
    (case a28 => k_is)
    (case l28 => k_is)
    (case c28 => k_is)
    (case k28 => k_is)
    (case z_abs => k_is)
    (case z_int => k_is)
    (case z_max => k_is)
    (case z_range => k_is)
    (case z_sorted => k_is)
    (case z_len => k_is)
    (case z_isinstance => k_is)
    (case z_bool => k_is)
    (case z_tuple => k_is)
    (case z_all => k_is)
    (case z_list => k_is)
    (case z_enumerate => k_is)
    (case z_repr => k_is)
    (case z_min => k_is)
    (case g_MOST_ITEM => k_is)
    (case g_MOST_STEPS => k_is)
    (case g_MOST_SIZE => k_is)
    (case g_MOST_ITEMS => k_is)
