import PyProof.Rows.All
import PySem.Challenge.RW_storerounds_k58_tiles_in_boxes
import HandS.List
import HandS.Comp
import HandS.Dict
import HandS.Iter
import HandS.ExcInit
import HandS.ExcValue
import HandS.Wide
import HandS.Deep
import HandS.Style
import HandS.Text
import HandS.Words
import HandS.Defaults
import HandS.TupLen
import HandS.IsInst
import HandS.SortRule
import HandS.SortInts
import HandS.Ends
import HandS.Conv
import HandS.HeadHook2
import HandS.NoneIn
import HandS.Star
import KE.DataMinMax
import KE.SortData
import HandS.TupSets
import KE.KDictCopyH
import KE.KDictWalk
import HandS.ExcOwn
import KE.KExcSuper
import KE.KExcIs
import HandS.ExcCtx
import HandS.ExcInitHot
import HandS.HotCalls
import HandS.ExcIs
import HandS.ExcField
import KE.DataFind
import PyProof.LongRange
import PyProof.SumWalkG
import PyProof.Rows.SeqMore
import PyProof.Rows.FactsN_isinstance2
import PyProof.FactsAll.subtypes_4
import HandS.Flow
import PyProof.MinMaxWalk
import PyProof.WalkInts
import PyProof.SeqI3
import PyProof.MaxThree
import HandS.Strs
import KE.KDictKeyed
import HandS.DictComp
import PyProof.DictFindH
import HandS.FStr
import HandS.RaiseMore
import HandS.Property
import OpenK.KOps
import KE.KTryMore
import PyProof.NeKinds
import PyProof.Rows.All
import Wide.All
import OpenK.AllK
import KE.KExcPX
import HandS.Head0
import HandS.Head1
import HandS.Head2
import HandS.HeadHook1
import HandS.DictTup
import KE.KDictOf
set_option Elab.async false
set_option linter.all false
set_option maxRecDepth 100000
namespace LD
open PySem PySem.Spec PyProof.Rows L2
abbrev St := L2.St
inductive D where
  | non | bl (b : Bool) | int (i : Int) | str (x : Str) | ty (n : String) | ref (a : Addr) | src | scr (ns : List Int)
  | tup (ds : List D) | lst (ds : List D) | dT (kvs : List (List Key × D)) | dK (kvs : List (Key × D)) | ins (a : Addr) (c : Str) (fs : List (Str × D)) | exc (a : Addr) (c : Str) (dd : Option Addr) (fs : List (Str × D)) | mob (a : Addr) | err (a : Addr) (c : Str) | lkd (o : HO) (d : D)
structure Wd where
  F : Hp
  S : Addr → Prop
  T : Addr → Prop
structure Wd.le (W W' : Wd) : Prop where
  f : ∀ b o, W.F b = some o → W'.F b = some o
  s : ∀ a, W.S a → W'.S a
  t : ∀ a, W.S a → (W'.T a ↔ W.T a)
theorem Wd.le.refl (W : Wd) : W.le W := ⟨fun _ _ h => h, fun _ h => h, fun _ _ => Iff.rfl⟩
theorem Wd.le.trans {A B C : Wd} (x : A.le B) (y : B.le C) : A.le C := ⟨fun b o h => y.f b o (x.f b o h), fun a h => y.s a (x.s a h), fun a h => (y.t a (x.s a h)).trans (x.t a h)⟩
def ErrO (F : Hp) (C a : Addr) : Prop := F a = some (ExO (.ref C) a) ∨ ∃ d fs, F a = some (exo a C (some d)) ∧ F d = some (exd d fs)
theorem ErrO.mono {F F' : Hp} {C a : Addr} (h : ErrO F C a) (l : ∀ b φ, F b = some (.ext φ) → F' b = some (.ext φ)) : ErrO F' C a := h.imp (l _ _) fun ⟨d, fs, e1, e2⟩ => ⟨d, fs, l _ _ e1, l _ _ e2⟩
structure Ct where
  num : Nat
  h : Addr → Option D
def Ct.up (c : Ct) : Ct := ⟨c.num + 1, c.h⟩
theorem Ct.num_up (c : Ct) : c.up.num = c.num + 1 := rfl
def Ct.to (c : Ct) (n : Nat) : Ct := ⟨n, c.h⟩
def Ct.put (c m : Ct) : Ct := ⟨m.num, c.h⟩
def Ct.set (c : Ct) (a : Addr) (d : D) : Ct := ⟨c.num, fun b => if b = a then some d else c.h b⟩
def Ct.bare (c : Ct) : Ct := ⟨c.num, fun _ => none⟩
def Ct.zero : Ct := ⟨0, fun _ => none⟩
instance : OfNat Ct 0 := ⟨Ct.zero⟩
mutual
def NoI : D → Prop
  | .ins _ _ _ => False
  | .exc _ _ _ _ => False
  | .err _ _ => False
  | .lkd _ _ => False
  | .tup ds => NoIL ds
  | .lst ds => NoIL ds
  | .dT es => NoIT es
  | .dK es => NoIK es
  | _ => True
def NoIL : List D → Prop
  | [] => True
  | d :: ds => NoI d ∧ NoIL ds
def NoIT : List (List Key × D) → Prop
  | [] => True
  | (_, d) :: ds => NoI d ∧ NoIT ds
def NoIK : List (Key × D) → Prop
  | [] => True
  | (_, d) :: ds => NoI d ∧ NoIK ds
end
def NoIF : List (Str × D) → Prop
  | [] => True
  | (_, d) :: ds => NoI d ∧ NoIF ds
def NoC : D → Prop
  | .ins _ _ fs => NoIF fs
  | .lkd _ d => NoI d
  | d => NoI d
section
variable (K : PySem.W.Frag) (W : Wd)
mutual
def Rp : D → V → Prop
  | .non, v => v = .non
  | .bl b, v => v = .bl b
  | .int i, v => v = .int i
  | .str x, v => v = .str x
  | .ty n, v => v = .ty n
  | .ref a, v => v = .ref a
  | .src, v => ∃ a, v = .ref a ∧ W.S a ∧ W.T a
  | .mob a, v => v = .ref a ∧ W.S a ∧ ¬ W.T a
  | .lkd _ _, _ => False
  | .err a c, v => v = .ref a ∧ ∃ C, PySem.W.nsIn K mainGlobals c = some (some (.ref C)) ∧ ErrO W.F C a
  | .scr ns, v => ∃ a, v = .ref a ∧ SqL K W.F a (ns.map V.int)
  | .tup ds, v => ∃ a xs, v = .ref a ∧ W.F a = some (.tup xs) ∧ RpL ds xs
  | .lst ds, v => ∃ a xs, v = .ref a ∧ W.F a = some (.lst xs) ∧ RpL ds xs
  | .dT es, v => ∃ a kvs, v = .ref a ∧ Rd W.F a (.dT kvs) ∧ RpT es kvs
  | .dK es, v => ∃ a kvs, v = .ref a ∧ Rd W.F a (.dK kvs) ∧ RpK es kvs
  | .ins a c fs, v => v = .ref a ∧ ∃ C dx gs, PySem.W.nsIn K mainGlobals c = some (some (.ref C)) ∧ W.F a = some (.ins C dx gs) ∧ RpF fs gs
  | .exc a _ dd fs, v => v = .ref a ∧ ((dd = none ∧ fs = []) ∨ ∃ d gs, dd = some d ∧ W.F d = some (.xd gs) ∧ RpF fs gs)
def RpL : List D → List V → Prop
  | [], vs => vs = []
  | d :: ds, vs => ∃ v r, vs = v :: r ∧ Rp d v ∧ RpL ds r
def RpT : List (List Key × D) → List (List Key × V) → Prop
  | [], vs => vs = []
  | (k, d) :: ds, vs => ∃ v r, vs = (k, v) :: r ∧ Rp d v ∧ RpT ds r
def RpK : List (Key × D) → List (Key × V) → Prop
  | [], vs => vs = []
  | (k, d) :: ds, vs => ∃ v r, vs = (k, v) :: r ∧ Rp d v ∧ RpK ds r
def RpF : List (Str × D) → List (Str × V) → Prop
  | [], vs => vs = []
  | (k, d) :: ds, vs => ∃ v r, vs = (k, v) :: r ∧ Rp d v ∧ RpF ds r
end
end
section
variable {K : PySem.W.Frag} {W W' : Wd}
theorem rd_le (l : W.le W') {a : Addr} {u : HO} (h : Rd W.F a u) : Rd W'.F a u := h.imp (l.f _ _) fun ⟨o, e⟩ => ⟨o, l.f _ _ e⟩
theorem sqL_le (l : W.le W') {a : Addr} {xs : List V} (h : SqL K W.F a xs) : SqL K W'.F a xs := h.imp (rd_le l) fun x => x
theorem sqT_le (l : W.le W') {a : Addr} {xs : List V} (h : SqT K W.F a xs) : SqT K W'.F a xs := h.imp (rd_le l) fun x => x
mutual
theorem Rp.mono (l : W.le W') : ∀ (d : D) (v : V), Rp K W d v → Rp K W' d v
  | .non, _, h => h
  | .bl _, _, h => h
  | .int _, _, h => h
  | .str _, _, h => h
  | .ty _, _, h => h
  | .ref _, _, h => h
  | .src, _, h => by obtain ⟨a, e, h, t⟩ := h; exact ⟨a, e, l.s a h, (l.t a h).mpr t⟩
  | .mob _, _, h => by obtain ⟨e, h, t⟩ := h; exact ⟨e, l.s _ h, fun z => t ((l.t _ h).mp z)⟩
  | .lkd _ _, _, h => h
  | .err _ _, _, h => by obtain ⟨e, C, n, h⟩ := h; exact ⟨e, C, n, h.mono fun _ _ => l.f _ _⟩
  | .tup ds, _, h => by obtain ⟨a, xs, e, s, r⟩ := h; exact ⟨a, xs, e, l.f _ _ s, RpL.mono l ds xs r⟩
  | .scr ns, _, h => by obtain ⟨a, e, s⟩ := h; exact ⟨a, e, sqL_le l s⟩
  | .lst ds, _, h => by obtain ⟨a, xs, e, s, r⟩ := h; exact ⟨a, xs, e, l.f _ _ s, RpL.mono l ds xs r⟩
  | .dT ds, _, h => by obtain ⟨a, xs, e, s, r⟩ := h; exact ⟨a, xs, e, rd_le l s, RpT.mono l ds xs r⟩
  | .dK ds, _, h => by obtain ⟨a, xs, e, s, r⟩ := h; exact ⟨a, xs, e, rd_le l s, RpK.mono l ds xs r⟩
  | .ins a c fs, _, h => by obtain ⟨e, C, dx, xs, n, s, r⟩ := h; exact ⟨e, C, dx, xs, n, l.f _ _ s, RpF.mono l fs xs r⟩
  | .exc a c dd fs, _, h => by
    obtain ⟨e, h⟩ := h
    exact ⟨e, h.imp id fun ⟨d, gs, e1, s, r⟩ => ⟨d, gs, e1, l.f _ _ s, RpF.mono l fs gs r⟩⟩
theorem RpL.mono (l : W.le W') : ∀ (d : List D) (v : List V), RpL K W d v → RpL K W' d v
  | [], _, h => h
  | d :: ds, _, h => by obtain ⟨v, r, e, h, t⟩ := h; exact ⟨v, r, e, Rp.mono l d v h, RpL.mono l ds r t⟩
theorem RpT.mono (l : W.le W') : ∀ (d : List (List Key × D)) (v : List (List Key × V)), RpT K W d v → RpT K W' d v
  | [], _, h => h
  | (_, d) :: ds, _, h => by obtain ⟨v, r, e, h, t⟩ := h; exact ⟨v, r, e, Rp.mono l d v h, RpT.mono l ds r t⟩
theorem RpK.mono (l : W.le W') : ∀ (d : List (Key × D)) (v : List (Key × V)), RpK K W d v → RpK K W' d v
  | [], _, h => h
  | (_, d) :: ds, _, h => by obtain ⟨v, r, e, h, t⟩ := h; exact ⟨v, r, e, Rp.mono l d v h, RpK.mono l ds r t⟩
theorem RpF.mono (l : W.le W') : ∀ (d : List (Str × D)) (v : List (Str × V)), RpF K W d v → RpF K W' d v
  | [], _, h => h
  | (_, d) :: ds, _, h => by obtain ⟨v, r, e, h, t⟩ := h; exact ⟨v, r, e, Rp.mono l d v h, RpF.mono l ds r t⟩
end
end
inductive SC where
  | dat (d : D) | own (d : D)
inductive SV where
  | dat (d : D) | bor (i : Nat) | new (d : D)
structure Gm where
  sl : List (Option SC)
  c : Ct
def ggl : List (Option SC) → Nat → Option SC
  | [], _ => none
  | x :: _, 0 => x
  | _ :: r, n + 1 => ggl r n
def gsl : List (Option SC) → Nat → Option SC → List (Option SC)
  | [], _, _ => []
  | _ :: r, 0, y => y :: r
  | x :: r, n + 1, y => x :: gsl r n y
def gg (G : Gm) (n : Nat) : Option SC := ggl G.sl n
def gset (G : Gm) (n : Nat) (y : Option SC) : Gm := ⟨gsl G.sl n y, G.c⟩
abbrev Gm.length (G : Gm) : Nat := G.sl.length
def Gm.at (G : Gm) (n : Ct) : Gm := ⟨G.sl, n⟩
theorem gsl_len : ∀ (G : List (Option SC)) (n : Nat) (y : Option SC), (gsl G n y).length = G.length
  | [], _, _ => rfl
  | _ :: _, 0, _ => rfl
  | _ :: r, n + 1, y => congrArg Nat.succ (gsl_len r n y)
theorem ggl_set_self : ∀ (G : List (Option SC)) (n : Nat) (y : Option SC), n < G.length → ggl (gsl G n y) n = y
  | [], _, _, h => absurd h (Nat.not_lt_zero _)
  | _ :: _, 0, _, _ => rfl
  | _ :: r, n + 1, y, h => ggl_set_self r n y (Nat.lt_of_succ_lt_succ h)
theorem ggl_set_ne : ∀ (G : List (Option SC)) (n m : Nat) (y : Option SC), m ≠ n → ggl (gsl G n y) m = ggl G m
  | [], _, _, _, _ => rfl
  | _ :: _, 0, 0, _, h => absurd rfl h
  | _ :: _, 0, _ + 1, _, _ => rfl
  | _ :: _, _ + 1, 0, _, _ => rfl
  | _ :: r, n + 1, m + 1, y, h => ggl_set_ne r n m y fun e => h (congrArg Nat.succ e)
theorem gsl_gsl : ∀ (G : List (Option SC)) (n : Nat) (x y : Option SC), gsl (gsl G n x) n y = gsl G n y
  | [], _, _, _ => rfl
  | _ :: _, 0, _, _ => rfl
  | z :: r, n + 1, x, y => congrArg (z :: ·) (gsl_gsl r n x y)
theorem ggl_lt : ∀ {G : List (Option SC)} {n : Nat} {x : SC}, ggl G n = some x → n < G.length
  | [], _, _, h => by cases h
  | _ :: _, 0, _, _ => Nat.succ_pos _
  | _ :: r, n + 1, _, h => Nat.succ_lt_succ (ggl_lt (G := r) h)
theorem gset_len (G : Gm) (n : Nat) (y : Option SC) : (gset G n y).length = G.length := gsl_len _ _ _
theorem gg_set_self (G : Gm) (n : Nat) (y : Option SC) (h : n < G.length) : gg (gset G n y) n = y := ggl_set_self _ _ _ h
theorem gg_set_ne (G : Gm) (n m : Nat) (y : Option SC) (h : m ≠ n) : gg (gset G n y) m = gg G m := ggl_set_ne _ _ _ _ h
theorem gset_gset (G : Gm) (n : Nat) (x y : Option SC) : gset (gset G n x) n y = gset G n y := by unfold gset; rw [gsl_gsl]
theorem gg_lt {G : Gm} {n : Nat} {x : SC} (h : gg G n = some x) : n < G.length := ggl_lt h
def RO (K : PySem.W.Frag) (W : Wd) (p : Addr) : HO → D → Prop
  | .lst xs, .lst ds => RpL K W ds xs
  | .dT kvs, .dT es => RpT K W es kvs
  | .dK kvs, .dK es => RpK K W es kvs
  | .ins C _ gs, .ins a c fs => a = p ∧ PySem.W.nsIn K mainGlobals c = some (some (.ref C)) ∧ RpF K W fs gs
  | _, _ => False
theorem RO.mono {K : PySem.W.Frag} {W W' : Wd} (l : W.le W') {p : Addr} {o : HO} {d : D} (h : RO K W p o d) : RO K W' p o d := by
  cases o <;> cases d <;> first | exact False.elim h | exact RpL.mono l _ _ h | exact RpT.mono l _ _ h | exact RpK.mono l _ _ h | exact ⟨h.1, h.2.1, RpF.mono l _ _ h.2.2⟩
theorem RO.rp {K : PySem.W.Frag} {W : Wd} {p : Addr} {o : HO} {d : D} (e : W.F p = some o) (h : RO K W p o d) : Rp K W d (.ref p) := by
  cases o <;> cases d <;> first
    | exact False.elim h
    | exact ⟨p, _, rfl, e, h⟩
    | exact ⟨p, _, rfl, .inl e, h⟩
    | (obtain ⟨rfl, n, h⟩ := h; exact ⟨rfl, _, _, _, n, e, h⟩)
def Src3 (H : Hp) (a : Addr) (n : Nat) : Prop := ∃ x y z : Int, H a = some (.lst [.int x, .int y, .int z]) ∧ 0 ≤ y ∧ y < 10 ^ 50 ∧ 0 ≤ z ∧ z ≤ n
def CtOk (W : Wd) (c : Ct) : Prop := ∀ a d, c.h a = some d → W.S a ∧ ¬ W.T a
theorem CtOk.mono {W W' : Wd} {c : Ct} (h : CtOk W c) (l : W.le W') : CtOk W' c := fun a d e => ⟨l.s a (h a d e).1, fun t => (h a d e).2 ((l.t a (h a d e).1).mp t)⟩
def Lk (K : PySem.W.Frag) (W : Wd) : HO → D → Prop
  | .frz q (.dK kvs), .lkd o (.dK es) => o = .frz q (.dK kvs) ∧ RpK K W es kvs
  | .frz q (.dT kvs), .lkd o (.dT es) => o = .frz q (.dT kvs) ∧ RpT K W es kvs
  | _, _ => False
def RM (K : PySem.W.Frag) (W : Wd) (p : Addr) (o : HO) (d : D) : Prop := RO K W p o d ∨ Lk K W o d
theorem Lk.lkd {K : PySem.W.Frag} {W : Wd} {o : HO} {d : D} (h : Lk K W o d) : ∃ q e, d = .lkd o e ∧ ((∃ kvs es, o = .frz q (.dK kvs) ∧ e = .dK es ∧ RpK K W es kvs) ∨ ∃ kvs es, o = .frz q (.dT kvs) ∧ e = .dT es ∧ RpT K W es kvs) := by
  unfold Lk at h
  split at h
  · obtain ⟨rfl, h⟩ := h; exact ⟨_, _, rfl, .inl ⟨_, _, rfl, rfl, h⟩⟩
  · obtain ⟨rfl, h⟩ := h; exact ⟨_, _, rfl, .inr ⟨_, _, rfl, rfl, h⟩⟩
  · exact h.elim
theorem Lk.to {K : PySem.W.Frag} {W W' : Wd} {p : Addr} {o : HO} {d : D} (ro : ∀ o d, RO K W p o d → RO K W' p o d) (h : Lk K W o d) : Lk K W' o d := by
  obtain ⟨q, e, rfl, ⟨kvs, es, rfl, rfl, r⟩ | ⟨kvs, es, rfl, rfl, r⟩⟩ := h.lkd
  · exact ⟨rfl, ro (.dK kvs) (.dK es) r⟩
  · exact ⟨rfl, ro (.dT kvs) (.dT es) r⟩
theorem RM.to {K : PySem.W.Frag} {W W' : Wd} {p : Addr} (ro : ∀ o d, RO K W p o d → RO K W' p o d) {o : HO} {d : D} (h : RM K W p o d) : RM K W' p o d := h.imp (ro o d) (Lk.to ro)
theorem RM.ro {K : PySem.W.Frag} {W : Wd} {p : Addr} {o : HO} {d : D} (h : RM K W p o d) (n : ∀ x y, d ≠ .lkd x y) : RO K W p o d := h.elim id fun h => by
  obtain ⟨_, e, z, _⟩ := h.lkd
  exact (n _ _ z).elim
def MutC (K : PySem.W.Frag) (W : Wd) (H : Hp) (a : Addr) (c : Ct) : Prop := ∃ d o, c.h a = some d ∧ H a = some o ∧ RM K W a o d ∧ NoC d
theorem MutC.to {K : PySem.W.Frag} {W W' : Wd} {H H' : Hp} {a : Addr} {c : Ct} (h : MutC K W H a c) (ro : ∀ o d, RO K W a o d → RO K W' a o d) (k : ∀ o, H a = some o → H' a = some o) : MutC K W' H' a c :=
  let ⟨d, o, e, q, r, n⟩ := h; ⟨d, o, e, k o q, r.to ro, n⟩
theorem MutC.up {K : PySem.W.Frag} {W : Wd} {H : Hp} {a : Addr} {c : Ct} (h : MutC K W H a c) : MutC K W H a c.up := h
structure SrcOk (K : PySem.W.Frag) (W : Wd) (H : Hp) (a : Addr) (c : Ct) : Prop where
  obj : ∃ o, H a = some o ∧ ∀ xs, o ≠ .tup xs
  src : W.T a → Src3 H a c.num
  con : ¬ W.T a → MutC K W H a c
theorem SrcOk.to {K : PySem.W.Frag} {W W' : Wd} {H H' : Hp} {a : Addr} {c : Ct} (h : SrcOk K W H a c) (ro : ∀ o d, RO K W a o d → RO K W' a o d) (t : W'.T a ↔ W.T a) (k : ∀ o, H a = some o → H' a = some o) : SrcOk K W' H' a c :=
  ⟨let ⟨o, e, n⟩ := h.obj; ⟨o, k o e, n⟩, fun z => let ⟨x, y, z, e, r⟩ := h.src (t.mp z); ⟨x, y, z, k _ e, r⟩, fun z => (h.con fun y => z (t.mpr y)).to ro k⟩
theorem SrcOk.same {K : PySem.W.Frag} {W W' : Wd} {H H' : Hp} {a : Addr} {c : Ct} (h : SrcOk K W H a c) (l : W.le W') (s : W.S a) (k : ∀ o, H a = some o → H' a = some o) : SrcOk K W' H' a c :=
  h.to (fun _ _ r => r.mono l) (l.t a s) k
theorem SrcOk.up {K : PySem.W.Frag} {W : Wd} {H : Hp} {a : Addr} {c : Ct} (h : SrcOk K W H a c) : SrcOk K W H a c.up :=
  ⟨h.obj, fun t => let ⟨x, y, z, e, y1, y2, z1, z2⟩ := h.src t; ⟨x, y, z, e, y1, y2, z1, by rw [Ct.num_up]; omega⟩, fun t => (h.con t).up⟩
structure Priv (W : Wd) (H P : Hp) (p : Addr) (o : HO) : Prop where
  at_ : H p = some o
  f : W.F p = none
  s : ¬ W.S p
  n : P p = none
structure Rl (K : PySem.W.Frag) (W : Wd) (P : Hp) (G : Gm) (σ : St) (H : Hp) : Prop where
  len : G.length = σ.length
  le : ∀ b o, W.F b = some o → H b = some o
  src : ∀ a, W.S a → W.F a = none ∧ P a = none ∧ SrcOk K W H a G.c
  prot : ∀ p o, P p = some o → H p = some o ∧ W.F p = none
  dat : ∀ i d, gg G i = some (.dat d) → ∃ v, σ[i]? = some (some v) ∧ Rp K W d v
  own : ∀ i d, gg G i = some (.own d) → ∃ p o, σ[i]? = some (some (.ref p)) ∧ Priv W H P p o ∧ RO K W p o d
  sep : ∀ i j d e, i ≠ j → gg G i = some (.own d) → gg G j = some (.own e) → σ[i]? ≠ σ[j]?
  pnt : ∀ p xs, P p ≠ some (.tup xs)
  ext : CtOk W G.c
def RV (K : PySem.W.Frag) (W : Wd) (P : Hp) (G : Gm) (σ : St) (H : Hp) : SV → V → Prop
  | .dat d, v => Rp K W d v
  | .bor i, v => σ[i]? = some (some v) ∧ ∃ d, gg G i = some (.own d)
  | .new d, v => ∃ p o, v = .ref p ∧ Priv W H P p o ∧ RO K W p o d ∧ ∀ i e, gg G i = some (.own e) → σ[i]? ≠ some (some (.ref p))
abbrev DQ := SV → Gm → Prop
abbrev DE := Gm → DQ → Prop
def can (K : PySem.W.Frag) (t : DE) : TE := fun σ H Qv => ∃ W P G Q, Rl K W P G σ H ∧ t G Q ∧
  ∀ W' sv G' v H', W.le W' → Rl K W' P G' σ H' → RV K W' P G' σ H' sv v → Q sv G' → Qv v H'
theorem PE.imp {X : Cx} {e : Expr} {t u : TE} (h : PE X e t) (i : ∀ σ H Q, u σ H Q → t σ H Q) : PE X e u := ⟨fun pins s σ H Q I q => h.run pins s σ H Q I (i σ H Q q)⟩
theorem PT.imp {X : Cx} {e : Expr} {t u : TT} (h : PT X e t) (i : ∀ σ H Q, u σ H Q → t σ H Q) : PT X e u := ⟨fun pins s σ H Q I q => h.run pins s σ H Q I (i σ H Q q)⟩
theorem PS.imp {X : Cx} {e : Stmt} {t u : TS} (h : PS X e t) (i : ∀ D σ H, u D σ H → t D σ H) : PS X e u := ⟨fun pins s σ H D I q => h.run pins s σ H D I (i D σ H q)⟩
theorem PSs.imp {X : Cx} {e : List Stmt} {t u : TS} (h : PSs X e t) (i : ∀ D σ H, u D σ H → t D σ H) : PSs X e u := ⟨fun pins s σ H D I q => h.run pins s σ H D I (i D σ H q)⟩
section
variable {K : PySem.W.Frag} {W W' : Wd} {P : Hp} {G : Gm} {σ : St} {H : Hp}
def RS (K : PySem.W.Frag) (W : Wd) (σ : St) : SV → V → Prop
  | .dat d, v => Rp K W d v
  | .bor i, v => σ[i]? = some (some v)
  | .new d, v => Rp K W d v
theorem RS.mono (l : W.le W') {sv : SV} {v : V} (h : RS K W σ sv v) : RS K W' σ sv v := by
  cases sv with
  | dat d => exact Rp.mono l _ _ h
  | bor i => exact h
  | new d => exact Rp.mono l _ _ h
theorem Rl.freeze (R : Rl K W P G σ H) {p : Addr} {o : HO} {d : D} (pr : Priv W H P p o) (r : RO K W p o d) (hn : ∀ i e, gg G i = some (.own e) → σ[i]? ≠ some (some (.ref p))) :
    ∃ W', W.le W' ∧ Rl K W' P G σ H ∧ Rp K W' d (.ref p) := by
  have l : W.le ⟨upd W.F p o, W.S, W.T⟩ := ⟨fun b u e => by
    by_cases hb : b = p
    · subst hb; rw [pr.f] at e; cases e
    · show upd W.F p o b = _
      rw [upd_ne hb]; exact e, fun _ h => h, fun _ _ => Iff.rfl⟩
  refine ⟨⟨upd W.F p o, W.S, W.T⟩, l, ⟨R.len, fun b u e => ?_, fun a h => ?_, fun q u e => ?_, fun i x e => ?_, fun i x e => ?_, R.sep, R.pnt, R.ext⟩, (r.mono l).rp upd_same⟩
  · have e : upd W.F p o b = some u := e
    by_cases hb : b = p
    · subst hb; rw [upd_same] at e; cases e; exact pr.at_
    · rw [upd_ne hb] at e; exact R.le b u e
  · obtain ⟨h1, h2, h3⟩ := R.src a h
    refine ⟨?_, h2, h3.same l h fun _ e => e⟩
    show upd W.F p o a = none
    rw [upd_ne (show a ≠ p from fun z => pr.s (by rw [← z]; exact h))]; exact h1
  · obtain ⟨h1, h2⟩ := R.prot q u e
    refine ⟨h1, ?_⟩
    show upd W.F p o q = none
    rw [upd_ne fun z => by subst z; rw [pr.n] at e; cases e]; exact h2
  · obtain ⟨v, h1, h2⟩ := R.dat i x e
    exact ⟨v, h1, Rp.mono l _ _ h2⟩
  · obtain ⟨q, u, h1, h2, h3⟩ := R.own i x e
    refine ⟨q, u, h1, ⟨h2.at_, ?_, h2.s, h2.n⟩, h3.mono l⟩
    show upd W.F p o q = none
    rw [upd_ne (show q ≠ p from fun z => hn i x e (by rw [← z]; exact h1))]; exact h2.f
theorem Rl.settle (R : Rl K W P G σ H) {sv : SV} {v : V} (h : RV K W P G σ H sv v) : ∃ W', W.le W' ∧ Rl K W' P G σ H ∧ RS K W' σ sv v := by
  cases sv with
  | dat d => exact ⟨W, .refl W, R, h⟩
  | bor i => exact ⟨W, .refl W, R, h.1⟩
  | new d =>
    obtain ⟨p, o, rfl, pr, r, hn⟩ := h
    exact R.freeze pr r hn
def nowW (W : Wd) (H : Hp) : Wd := ⟨H, W.S, W.T⟩
theorem Rl.now (R : Rl K W P G σ H) : W.le (nowW W H) := ⟨R.le, fun _ h => h, fun _ _ => Iff.rfl⟩
def RN (K : PySem.W.Frag) (W : Wd) (H : Hp) : D → V → Prop
  | .tup ds, v => ∃ a xs, v = .ref a ∧ H a = some (.tup xs) ∧ RpL K W ds xs
  | .lst ds, v => ∃ a xs, v = .ref a ∧ H a = some (.lst xs) ∧ RpL K W ds xs
  | .scr ns, v => ∃ a, v = .ref a ∧ SqL K H a (ns.map V.int)
  | .dT es, v => ∃ a kvs, v = .ref a ∧ Rd H a (.dT kvs) ∧ RpT K W es kvs
  | .dK es, v => ∃ a kvs, v = .ref a ∧ Rd H a (.dK kvs) ∧ RpK K W es kvs
  | .ins a c fs, v => v = .ref a ∧ ∃ C dx gs, PySem.W.nsIn K mainGlobals c = some (some (.ref C)) ∧ H a = some (.ins C dx gs) ∧ RpF K W fs gs
  | d, v => Rp K W d v
theorem Rl.sqL (R : Rl K W P G σ H) {a : Addr} {xs : List V} (h : SqL K W.F a xs) : SqL K H a xs := sqL_le (W' := nowW W H) R.now h
theorem Rl.sqT (R : Rl K W P G σ H) {a : Addr} {xs : List V} (h : SqT K W.F a xs) : SqT K H a xs := sqT_le (W' := nowW W H) R.now h
theorem Rl.rdL (R : Rl K W P G σ H) {a : Addr} {u : HO} (h : Rd W.F a u) : Rd H a u := rd_le (W' := nowW W H) R.now h
theorem Rl.rn (R : Rl K W P G σ H) : ∀ {d : D} {v : V}, Rp K W d v → RN K W H d v
  | .tup _, _, ⟨a, xs, e, s, r⟩ => ⟨a, xs, e, R.le _ _ s, r⟩
  | .lst _, _, ⟨a, xs, e, s, r⟩ => ⟨a, xs, e, R.le _ _ s, r⟩
  | .scr _, _, ⟨a, e, s⟩ => ⟨a, e, R.sqL s⟩
  | .dT _, _, ⟨a, xs, e, s, r⟩ => ⟨a, xs, e, R.rdL s, r⟩
  | .dK _, _, ⟨a, xs, e, s, r⟩ => ⟨a, xs, e, R.rdL s, r⟩
  | .ins _ _ _, _, ⟨e, C, dx, xs, n, s, r⟩ => ⟨e, C, dx, xs, n, R.le _ _ s, r⟩
  | .exc _ _ _ _, _, h => h
  | .non, _, h => h
  | .bl _, _, h => h
  | .int _, _, h => h
  | .str _, _, h => h
  | .ty _, _, h => h
  | .ref _, _, h => h
  | .src, _, h => h
  | .mob _, _, h => h
  | .err _ _, _, h => h
  | .lkd _ _, _, h => h
theorem Rl.rnow (R : Rl K W P G σ H) : ∀ {d : D} {v : V}, RN K W H d v → Rp K (nowW W H) d v
  | .tup _, _, ⟨a, xs, e, s, r⟩ => ⟨a, xs, e, s, RpL.mono R.now _ _ r⟩
  | .lst _, _, ⟨a, xs, e, s, r⟩ => ⟨a, xs, e, s, RpL.mono R.now _ _ r⟩
  | .scr _, _, ⟨a, e, s⟩ => ⟨a, e, s⟩
  | .dT _, _, ⟨a, xs, e, s, r⟩ => ⟨a, xs, e, s, RpT.mono R.now _ _ r⟩
  | .dK _, _, ⟨a, xs, e, s, r⟩ => ⟨a, xs, e, s, RpK.mono R.now _ _ r⟩
  | .ins _ _ _, _, ⟨e, C, dx, xs, n, s, r⟩ => ⟨e, C, dx, xs, n, s, RpF.mono R.now _ _ r⟩
  | .exc _ _ _ _, _, h => Rp.mono R.now _ _ h
  | .non, _, h => h
  | .bl _, _, h => h
  | .int _, _, h => h
  | .str _, _, h => h
  | .ty _, _, h => h
  | .ref _, _, h => h
  | .src, _, h => h
  | .mob _, _, h => h
  | .lkd _ _, _, h => h
  | .err _ _, _, h => Rp.mono R.now _ _ h
theorem RO.rn {p : Addr} {o : HO} {d : D} (e : H p = some o) (h : RO K W p o d) : RN K W H d (.ref p) := by
  cases o <;> cases d <;> first
    | exact False.elim h
    | exact ⟨p, _, rfl, e, h⟩
    | exact ⟨p, _, rfl, .inl e, h⟩
    | (obtain ⟨rfl, n, h⟩ := h; exact ⟨rfl, _, _, _, n, e, h⟩)
def see (G : Gm) (sv : SV) (k : D → Prop) : Prop :=
  match sv with
  | .dat d => k d
  | .new d => k d
  | .bor i => match gg G i with | some (.own d) => k d | some (.dat d) => k d | none => False
def frz (G : Gm) (sv : SV) (k : D → Gm → Prop) : Prop :=
  match sv with
  | .dat d => k d G
  | .new d => k d G
  | .bor i => match gg G i with | some (.own d) => k d (gset G i (some (.dat d))) | some (.dat d) => k d G | none => False
theorem Rl.see (R : Rl K W P G σ H) {sv : SV} {v : V} (h : RS K W σ sv v) {k : D → Prop} (hk : see G sv k) : ∃ d, RN K W H d v ∧ k d := by
  cases sv with
  | dat d => exact ⟨d, R.rn h, hk⟩
  | new d => exact ⟨d, R.rn h, hk⟩
  | bor i =>
    have hv : σ[i]? = some (some v) := h
    have hk : (match gg G i with | some (.own d) => k d | some (.dat d) => k d | none => False) := hk
    cases e : gg G i with
    | none => rw [e] at hk; exact hk.elim
    | some x =>
      rw [e] at hk
      cases x with
      | dat d =>
        obtain ⟨w, h1, h2⟩ := R.dat i d e
        rw [hv] at h1; cases h1
        exact ⟨d, R.rn h2, hk⟩
      | own d =>
        obtain ⟨p, o, h1, h2, h3⟩ := R.own i d e
        rw [hv] at h1; cases h1
        exact ⟨d, h3.rn h2.at_, hk⟩
theorem Rl.drop (R : Rl K W P G σ H) (i : Nat) : Rl K W P (gset G i none) σ H := by
  refine ⟨by rw [gset_len]; exact R.len, R.le, R.src, R.prot, fun j d e => ?_, fun j d e => ?_, fun j k d e n h1 h2 => ?_, R.pnt, R.ext⟩
  all_goals
    have key : ∀ {j : Nat} {x : SC}, gg (gset G i none) j = some x → gg G j = some x := fun {j x} e => by
      by_cases hj : j = i
      · subst hj
        have hl : j < G.length := by have := gg_lt e; rwa [gset_len] at this
        rw [gg_set_self _ _ _ hl] at e; cases e
      · rwa [gg_set_ne _ _ _ _ hj] at e
  · exact R.dat j d (key e)
  · exact R.own j d (key e)
  · exact R.sep j k d e n (key h1) (key h2)
theorem Rl.mend (R : Rl K W P G σ H) {i : Nat} {d : D} {v : V} (hv : σ[i]? = some (some v)) (r : Rp K W d v) : Rl K W P (gset G i (some (.dat d))) σ H := by
  have key : ∀ {j : Nat} {x : SC}, gg (gset G i (some (.dat d))) j = some x → (j = i ∧ x = .dat d) ∨ (j ≠ i ∧ gg G j = some x) := fun {j x} e => by
    by_cases hj : j = i
    · subst hj
      have hl : j < G.length := by have := gg_lt e; rwa [gset_len] at this
      rw [gg_set_self _ _ _ hl] at e; cases e; exact .inl ⟨rfl, rfl⟩
    · rw [gg_set_ne _ _ _ _ hj] at e; exact .inr ⟨hj, e⟩
  refine ⟨by rw [gset_len]; exact R.len, R.le, R.src, R.prot, fun j x e => ?_, fun j x e => ?_, fun j k x y n h1 h2 => ?_, R.pnt, R.ext⟩
  · rcases key e with ⟨hj, e'⟩ | ⟨_, e'⟩
    · cases e'; subst hj; exact ⟨v, hv, r⟩
    · exact R.dat j x e'
  · rcases key e with ⟨hj, e'⟩ | ⟨_, e'⟩
    · cases e'
    · exact R.own j x e'
  · rcases key h1 with ⟨_, e'⟩ | ⟨_, e1⟩
    · cases e'
    · rcases key h2 with ⟨_, e'⟩ | ⟨_, e2⟩
      · cases e'
      · exact R.sep j k x y n e1 e2
theorem Rl.frz (R : Rl K W P G σ H) {sv : SV} {v : V} (h : RV K W P G σ H sv v) {k : D → Gm → Prop} (hk : frz G sv k) : ∃ W' d G', W.le W' ∧ Rl K W' P G' σ H ∧ Rp K W' d v ∧ k d G' := by
  cases sv with
  | dat d => exact ⟨W, d, G, .refl W, R, h, hk⟩
  | new d =>
    obtain ⟨p, o, rfl, pr, r, hn⟩ := h
    obtain ⟨W', l, R', r'⟩ := R.freeze pr r hn
    exact ⟨W', d, G, l, R', r', hk⟩
  | bor i =>
    obtain ⟨hv, _⟩ := h
    have hk : (match gg G i with | some (.own d) => k d (gset G i (some (.dat d))) | some (.dat d) => k d G | none => False) := hk
    cases e : gg G i with
    | none => rw [e] at hk; exact hk.elim
    | some x =>
      rw [e] at hk
      cases x with
      | dat d =>
        obtain ⟨w, h1, h2⟩ := R.dat i d e
        rw [hv] at h1; cases h1
        exact ⟨W, d, G, .refl W, R, h2, hk⟩
      | own d =>
        obtain ⟨p, o, h1, h2, h3⟩ := R.own i d e
        rw [hv] at h1; cases h1
        have R1 := R.drop i
        have hi : i < G.length := gg_lt e
        obtain ⟨W', l, R', r'⟩ := R1.freeze h2 h3 fun j x ej hj => by
          by_cases hji : j = i
          · subst hji; rw [gg_set_self _ _ _ hi] at ej; cases ej
          · rw [gg_set_ne _ _ _ _ hji] at ej
            exact R.sep j i x d hji ej e (hj.trans hv.symm)
        have R2 := R'.mend hv r'
        rw [gset_gset] at R2
        exact ⟨W', d, _, l, R2, r', hk⟩
theorem Rl.alloc (R : Rl K W P G σ H) {p : Addr} {o : HO} {d : D} (hp : H p = none) (r : RO K W p o d) : Rl K W P G σ (upd H p o) ∧ RV K W P G σ (upd H p o) (.new d) (.ref p) := by
  have nF : W.F p = none := by
    cases e : W.F p with
    | none => rfl
    | some u => rw [R.le _ _ e] at hp; cases hp
  have nS : ¬ W.S p := fun h => by
    obtain ⟨_, _, h3⟩ := R.src p h
    obtain ⟨o, e, _⟩ := h3.obj
    rw [hp] at e; cases e
  have nP : P p = none := by
    cases e : P p with
    | none => rfl
    | some u => rw [(R.prot _ _ e).1] at hp; cases hp
  have old : ∀ b u, H b = some u → upd H p o b = some u := fun b u e => by rw [upd_ne (ne_of_none e hp)]; exact e
  refine ⟨⟨R.len, fun b u e => old b u (R.le b u e), fun a h => ?_, fun q u e => ?_, R.dat, fun i x e => ?_, R.sep, R.pnt, R.ext⟩, p, o, rfl, ⟨upd_same, nF, nS, nP⟩, r, fun i e h1 h2 => ?_⟩
  · obtain ⟨h1, h2, h3⟩ := R.src a h
    exact ⟨h1, h2, h3.same (.refl W) h (old _)⟩
  · obtain ⟨h1, h2⟩ := R.prot q u e
    exact ⟨old _ _ h1, h2⟩
  · obtain ⟨q, u, h1, h2, h3⟩ := R.own i x e
    exact ⟨q, u, h1, ⟨old _ _ h2.at_, h2.f, h2.s, h2.n⟩, h3⟩
  · obtain ⟨q, u, h3, h4, _⟩ := R.own i e h1
    rw [h2] at h3; cases h3
    have q := h4.at_
    rw [hp] at q; cases q
theorem Rl.allocT (R : Rl K W P G σ H) {p : Addr} {xs : List V} {ds : List D} (hp : H p = none) (r : RpL K W ds xs) : ∃ W', W.le W' ∧ Rl K W' P G σ (upd H p (.tup xs)) ∧ Rp K W' (.tup ds) (.ref p) := by
  have nF : W.F p = none := by
    cases e : W.F p with
    | none => rfl
    | some u => rw [R.le _ _ e] at hp; cases hp
  have nS : ¬ W.S p := fun h => by
    obtain ⟨_, _, h3⟩ := R.src p h
    obtain ⟨o, e, _⟩ := h3.obj
    rw [hp] at e; cases e
  have nP : P p = none := by
    cases e : P p with
    | none => rfl
    | some u => rw [(R.prot _ _ e).1] at hp; cases hp
  have old : ∀ b u, H b = some u → upd H p (.tup xs) b = some u := fun b u e => by rw [upd_ne (ne_of_none e hp)]; exact e
  have l : W.le ⟨upd W.F p (.tup xs), W.S, W.T⟩ := ⟨fun b u e => by
    show upd W.F p _ b = _
    rw [upd_ne (ne_of_none e nF)]; exact e, fun _ h => h, fun _ _ => Iff.rfl⟩
  refine ⟨⟨upd W.F p (.tup xs), W.S, W.T⟩, l, ⟨R.len, fun b u e => ?_, fun a h => ?_, fun q u e => ?_, fun i x e => ?_, fun i x e => ?_, R.sep, R.pnt, R.ext⟩, p, xs, rfl, upd_same, RpL.mono l _ _ r⟩
  · have e : upd W.F p (.tup xs) b = some u := e
    by_cases hb : b = p
    · subst hb; rw [upd_same] at e ⊢; exact e
    · rw [upd_ne hb] at e ⊢; exact R.le b u e
  · obtain ⟨h1, h2, h3⟩ := R.src a h
    refine ⟨?_, h2, h3.same l h (old _)⟩
    show upd W.F p _ a = none
    rw [upd_ne (show a ≠ p from fun q => nS (by rw [← q]; exact h))]; exact h1
  · obtain ⟨h1, h2⟩ := R.prot q u e
    refine ⟨old _ _ h1, ?_⟩
    show upd W.F p _ q = none
    rw [upd_ne (ne_of_none h1 hp)]; exact h2
  · obtain ⟨v, h1, h2⟩ := R.dat i x e
    exact ⟨v, h1, Rp.mono l _ _ h2⟩
  · obtain ⟨q, u, h1, h2, h3⟩ := R.own i x e
    refine ⟨q, u, h1, ⟨old _ _ h2.at_, ?_, h2.s, h2.n⟩, h3.mono l⟩
    show upd W.F p _ q = none
    rw [upd_ne (ne_of_none h2.at_ hp)]; exact h2.f
end
mutual
def toPy : D → PyData
  | .bl b => .bool b
  | .int i => .int i
  | .str x => .str x
  | .tup ds => .tuple (toPys ds)
  | .lst ds => .list (toPys ds)
  | .dK es => .dict (toKv es)
  | .scr ns => .list (ns.map PyData.int)
  | _ => .none
def toPys : List D → List PyData
  | [] => []
  | d :: ds => toPy d :: toPys ds
def toKv : List (Key × D) → List (PyData × PyData)
  | [] => []
  | (k, d) :: es => ((match k with | .inl i => PyData.int i | .inr x => PyData.str x), toPy d) :: toKv es
end
def Pd : Nat → D → Prop
  | 0, d => match d with
    | .non => True
    | .bl _ => True
    | .int _ => True
    | .str _ => True
    | _ => False
  | n + 1, d => match d with
    | .non => True
    | .bl _ => True
    | .int _ => True
    | .str _ => True
    | .tup ds => ∀ d ∈ ds, Pd n d
    | .lst ds => ∀ d ∈ ds, Pd n d
    | .dK es => ∀ e ∈ es, Pd n e.2
    | _ => False
def Pl : Nat → D → Prop
  | 0, d => match d with
    | .non => True
    | .bl _ => True
    | .int _ => True
    | .str x => PyData.strOk x = true
    | _ => False
  | n + 1, d => match d with
    | .non => True
    | .bl _ => True
    | .int _ => True
    | .str x => PyData.strOk x = true
    | .tup ds => ∀ d ∈ ds, Pl n d
    | .lst ds => ∀ d ∈ ds, Pl n d
    | .scr _ => True
    | _ => False
theorem toPys_map : ∀ ds : List D, toPys ds = ds.map toPy
  | [] => rfl
  | d :: ds => by rw [toPys, toPys_map ds]; rfl
section
variable {K : PySem.W.Frag} {W : Wd} {H : Hp}
theorem dp_all : ∀ {ds : List D} {xs : List V}, (∀ d ∈ ds, ∀ v, Rp K ⟨H, W.S, W.T⟩ d v → Dp K H v (toPy d)) → RpL K ⟨H, W.S, W.T⟩ ds xs → DpAll K H xs (toPys ds)
  | [], _, _, h => by
    have h : _ = [] := h
    subst h; exact .nil
  | d :: ds, _, f, h => by
    obtain ⟨v, r, e, h1, h2⟩ := h
    subst e
    exact .cons (f d List.mem_cons_self v h1) (dp_all (fun x hx => f x (List.mem_cons_of_mem _ hx)) h2)
theorem toPys_ints (ns : List Int) : toPys (ns.map D.int) = ns.map PyData.int := by
  rw [toPys_map, List.map_map]
  exact List.map_congr_left fun i _ => by rw [Function.comp, toPy]
theorem RpL.ofInts {W : Wd} : ∀ (ns : List Int), RpL K W (ns.map D.int) (ns.map V.int)
  | [] => rfl
  | n :: ns => ⟨.int n, _, rfl, rfl, RpL.ofInts ns⟩
theorem Pl.dp {n : Nat} : ∀ {d : D} {v : V}, Pl n d → Rp K ⟨H, W.S, W.T⟩ d v → Dp K H v (toPy d) := by
  induction n with
  | zero =>
    intro d v p h
    cases d with
    | non => obtain rfl : v = .non := h; exact .non
    | bl b => obtain rfl : v = .bl b := h; exact .bl b
    | int b => obtain rfl : v = .int b := h; exact .int b
    | str b => obtain rfl : v = .str b := h; exact .str b
    | _ => exact False.elim p
  | succ n ih =>
    intro d v p h
    cases d with
    | non => obtain rfl : v = .non := h; exact .non
    | bl b => obtain rfl : v = .bl b := h; exact .bl b
    | int b => obtain rfl : v = .int b := h; exact .int b
    | str b => obtain rfl : v = .str b := h; exact .str b
    | tup ds =>
      obtain ⟨a, xs, rfl, s, r⟩ := h
      exact .tup (.of s) (dp_all (fun d hd v h => ih (p d hd) h) r)
    | lst ds =>
      obtain ⟨a, xs, rfl, s, r⟩ := h
      exact .lst (.inl (.inl s)) (dp_all (fun d hd v h => ih (p d hd) h) r)
    | scr ns =>
      obtain ⟨a, rfl, s⟩ := h
      rw [toPy, ← toPys_ints]
      exact .lst s (dp_all (W := W) (fun d hd v h => by obtain ⟨i, _, rfl⟩ := List.mem_map.mp hd; obtain rfl : v = .int i := h; exact .int i) (RpL.ofInts ns))
    | _ => exact False.elim p
theorem lay_all : ∀ {ds : List D}, (∀ d ∈ ds, (toPy d).canLay0 = true) → PyData.canLayAll0 (toPys ds) = true
  | [], _ => by simp [toPys, PyData.canLayAll0]
  | d :: ds, f => by
    simp only [toPys, PyData.canLayAll0, Bool.and_eq_true]
    exact ⟨f d List.mem_cons_self, lay_all fun x hx => f x (List.mem_cons_of_mem _ hx)⟩
theorem Pl.lay {n : Nat} : ∀ {d : D}, Pl n d → (toPy d).canLay0 = true := by
  induction n with
  | zero => intro d p; cases d <;> first | exact False.elim p | (simp [toPy, PyData.canLay0]; done) | (simp only [toPy, PyData.canLay0]; exact p)
  | succ n ih =>
    intro d p
    cases d <;> first
      | exact False.elim p
      | (simp [toPy, PyData.canLay0]; done)
      | (simp only [toPy, PyData.canLay0]; exact p)
      | (simp only [toPy, PyData.canLay0]; exact lay_all fun d hd => ih (p d hd))
      | (rw [toPy, ← toPys_ints]; simp only [PyData.canLay0]; exact lay_all fun d hd => by obtain ⟨i, _, rfl⟩ := List.mem_map.mp hd; simp [toPy, PyData.canLay0])
theorem depth_all {n : Nat} : ∀ {ds : List D}, (∀ d ∈ ds, (toPy d).depth ≤ n) → PyData.depthAll (toPys ds) ≤ n
  | [], _ => by simp [toPys, PyData.depthAll]
  | d :: ds, f => by
    have h1 := f d List.mem_cons_self
    have h2 := depth_all (n := n) fun x hx => f x (List.mem_cons_of_mem _ hx)
    simp only [toPys, PyData.depthAll]
    omega
theorem Pl.depth {n : Nat} : ∀ {d : D}, Pl n d → (toPy d).depth ≤ n + 1 := by
  induction n with
  | zero => intro d p; cases d <;> first | exact False.elim p | simp [toPy, PyData.depth]
  | succ n ih =>
    intro d p
    cases d with
    | tup ds =>
      have := depth_all (n := n + 1) fun d hd => ih (p d hd)
      simp only [toPy, PyData.depth]; omega
    | lst ds =>
      have := depth_all (n := n + 1) fun d hd => ih (p d hd)
      simp only [toPy, PyData.depth]; omega
    | scr ns =>
      have := depth_all (n := 1) (ds := ns.map D.int) fun d hd => by obtain ⟨i, _, rfl⟩ := List.mem_map.mp hd; simp [toPy, PyData.depth]
      rw [toPy, ← toPys_ints]
      simp only [PyData.depth]
      omega
    | _ => first | exact False.elim p | simp [toPy, PyData.depth]
theorem Pl.shaped {n : Nat} {d : D} (h : Pl n d) (hn : n ≤ 60) : SeqAt.shaped (toPy d) = true := by
  unfold SeqAt.shaped
  rw [h.lay, Bool.true_and, decide_eq_true_eq]
  have := h.depth
  omega
end
theorem OpR.imp {X : Cx} {f : Value → Value → Sem Value} {r r' : R2} (h : OpR X f r) (i : ∀ x y H Q, r' x y H Q → r x y H Q) : OpR X f r' :=
  fun pins s σ H x y v u Q I rx ry q => h pins s σ H x y v u Q I rx ry (i x y H Q q)
theorem UnR.imp {X : Cx} {f : Value → Sem Value} {r r' : V → Hp → VK → Prop} (h : UnR X f r) (i : ∀ x H Q, r' x H Q → r x H Q) : UnR X f r' :=
  fun pins s σ H x v Q I rx q => h pins s σ H x v Q I rx (i x H Q q)
theorem CallR.imp {X : Cx} {f : Value} {r r' : List V → Hp → VK → Prop} (h : CallR X f r) (i : ∀ x H Q, r' x H Q → r x H Q) : CallR X f r' :=
  fun pins s σ H x v Q I rx q => h pins s σ H x v Q I rx (i x H Q q)
abbrev D2 := D → D → (SV → Prop) → Prop
abbrev D1 := D → (SV → Prop) → Prop
def Rs (K : PySem.W.Frag) (W : Wd) (P : Hp) (G : Gm) (σ : St) (Q : SV → Prop) (Qv : VK) : Prop :=
  ∀ W' sv v H', W.le W' → Rl K W' P G σ H' → RV K W' P G σ H' sv v → Q sv → Qv v H'
def canO (K : PySem.W.Frag) (t : D2) : R2 := fun x y H Qv => ∃ W P G σ a b Q, Rl K W P G σ H ∧ RN K W H a x ∧ RN K W H b y ∧ t a b Q ∧ Rs K W P G σ Q Qv
def canU (K : PySem.W.Frag) (t : D1) : V → Hp → VK → Prop := fun x H Qv => ∃ W P G σ a Q, Rl K W P G σ H ∧ RN K W H a x ∧ t a Q ∧ Rs K W P G σ Q Qv
section
variable {X : Cx} {K : PySem.W.Frag} {W : Wd} {P : Hp} {G : Gm} {σ : St} {H : Hp}
theorem Rs.dat {Q : SV → Prop} {Qv : VK} (r : Rs K W P G σ Q Qv) (R : Rl K W P G σ H) {d : D} {v : V} (h : Rp K W d v) (q : Q (.dat d)) : Qv v H := r W (.dat d) v H (.refl W) R h q
theorem Rs.int {Q : SV → Prop} {Qv : VK} (r : Rs K W P G σ Q Qv) (R : Rl K W P G σ H) {i : Int} (q : Q (.dat (.int i))) : Qv (.int i) H := r.dat R (d := .int i) rfl q
theorem Rs.bl {Q : SV → Prop} {Qv : VK} (r : Rs K W P G σ Q Qv) (R : Rl K W P G σ H) {i : Bool} (q : Q (.dat (.bl i))) : Qv (.bl i) H := r.dat R (d := .bl i) rfl q
theorem Rs.str {Q : SV → Prop} {Qv : VK} (r : Rs K W P G σ Q Qv) (R : Rl K W P G σ H) {i : Str} (q : Q (.dat (.str i))) : Qv (.str i) H := r.dat R (d := .str i) rfl q
theorem Rs.new {Q : SV → Prop} {Qv : VK} (r : Rs K W P G σ Q Qv) (R : Rl K W P G σ H) {d : D} {o : HO} {p : Addr} (hp : H p = none) (h : RO K W p o d) (q : Q (.new d)) : Qv (.ref p) (upd H p o) :=
  r W (.new d) _ _ (.refl W) (R.alloc hp h).1 (R.alloc hp h).2 q
theorem Rs.newT {Q : SV → Prop} {Qv : VK} (r : Rs K W P G σ Q Qv) (R : Rl K W P G σ H) {ds : List D} {xs : List V} {p : Addr} (hp : H p = none) (h : RpL K W ds xs) (q : Q (.dat (.tup ds))) : Qv (.ref p) (upd H p (.tup xs)) := by
  obtain ⟨W', l, R', r'⟩ := R.allocT hp h
  exact r W' (.dat (.tup ds)) _ _ l R' r' q
theorem RpL.append : ∀ {a b : List D} {x y : List V}, RpL K W a x → RpL K W b y → RpL K W (a ++ b) (x ++ y)
  | [], _, _, _, h, g => by obtain rfl : _ = [] := h; exact g
  | d :: ds, _, _, _, h, g => by
    obtain ⟨v, r, rfl, h1, h2⟩ := h
    exact ⟨v, r ++ _, rfl, h1, RpL.append h2 g⟩
theorem RpL.length : ∀ {a : List D} {x : List V}, RpL K W a x → x.length = a.length
  | [], _, h => by obtain rfl : _ = [] := h; rfl
  | d :: ds, _, h => by obtain ⟨v, r, rfl, h1, h2⟩ := h; exact congrArg Nat.succ (RpL.length h2)
theorem RpL.get : ∀ {a : List D} {x : List V} {i : Nat} {d : D}, RpL K W a x → a[i]? = some d → ∃ v, x[i]? = some v ∧ Rp K W d v
  | d :: ds, _, 0, _, h, e => by
    obtain ⟨v, r, rfl, h1, h2⟩ := h
    cases e
    exact ⟨v, rfl, h1⟩
  | d :: ds, _, i + 1, _, h, e => by
    obtain ⟨v, r, rfl, h1, h2⟩ := h
    obtain ⟨w, e1, e2⟩ := RpL.get (i := i) h2 e
    exact ⟨w, e1, e2⟩
theorem RpL.drop : ∀ {a : List D} {x : List V} (n : Nat), RpL K W a x → RpL K W (a.drop n) (x.drop n)
  | _, _, 0, h => h
  | [], _, n + 1, h => by obtain rfl : _ = [] := h; exact rfl
  | d :: ds, _, n + 1, h => by obtain ⟨v, r, rfl, h1, h2⟩ := h; exact RpL.drop n h2
theorem RpL.take : ∀ {a : List D} {x : List V} (n : Nat), RpL K W a x → RpL K W (a.take n) (x.take n)
  | _, _, 0, h => rfl
  | [], _, n + 1, h => by obtain rfl : _ = [] := h; exact rfl
  | d :: ds, _, n + 1, h => by obtain ⟨v, r, rfl, h1, h2⟩ := h; exact ⟨v, r.take n, rfl, h1, RpL.take n h2⟩
theorem RpL.ints : ∀ {ns : List Int} {x : List V}, RpL K W (ns.map D.int) x → x = ns.map V.int
  | [], _, h => h
  | n :: ns, _, h => by obtain ⟨v, r, rfl, h1, h2⟩ := h; obtain rfl : v = .int n := h1; rw [RpL.ints h2]; rfl
theorem RpL.bls : ∀ {ns : List Bool} {x : List V}, RpL K W (ns.map D.bl) x → x = ns.map V.bl
  | [], _, h => h
  | n :: ns, _, h => by obtain ⟨v, r, rfl, h1, h2⟩ := h; obtain rfl : v = .bl n := h1; rw [RpL.bls h2]; rfl
theorem RpL.rep : ∀ (n : Nat) {a : List D} {x : List V}, RpL K W a x → RpL K W (List.replicate n a).flatten (List.replicate n x).flatten
  | 0, _, _, _ => rfl
  | n + 1, _, _, h => by
    rw [List.replicate_succ, List.replicate_succ, List.flatten_cons, List.flatten_cons]
    exact RpL.append h (RpL.rep n h)
def dAdd : D2
  | .int i, .int j, Q => Q (.dat (.int (i + j)))
  | .int i, .bl k, Q => Q (.dat (.int (i + b2i k)))
  | .str x, .str y, Q => x.length + y.length ≤ sizeLine ∧ Q (.dat (.str (x ++ y)))
  | .lst a, .lst b, Q => a.length + b.length ≤ sizeLine ∧ Q (.new (.lst (a ++ b)))
  | .scr ns, .lst b, Q => ns.length + b.length ≤ sizeLine ∧ Q (.new (.lst (ns.map D.int ++ b)))
  | .tup a, .tup b, Q => a ≠ [] ∧ b ≠ [] ∧ a.length + b.length ≤ sizeLine ∧ Q (.dat (.tup (a ++ b)))
  | _, _, _ => False
def rCatL (K : PySem.W.Frag) : R2 := fun x y H Q => ∃ l b xs zs, x = .ref l ∧ y = .ref b ∧ SqL K H l xs ∧ SqL K H b zs ∧ xs.length + zs.length ≤ sizeLine ∧ ∀ p, H p = none → Q (.ref p) (upd H p (.lst (xs ++ zs)))
theorem op_catL : OpR X (binaryOp .Add) (rCatL X.K) := by
  intro pins s σ H x y v u Q I rx ry ⟨l, b, xs, zs, e1, e2, h1, h2, hz, q⟩
  subst e1 e2
  cases rx
  cases ry
  obtain ⟨its, r, o1, _⟩ := I.list h1
  obtain ⟨its2, r2, o2, _⟩ := I.list h2
  have hl := r.length
  have hl2 := r2.length
  obtain ⟨⟨c1, d1, data1, sl1⟩, n1, g1, k1, j1, q1⟩ := o1
  obtain ⟨⟨c2, d2, data2, sl2⟩, n2, g2, k2, j2, q2⟩ := o2
  simp only at k1 j1 q1 k2 j2 q2
  subst k1 j1 q1 k2 j2 q2
  have hsz : its.toArray.size + its2.toArray.size ≤ sizeLine := by rw [List.size_toArray, List.size_toArray]; omega
  refine concat_meets ⟨_, g1, rfl⟩ ⟨_, g2, rfl⟩ noFill_list_add seq_list_add PySem.F.slot_list_add PySem.F.entry_list_add (PySem.F.args_list_add_2 _ _)
    (list_addW l b _ _ n1 n2 none none sl1 sl2 hsz) ⟨g1, g2, ?_⟩
  rw [show its.toArray ++ its2.toArray = (its ++ its2).toArray by simp]
  exact ⟨.ref _, _, I.lnew (t' := s.toks) (r.append r2) (by rw [List.length_append]; omega), rfl, q _ I.fresh⟩
theorem od_add : OpR X (binaryOp .Add) (canO X.K dAdd) := by
  refine OpR.imp (OpR.or (OpR.or (OpR.or op_add op_add_ib) op_add_str) (OpR.or op_catL op_catT)) ?_
  rintro x y H Qv ⟨W, P, G, σ, a, b, Q, R, ha, hb, t, r⟩
  cases a with
  | int i =>
    obtain rfl : x = .int i := ha
    cases b with
    | int j => obtain rfl : y = .int j := hb; exact .inl (.inl (.inl ⟨i, j, rfl, rfl, r.int R t⟩))
    | bl j => obtain rfl : y = .bl j := hb; exact .inl (.inl (.inr ⟨i, j, rfl, rfl, r.int R t⟩))
    | _ => exact False.elim t
  | str i =>
    obtain rfl : x = .str i := ha
    cases b with
    | str j => obtain rfl : y = .str j := hb; exact .inl (.inr ⟨i, j, rfl, rfl, t.1, r.str R t.2⟩)
    | _ => exact False.elim t
  | lst i =>
    obtain ⟨p, xs, rfl, s1, r1⟩ := ha
    cases b with
    | lst j =>
      obtain ⟨q, ys, rfl, s2, r2⟩ := hb
      obtain ⟨hl, t⟩ := t
      exact .inr (.inl ⟨p, q, xs, ys, rfl, rfl, .of s1, .of s2, by rw [r1.length, r2.length]; exact hl, fun z hz => r.new R hz (d := .lst (i ++ j)) (o := .lst _) (RpL.append r1 r2) t⟩)
    | _ => exact False.elim t
  | scr i =>
    obtain ⟨p, rfl, s1⟩ := ha
    cases b with
    | lst j =>
      obtain ⟨q, ys, rfl, s2, r2⟩ := hb
      obtain ⟨hl, t⟩ := t
      exact .inr (.inl ⟨p, q, _, ys, rfl, rfl, s1, .of s2, by rw [List.length_map, r2.length]; exact hl, fun z hz => r.new R hz (d := .lst (i.map D.int ++ j)) (o := .lst _) (RpL.append (RpL.ofInts i) r2) t⟩)
    | _ => exact False.elim t
  | tup i =>
    obtain ⟨p, xs, rfl, s1, r1⟩ := ha
    cases b with
    | tup j =>
      obtain ⟨q, ys, rfl, s2, r2⟩ := hb
      obtain ⟨hn, hn2, hl, t⟩ := t
      have l1 := r1.length
      have l2 := r2.length
      refine .inr (.inr ⟨p, q, xs, ys, rfl, rfl, .of s1, .of s2, fun e => ?_, by rw [r1.length, r2.length]; exact hl, fun e => ?_, fun _ z hz => r.newT R hz (r1.append r2) t⟩)
      · subst e; exact hn (List.length_eq_zero_iff.mp l1.symm)
      · subst e; exact absurd (List.length_eq_zero_iff.mp l2.symm) hn2
    | _ => exact False.elim t
  | _ => exact False.elim t
def dSub : D2
  | .int i, .int j, Q => Q (.dat (.int (i - j)))
  | _, _, _ => False
theorem od_sub : OpR X (binaryOp .Sub) (canO X.K dSub) := by
  refine OpR.imp (op_sub (X := X)) ?_
  rintro x y H Qv ⟨W, P, G, σ, a, b, Q, R, ha, hb, t, r⟩
  cases a <;> first | exact False.elim t | skip
  rename_i i
  obtain rfl : x = .int i := ha
  cases b <;> first | exact False.elim t | skip
  rename_i j
  obtain rfl : y = .int j := hb
  exact ⟨i, j, rfl, rfl, r.int R t⟩
def dMul : D2
  | .int i, .int j, Q => CMulW i j ∧ Q (.dat (.int (i * j)))
  | .lst a, .int k, Q => k < 2 ^ 62 ∧ -(2 ^ 62) < k ∧ a.length * k.toNat ≤ sizeLine ∧ Q (.new (.lst (List.replicate k.toNat a).flatten))
  | .str a, .int k, Q => False
  | _, _, _ => False
theorem od_mul : OpR X (binaryOp .Mult) (canO X.K dMul) := by
  refine OpR.imp (OpR.or (op_mulW (X := X)) op_rep) ?_
  rintro x y H Qv ⟨W, P, G, σ, a, b, Q, R, ha, hb, t, r⟩
  cases a <;> first | exact False.elim t | skip
  · rename_i i
    obtain rfl : x = .int i := ha
    cases b <;> first | exact False.elim t | skip
    rename_i j
    obtain rfl : y = .int j := hb
    exact .inl ⟨i, j, rfl, rfl, t.1, r.int R t.2⟩
  · cases b <;> exact False.elim t
  · rename_i i
    obtain ⟨p, xs, rfl, s1, r1⟩ := ha
    cases b <;> first | exact False.elim t | skip
    rename_i j
    obtain rfl : y = .int j := hb
    obtain ⟨h1, h2, h3, t⟩ := t
    exact .inr ⟨p, j, xs, rfl, rfl, s1, by omega, by omega, by rw [r1.length]; exact h3, fun z hz => r.new R hz (d := .lst _) (o := .lst _) (RpL.rep _ r1) t⟩
def dFdv : D2
  | .int i, .int j, Q => j ≠ 0 ∧ j.natAbs.log2 < 9000 ∧ Q (.dat (.int (i.fdiv j)))
  | _, _, _ => False
theorem od_fdv : OpR X (binaryOp .FloorDiv) (canO X.K dFdv) := by
  refine OpR.imp (opI (C := fun _ j => j ≠ 0 ∧ j.natAbs.log2 < 9000) (g := fun i j => i.fdiv j) fun i j t u s Q E hc q => floordiv_int hc.1 q (.inl (PyProof.noPylong_of_log2 hc.2))) ?_
  rintro x y H Qv ⟨W, P, G, σ, a, b, Q, R, ha, hb, t, r⟩
  cases a <;> first | exact False.elim t | skip
  rename_i i
  obtain rfl : x = .int i := ha
  cases b <;> first | exact False.elim t | skip
  rename_i j
  obtain rfl : y = .int j := hb
  exact ⟨i, j, rfl, rfl, ⟨t.1, t.2.1⟩, r.int R t.2.2⟩
def dMod : D2
  | .int i, .int j, Q => j ≠ 0 ∧ Q (.dat (.int (i.fmod j)))
  | _, _, _ => False
theorem od_mod : OpR X (binaryOp .Mod) (canO X.K dMod) := by
  refine OpR.imp (op_modN (X := X)) ?_
  rintro x y H Qv ⟨W, P, G, σ, a, b, Q, R, ha, hb, t, r⟩
  cases a <;> first | exact False.elim t | skip
  rename_i i
  obtain rfl : x = .int i := ha
  cases b <;> first | exact False.elim t | skip
  rename_i j
  obtain rfl : y = .int j := hb
  exact ⟨i, j, rfl, rfl, t.1, r.int R t.2⟩
def dPow : D2
  | .int i, .int j, Q => 0 ≤ j ∧ (Builtin.Int.intBits i : Int) * j ≤ 2 ^ 27 ∧ Q (.dat (.int (i ^ j.toNat)))
  | _, _, _ => False
theorem od_pow : OpR X (binaryOp .Pow) (canO X.K dPow) := by
  refine OpR.imp (opI (C := fun i j => 0 ≤ j ∧ (Builtin.Int.intBits i : Int) * j ≤ 2 ^ 27) (g := fun i j => i ^ j.toNat) fun i j t u s Q E hc q => pow_int hc.1 hc.2 q) ?_
  rintro x y H Qv ⟨W, P, G, σ, a, b, Q, R, ha, hb, t, r⟩
  cases a <;> first | exact False.elim t | skip
  rename_i i
  obtain rfl : x = .int i := ha
  cases b <;> first | exact False.elim t | skip
  rename_i j
  obtain rfl : y = .int j := hb
  exact ⟨i, j, rfl, rfl, ⟨t.1, t.2.1⟩, r.int R t.2.2⟩
def dNeg : D1
  | .int i, Q => Q (.dat (.int (-i)))
  | _, _ => False
theorem ud_neg : UnR X (unaryOp .USub) (canU X.K dNeg) := by
  refine UnR.imp (un_neg (X := X)) ?_
  rintro x H Qv ⟨W, P, G, σ, a, Q, R, ha, t, r⟩
  cases a <;> first | exact False.elim t | skip
  rename_i i
  obtain rfl : x = .int i := ha
  exact ⟨i, rfl, r.int R t⟩
def dCmp (p : Int → Int → Bool) : D2
  | .int i, .int j, Q => Q (.dat (.bl (p i j)))
  | _, _, _ => False
theorem od_cmp {f : Value → Value → Sem Value} {p : Int → Int → Bool} (h : OpR X f (rI0 fun i j => .bl (p i j))) : OpR X f (canO X.K (dCmp p)) := by
  refine OpR.imp h ?_
  rintro x y H Qv ⟨W, P, G, σ, a, b, Q, R, ha, hb, t, r⟩
  cases a <;> first | exact False.elim t | skip
  rename_i i
  obtain rfl : x = .int i := ha
  cases b <;> first | exact False.elim t | skip
  rename_i j
  obtain rfl : y = .int j := hb
  exact ⟨i, j, rfl, rfl, r.bl R t⟩
abbrev dLt := dCmp fun i j => decide (i < j)
abbrev dLe := dCmp fun i j => decide (i ≤ j)
abbrev dGt := dCmp fun i j => decide (j < i)
abbrev dGe := dCmp fun i j => decide (j ≤ i)
theorem od_lt : OpR X (compareOp .Lt) (canO X.K dLt) := od_cmp op_lt
theorem od_le : OpR X (compareOp .LtE) (canO X.K dLe) := od_cmp op_le
theorem od_gt : OpR X (compareOp .Gt) (canO X.K dGt) := od_cmp op_gt
theorem od_ge : OpR X (compareOp .GtE) (canO X.K dGe) := od_cmp op_ge
def eqD (a b : D) : Bool := PyData.eqv (toPy a) (toPy b)
def strsD (a b : D) : Option (Str × Str) := match a with
  | .str x => match b with
    | .str y => some (x, y)
    | _ => none
  | _ => none
theorem strsD_of {a b : D} {p : Str × Str} (h : strsD a b = some p) : a = .str p.1 ∧ b = .str p.2 := by
  unfold strsD at h
  split at h
  · split at h
    · cases h; exact ⟨rfl, rfl⟩
    · cases h
  · cases h
def eqQ (a b : D) (k : Bool → Prop) : Prop := match strsD a b with
  | some p => k (decide (p.1 = p.2))
  | none => Pl 20 a ∧ Pl 20 b ∧ k (eqD a b)
def dEq : D2 := fun a b Q => eqQ a b fun c => Q (.dat (.bl c))
def dNe : D2 := fun a b Q => eqQ a b fun c => Q (.dat (.bl (!c)))
theorem dec_vstr {x y : Str} : decide (V.str x = V.str y) = decide (x = y) := by
  by_cases h : x = y
  · subst h; simp
  · rw [decide_eq_false h, decide_eq_false fun z => h (V.str.inj z)]
theorem od_eq (hu : X.A.units + 64 < cLine) : OpR X (compareOp .Eq) (canO X.K dEq) := by
  refine OpR.imp (OpR.or (op_eqD hu) (op_eq (X := X))) ?_
  rintro x y H Qv ⟨W, P, G, σ, a, b, Q, R, ha, hb, t, r⟩
  have t : eqQ a b fun c => Q (.dat (.bl c)) := t
  unfold eqQ at t
  split at t
  · rename_i p e
    obtain ⟨rfl, rfl⟩ := strsD_of e
    obtain rfl : x = .str p.1 := ha
    obtain rfl : y = .str p.2 := hb
    exact .inr ⟨rfl, by rw [dec_vstr]; exact r.bl R t⟩
  · obtain ⟨pa, pb, t⟩ := t
    exact .inl ⟨_, _, pa.dp (W := W) (R.rnow ha), pb.dp (W := W) (R.rnow hb), pa.shaped (by decide), pb.shaped (by decide), r.bl R t⟩
theorem od_ne (hu : X.A.units + 64 < cLine) : OpR X (compareOp .NotEq) (canO X.K dNe) := by
  refine OpR.imp (OpR.or (op_neD hu) (op_ne (X := X))) ?_
  rintro x y H Qv ⟨W, P, G, σ, a, b, Q, R, ha, hb, t, r⟩
  have t : eqQ a b fun c => Q (.dat (.bl (!c))) := t
  unfold eqQ at t
  split at t
  · rename_i p e
    obtain ⟨rfl, rfl⟩ := strsD_of e
    obtain rfl : x = .str p.1 := ha
    obtain rfl : y = .str p.2 := hb
    exact .inr ⟨rfl, by rw [dec_vstr]; exact r.bl R t⟩
  · obtain ⟨pa, pb, t⟩ := t
    exact .inl ⟨_, _, pa.dp (W := W) (R.rnow ha), pb.dp (W := W) (R.rnow hb), pa.shaped (by decide), pb.shaped (by decide), r.bl R t⟩
def isNon : D → Bool
  | .non => true
  | _ => false
theorem isNon_iff {d : D} {v : V} (h : RN K W H d v) : decide (v = .non) = isNon d := by
  cases d with
  | non => obtain rfl : v = .non := h; rfl
  | bl b => obtain rfl : v = .bl b := h; rfl
  | int b => obtain rfl : v = .int b := h; rfl
  | str b => obtain rfl : v = .str b := h; rfl
  | ty b => obtain rfl : v = .ty b := h; rfl
  | ref b => obtain rfl : v = .ref b := h; rfl
  | src => obtain ⟨a, rfl, _⟩ := h; rfl
  | scr _ => obtain ⟨a, rfl, _⟩ := h; rfl
  | mob b => obtain ⟨rfl, _⟩ := h; rfl
  | err b c => obtain ⟨rfl, _⟩ := h; rfl
  | lkd _ _ => exact h.elim
  | tup _ => obtain ⟨a, _, rfl, _⟩ := h; rfl
  | lst _ => obtain ⟨a, _, rfl, _⟩ := h; rfl
  | dT _ => obtain ⟨a, _, rfl, _⟩ := h; rfl
  | dK _ => obtain ⟨a, _, rfl, _⟩ := h; rfl
  | ins _ _ _ => obtain ⟨rfl, _⟩ := h; rfl
  | exc _ _ _ _ => obtain ⟨rfl, _⟩ := h; rfl
def dIs : D2 := fun a b Q => match b with
  | .non => Q (.dat (.bl (isNon a)))
  | .bl y => match a with
    | .bl x => Q (.dat (.bl (decide (x = y))))
    | _ => False
  | _ => False
def dIsn : D2 := fun a b Q => match b with
  | .non => Q (.dat (.bl (!isNon a)))
  | .bl y => match a with
    | .bl x => Q (.dat (.bl (!decide (x = y))))
    | _ => False
  | _ => False
theorem od_is : OpR X (compareOp .Is) (canO X.K dIs) := by
  refine OpR.imp (OpR.or (op_isN (X := X)) (op_isBl (X := X))) ?_
  rintro x y H Qv ⟨W, P, G, σ, a, b, Q, R, ha, hb, t, r⟩
  cases b <;> first | exact False.elim t | skip
  · exact .inl ⟨hb, by rw [isNon_iff ha]; exact r.bl R t⟩
  · cases a <;> first | exact False.elim t | skip
    exact .inr ⟨_, _, ha, hb, r.bl R t⟩
theorem od_isn : OpR X (compareOp .IsNot) (canO X.K dIsn) := by
  refine OpR.imp (OpR.or (op_notN (X := X)) (op_notBl (X := X))) ?_
  rintro x y H Qv ⟨W, P, G, σ, a, b, Q, R, ha, hb, t, r⟩
  cases b <;> first | exact False.elim t | skip
  · exact .inl ⟨hb, by rw [isNon_iff ha]; exact r.bl R t⟩
  · cases a <;> first | exact False.elim t | skip
    exact .inr ⟨_, _, ha, hb, r.bl R t⟩
end
section
variable {X : Cx} {K : PySem.W.Frag} {W : Wd} {P : Hp} {G : Gm} {σ : St} {H : Hp}
def flatD : D → Bool
  | .non => true
  | .bl _ => true
  | .int _ => true
  | .str _ => true
  | _ => false
theorem flat_rp {d : D} {v : V} (f : flatD d = true) (h : Rp K W d v) : flatV v = true := by
  cases d <;> first | exact absurd f Bool.false_ne_true | skip
  · obtain rfl : v = .non := h; rfl
  · rename_i b; obtain rfl : v = .bl b := h; rfl
  · rename_i b; obtain rfl : v = .int b := h; rfl
  · rename_i b; obtain rfl : v = .str b := h; rfl
def flV : D → V
  | .bl b => .bl b
  | .int b => .int b
  | .str b => .str b
  | _ => .non
theorem flat_eq {d : D} {v : V} (f : flatD d = true) (h : Rp K W d v) : v = flV d := by
  cases d <;> first | exact absurd f Bool.false_ne_true | exact h
theorem eqV_flat {d e : D} (f : flatD d = true) (g : flatD e = true) : eqV (flV d) (flV e) = eqD d e := by
  cases d <;> first | exact absurd f Bool.false_ne_true | skip
  all_goals
    cases e <;> first | exact absurd g Bool.false_ne_true | skip
  all_goals simp [flV, eqV, eqD, toPy, PyData.eqv]
theorem flats_eq : ∀ {ds : List D} {xs : List V}, (∀ d ∈ ds, flatD d = true) → RpL K W ds xs → xs = ds.map flV
  | [], _, _, h => h
  | d :: ds, _, f, h => by
    obtain ⟨v, r, rfl, h1, h2⟩ := h
    rw [flat_eq (f d List.mem_cons_self) h1, flats_eq (fun x hx => f x (List.mem_cons_of_mem _ hx)) h2]
    rfl
def keyOf : D → Option Key
  | .int i => some (.inl i)
  | .str x => some (.inr x)
  | _ => none
def keysOf : List D → Option (List Key)
  | [] => some []
  | d :: ds => match keyOf d, keysOf ds with
    | some k, some ks => some (k :: ks)
    | _, _ => none
theorem keysOf_eq : ∀ {ds : List D} {ks : List Key} {xs : List V}, keysOf ds = some ks → RpL K W ds xs → xs = ks.map kV
  | [], _, _, e, h => by cases e; exact h
  | d :: ds, ks, _, e, h => by
    obtain ⟨v, r, rfl, h1, h2⟩ := h
    unfold keysOf at e
    split at e
    · rename_i k ks' e1 e2
      cases e
      rw [keysOf_eq e2 h2]
      cases d <;> first | (cases e1; done) | skip
      · obtain rfl : v = .int _ := h1; cases e1; rfl
      · obtain rfl : v = .str _ := h1; cases e1; rfl
    · cases e
def valD {κ : Type} [DecidableEq κ] : List (κ × D) → κ → Option D
  | [], _ => none
  | e :: r, k => if e.1 = k then some e.2 else valD r k
theorem RpT.val (k : List Key) : ∀ {es : List (List Key × D)} {kvs : List (List Key × V)}, RpT K W es kvs →
    (valD es k = none ∧ valV kvs k = none) ∨ ∃ d v, valD es k = some d ∧ valV kvs k = some v ∧ Rp K W d v
  | [], _, h => by obtain rfl : _ = [] := h; exact .inl ⟨rfl, rfl⟩
  | (q, d) :: es, _, h => by
    obtain ⟨v, r, rfl, h1, h2⟩ := h
    by_cases e : q = k
    · exact .inr ⟨d, v, by simp [valD, e], valV_pos e, h1⟩
    · rw [show valD ((q, d) :: es) k = valD es k by simp [valD, e], valV_neg (p := (q, v)) e]
      exact RpT.val k h2
theorem RpK.val (k : Key) : ∀ {es : List (Key × D)} {kvs : List (Key × V)}, RpK K W es kvs →
    (valD es k = none ∧ valV kvs k = none) ∨ ∃ d v, valD es k = some d ∧ valV kvs k = some v ∧ Rp K W d v
  | [], _, h => by obtain rfl : _ = [] := h; exact .inl ⟨rfl, rfl⟩
  | (q, d) :: es, _, h => by
    obtain ⟨v, r, rfl, h1, h2⟩ := h
    by_cases e : q = k
    · exact .inr ⟨d, v, by simp [valD, e], valV_pos e, h1⟩
    · rw [show valD ((q, d) :: es) k = valD es k by simp [valD, e], valV_neg (p := (q, v)) e]
      exact RpK.val k h2
theorem dget_t {a : Addr} {y : V} {es : List (List Key × D)} {kvs : List (List Key × V)} {ds : List D} {ks : List Key} (e : Rd H a (.dT kvs)) (hy : RN K W H (.tup ds) y) (hk : keysOf ds = some ks) : DGet H a y (valV kvs ks) := by
  obtain ⟨b, xs, rfl, e2, r⟩ := hy
  rw [keysOf_eq hk r] at e2
  exact .inr ⟨kvs, ks, b, e, rfl, e2, rfl⟩
theorem dget_k {a : Addr} {y : V} {d : D} {kvs : List (Key × V)} {k : Key} (e : Rd H a (.dK kvs)) (hy : RN K W H d y) (hk : keyOf d = some k) : DGet H a y (valV kvs k) := by
  cases d <;> first | (cases hk; done) | skip
  · obtain rfl : y = .int _ := hy; cases hk; exact .inl ⟨kvs, .inl _, e, rfl, rfl⟩
  · obtain rfl : y = .str _ := hy; cases hk; exact .inl ⟨kvs, .inr _, e, rfl, rfl⟩
def dAt (a b : D) (k : Option D → Prop) : Prop := match b with
  | .dT es => match a with
    | .tup ds => match keysOf ds with | some ks => k (valD es ks) | none => False
    | _ => False
  | .dK es => match keyOf a with | some q => k (valD es q) | none => False
  | _ => False
theorem dAt_get {a b : D} {x y : V} {k : Option D → Prop} (hx : RN K W H a x) (hy : RN K W H b y) (t : dAt a b k) :
    ∃ p o od, y = .ref p ∧ DGet H p x o ∧ k od ∧ ((od = none ∧ o = none) ∨ ∃ d v, od = some d ∧ o = some v ∧ Rp K W d v) := by
  cases b <;> first | exact False.elim t | skip
  · rename_i es
    obtain ⟨p, kvs, rfl, e, r⟩ := hy
    cases a <;> first | exact False.elim t | skip
    rename_i ds
    have t : (match keysOf ds with | some ks => k (valD es ks) | none => False) := t
    split at t
    · rename_i ks hk
      exact ⟨p, _, _, rfl, dget_t (es := es) e hx hk, t, RpT.val ks r⟩
    · exact t.elim
  · rename_i es
    obtain ⟨p, kvs, rfl, e, r⟩ := hy
    have t : (match keyOf a with | some q => k (valD es q) | none => False) := t
    split at t
    · rename_i q hk
      exact ⟨p, _, _, rfl, dget_k e hx hk, t, RpK.val q r⟩
    · exact t.elim
def isD : D → Bool
  | .dT _ => true
  | .dK _ => true
  | _ => false
def dIn : D2 := fun a b Q => match b with
  | .lst ds => Pl 20 a ∧ Pl 20 b ∧ Q (.dat (.bl (ds.any fun z => eqD z a)))
  | .tup ds => flatD a = true ∧ (∀ d ∈ ds, flatD d = true) ∧ Q (.dat (.bl (ds.any fun z => eqD z a)))
  | .str z => match a with
    | .str y => Q (.dat (.bl (!(Builtin.Str.occurrences z y 0 z.length 1).isEmpty)))
    | _ => False
  | _ => dAt a b fun o => Q (.dat (.bl o.isSome))
def dNotIn : D2 := fun a b Q => match b with
  | .lst ds => Pl 20 a ∧ Pl 20 b ∧ Q (.dat (.bl (!ds.any fun z => eqD z a)))
  | .tup ds => flatD a = true ∧ (∀ d ∈ ds, flatD d = true) ∧ Q (.dat (.bl (!ds.any fun z => eqD z a)))
  | .str z => match a with
    | .str y => Q (.dat (.bl (!(!(Builtin.Str.occurrences z y 0 z.length 1).isEmpty))))
    | _ => False
  | _ => dAt a b fun o => Q (.dat (.bl (!o.isSome)))
def rDIn (neg : Bool) : R2 := fun x y H Q => ∃ a o, y = .ref a ∧ DGet H a x o ∧ Q (.bl (if neg then !o.isSome else o.isSome)) H
theorem op_dIn (hu : X.A.units + 64 < cLine) : OpR X (compareOp .In) (rDIn false) := by
  intro pins s σ H x y v u Q I rx ry ⟨a, o, e, g, q⟩
  subst e
  cases ry
  exact d_in (by omega) I g rx fun s2 I2 => ⟨.bl _, H, I2, rfl, q⟩
theorem op_dNotIn (hu : X.A.units + 64 < cLine) : OpR X (compareOp .NotIn) (rDIn true) := by
  intro pins s σ H x y v u Q I rx ry ⟨a, o, e, g, q⟩
  subst e
  cases ry
  exact d_notIn (by omega) I g rx fun s2 I2 => ⟨.bl _, H, I2, rfl, q⟩
theorem any_py (a : D) : ∀ ds : List D, ((toPys ds).any fun z => PyData.eqv z (toPy a)) = ds.any fun z => eqD z a
  | [] => rfl
  | d :: ds => by rw [toPys, List.any_cons, List.any_cons, any_py a ds]; rfl
theorem in_flat {a : D} {ds : List D} (f : flatD a = true) (g : ∀ d ∈ ds, flatD d = true) : inV (flV a) (ds.map flV) = ds.any fun z => eqD z a := by
  unfold inV
  induction ds with
  | nil => rfl
  | cons d r ih =>
    rw [List.map_cons, List.any_cons, List.any_cons, eqV_flat (g d List.mem_cons_self) f, ih fun x hx => g x (List.mem_cons_of_mem _ hx)]
theorem all_flat {ds : List D} (g : ∀ d ∈ ds, flatD d = true) : (ds.map flV).all flatV = true := by
  rw [List.all_eq_true]
  intro v hv
  obtain ⟨d, hd, rfl⟩ := List.mem_map.mp hv
  have := g d hd
  cases d <;> first | rfl | exact absurd this Bool.false_ne_true
theorem od_in (hu : X.A.units + 65 < cLine) : OpR X (compareOp .In) (canO X.K dIn) := by
  refine OpR.imp (OpR.or (OpR.or (op_inD hu) op_in_seq) (OpR.or op_in_str (op_dIn (by omega)))) ?_
  rintro x y H Qv ⟨W, P, G, σ, a, b, Q, R, ha, hb, t, r⟩
  have dict : dAt a b (fun o => Q (.dat (.bl o.isSome))) → rDIn false x y H Qv := fun t => by
    obtain ⟨p, o, od, rfl, g, q, h⟩ := dAt_get ha hb t
    refine ⟨p, o, rfl, g, ?_⟩
    have e : od.isSome = o.isSome := by rcases h with ⟨h1, h2⟩ | ⟨_, _, h1, h2, _⟩ <;> rw [h1, h2] <;> rfl
    rw [e] at q
    exact r.bl R q
  cases b with
  | lst ds =>
    obtain ⟨pa, pb, t⟩ := t
    exact .inl (.inl ⟨_, _, pa.dp (W := W) (R.rnow ha), pb.dp (W := W) (R.rnow hb), pa.shaped (by decide), pb.shaped (by decide), by rw [any_py]; exact r.bl R t⟩)
  | tup ds =>
    obtain ⟨fa, fs, t⟩ := t
    obtain ⟨p, xs, rfl, s1, r1⟩ := hb
    have e1 := flats_eq fs r1
    have e2 := flat_eq fa (R.rnow ha)
    subst e1 e2
    exact .inl (.inr ⟨p, _, rfl, .inr (.of s1), flat_rp fa (R.rnow ha), all_flat fs, by rw [if_neg Bool.false_ne_true, in_flat fa fs]; exact r.bl R t⟩)
  | str z =>
    cases a <;> first | exact False.elim t | skip
    rename_i yy
    obtain rfl : x = .str yy := ha
    obtain rfl : y = .str z := hb
    exact .inr (.inl ⟨yy, z, rfl, rfl, r.bl R t⟩)
  | _ => first | exact .inr (.inr (dict t)) | exact False.elim t
theorem od_notin (hu : X.A.units + 65 < cLine) : OpR X (compareOp .NotIn) (canO X.K dNotIn) := by
  refine OpR.imp (OpR.or (OpR.or (op_notInD hu) op_notIn_seq) (OpR.or op_notin_str (op_dNotIn (by omega)))) ?_
  rintro x y H Qv ⟨W, P, G, σ, a, b, Q, R, ha, hb, t, r⟩
  have dict : dAt a b (fun o => Q (.dat (.bl (!o.isSome)))) → rDIn true x y H Qv := fun t => by
    obtain ⟨p, o, od, rfl, g, q, h⟩ := dAt_get ha hb t
    refine ⟨p, o, rfl, g, ?_⟩
    have e : od.isSome = o.isSome := by rcases h with ⟨h1, h2⟩ | ⟨_, _, h1, h2, _⟩ <;> rw [h1, h2] <;> rfl
    rw [e] at q
    exact r.bl R q
  cases b with
  | lst ds =>
    obtain ⟨pa, pb, t⟩ := t
    exact .inl (.inl ⟨_, _, pa.dp (W := W) (R.rnow ha), pb.dp (W := W) (R.rnow hb), pa.shaped (by decide), pb.shaped (by decide), by rw [any_py]; exact r.bl R t⟩)
  | tup ds =>
    obtain ⟨fa, fs, t⟩ := t
    obtain ⟨p, xs, rfl, s1, r1⟩ := hb
    have e1 := flats_eq fs r1
    have e2 := flat_eq fa (R.rnow ha)
    subst e1 e2
    exact .inl (.inr ⟨p, _, rfl, .inr (.of s1), flat_rp fa (R.rnow ha), all_flat fs, by rw [if_pos rfl, in_flat fa fs]; exact r.bl R t⟩)
  | str z =>
    cases a <;> first | exact False.elim t | skip
    rename_i yy
    obtain rfl : x = .str yy := ha
    obtain rfl : y = .str z := hb
    exact .inr (.inl ⟨yy, z, rfl, rfl, r.bl R t⟩)
  | _ => first | exact .inr (.inr (dict t)) | exact False.elim t
end
abbrev DT := Gm → (Bool → Gm → Prop) → Prop
abbrev DA := Gm → (List D → Gm → Prop) → Prop
def canT (K : PySem.W.Frag) (t : DT) : TT := fun σ H Qv => ∃ W P G Q, Rl K W P G σ H ∧ t G Q ∧
  ∀ W' b G' H', W.le W' → Rl K W' P G' σ H' → Q b G' → Qv b H'
def canA (K : PySem.W.Frag) (t : DA) : TA := fun σ H Qv => ∃ W P G Q, Rl K W P G σ H ∧ t G Q ∧
  ∀ W' ds G' vs H', W.le W' → Rl K W' P G' σ H' → RpL K W' ds vs → Q ds G' → Qv vs H'
section
variable {X : Cx} {K : PySem.W.Frag} {W : Wd} {P : Hp} {G : Gm} {σ : St} {H : Hp}
def dVar (i : Nat) : DE := fun G Q => match gg G i with
  | some (.dat d) => Q (.dat d) G
  | some (.own _) => Q (.bor i) G
  | none => False
def dC (d : D) : DE := fun G Q => Q (.dat d) G
variable {pos : Pos} {a b c e : Expr} {es : List Expr}
theorem de_var (i : Nat) {x : Str} (hN : X.N[i]? = some x := by rfl) (hv : Vis X.env.scope x := by first | exact Or.inl rfl | exact Or.inr (Or.inl rfl) | exact Or.inr (Or.inr rfl)) (hd : (x == ("__debug__" : Str)) = false := by decide)
    (hcd : (x == ("__classdict__" : Str)) = false := by decide) : PE X (.Name x pos) (can X.K (dVar i)) := by
  refine PE.imp (pe_var hN hv hd hcd) ?_
  rintro σ H Qv ⟨W, P, G, Q, R, t, k⟩
  have t : (match gg G i with | some (.dat d) => Q (.dat d) G | some (.own _) => Q (.bor i) G | none => False) := t
  cases e : gg G i with
  | none => rw [e] at t; exact t.elim
  | some s =>
    rw [e] at t
    cases s with
    | dat d =>
      obtain ⟨v, h1, h2⟩ := R.dat i d e
      exact ⟨v, h1, k W (.dat d) G v H (.refl W) R h2 t⟩
    | own d =>
      obtain ⟨p, o, h1, h2, h3⟩ := R.own i d e
      exact ⟨_, h1, k W (.bor i) G _ H (.refl W) R ⟨h1, d, e⟩ t⟩
theorem can_c {d : D} {v : V} (h : ∀ K W, Rp K W d v) : ∀ σ H Q, can X.K (dC d) σ H Q → tC v σ H Q := by
  rintro σ H Qv ⟨W, P, G, Q, R, t, k⟩
  exact k W (.dat d) G v H (.refl W) R (h _ _) t
theorem de_int {i j} : PE X (.Constant (.int i) j pos) (can X.K (dC (.int i))) := PE.imp pe_int (can_c fun _ _ => rfl)
theorem de_bl {i j} : PE X (.Constant (.bool i) j pos) (can X.K (dC (.bl i))) := PE.imp pe_bl (can_c fun _ _ => rfl)
theorem de_non {j} : PE X (.Constant .none j pos) (can X.K (dC .non)) := PE.imp pe_non (can_c fun _ _ => rfl)
theorem de_glob {x : Str} {d : D} {v : V} {u : Value} (hm : X.mg x = some u) (r : RelV v u) (h : ∀ K W, Rp K W d v) (hg : Gl X x := by rfl) (hd : (x == ("__debug__" : Str)) = false := by decide) : PE X (.Name x pos) (can X.K (dC d)) :=
  PE.imp (pe_glob hg hm r hd) (can_c h)
theorem de_ty {x : Str} {T : String} (hm : X.mg x = none) (hv : bootBuiltins x = some (.type T)) (hg : Gl X x := by rfl) (hn : x ≠ "__name__" := by decide) (hd : (x == ("__debug__" : Str)) = false := by decide) : PE X (.Name x pos) (can X.K (dC (.ty T))) :=
  PE.imp (pe_bltn (v := .ty T) hg hm hv rfl hn hd) (can_c fun _ _ => rfl)
theorem can_bin {ta tb : DE} {R2 : V → V → Hp → Prop} {Q2 : SV → SV → Gm → Prop} (R : Rl K W P G σ H) (t : ta G fun sa G1 => tb G1 fun sb G2 => Q2 sa sb G2)
    (k : ∀ W' G2 sa sb x y H2, W.le W' → Rl K W' P G2 σ H2 → RS K W' σ sa x → RS K W' σ sb y → Q2 sa sb G2 → R2 x y H2) : can K ta σ H fun x H1 => can K tb σ H1 fun y H2 => R2 x y H2 := by
  refine ⟨W, P, G, _, R, t, fun W1 sa G1 x H1 l1 R1 r1 q1 => ?_⟩
  obtain ⟨W2, l2, R2', s1⟩ := R1.settle r1
  refine ⟨W2, P, G1, _, R2', q1, fun W3 sb G2 y H2 l3 R3 r3 q3 => ?_⟩
  obtain ⟨W4, l4, R4, s2⟩ := R3.settle r3
  exact k W4 G2 sa sb x y H2 (((l1.trans l2).trans l3).trans l4) R4 (s1.mono (l3.trans l4)) s2 q3
theorem can_one {ta : DE} {R1 : V → Hp → Prop} {Q1 : SV → Gm → Prop} (R : Rl K W P G σ H) (t : ta G Q1)
    (k : ∀ W' G1 sa x H1, W.le W' → Rl K W' P G1 σ H1 → RS K W' σ sa x → Q1 sa G1 → R1 x H1) : can K ta σ H R1 := by
  refine ⟨W, P, G, _, R, t, fun W1 sa G1 x H1 l1 R1 r1 q1 => ?_⟩
  obtain ⟨W2, l2, R2', s1⟩ := R1.settle r1
  exact k W2 G1 sa x H1 (l1.trans l2) R2' s1 q1
def dBin (dr : D2) (ta tb : DE) : DE := fun G Q => ta G fun sa G1 => tb G1 fun sb G2 => see G2 sa fun x => see G2 sb fun y => dr x y fun r => Q r G2
def dUn (dr : D1) (ta : DE) : DE := fun G Q => ta G fun sa G1 => see G1 sa fun x => dr x fun r => Q r G1
theorem bin_op {dr : D2} {ta tb : DE} {Qv : VK} (h : can K (dBin dr ta tb) σ H Qv) : tOp (canO K dr) (can K ta) (can K tb) σ H Qv := by
  obtain ⟨W, P, G, Q, R, t, k⟩ := h
  refine can_bin R t fun W' G2 sa sb x y H2 l R2 s1 s2 q => ?_
  obtain ⟨d1, n1, q⟩ := R2.see s1 q
  obtain ⟨d2, n2, q⟩ := R2.see s2 q
  exact ⟨W', P, G2, σ, d1, d2, fun r => Q r G2, R2, n1, n2, q, fun W3 sv v H3 l3 R3 r3 q3 => k W3 sv G2 v H3 (l.trans l3) R3 r3 q3⟩
theorem un_op {dr : D1} {ta : DE} {Qv : VK} (h : can K (dUn dr ta) σ H Qv) : tUn (canU K dr) (can K ta) σ H Qv := by
  obtain ⟨W, P, G, Q, R, t, k⟩ := h
  refine can_one R t fun W' G1 sa x H1 l R1 s1 q => ?_
  obtain ⟨d1, n1, q⟩ := R1.see s1 q
  exact ⟨W', P, G1, σ, d1, fun r => Q r G1, R1, n1, q, fun W3 sv v H3 l3 R3 r3 q3 => k W3 sv G1 v H3 (l.trans l3) R3 r3 q3⟩
theorem de_bin {op : Operator} {dr : D2} {ta tb : DE} (ho : OpR X (binaryOp op) (canO X.K dr)) (ha : PE X a (can X.K ta)) (hb : PE X b (can X.K tb)) : PE X (.BinOp a op b pos) (can X.K (dBin dr ta tb)) :=
  PE.imp (pe_op ho ha hb) fun _ _ _ => bin_op
theorem de_un {op : UnaryOp} {dr : D1} {ta : DE} (ho : UnR X (unaryOp op) (canU X.K dr)) (ha : PE X a (can X.K ta)) : PE X (.UnaryOp op a pos) (can X.K (dUn dr ta)) :=
  PE.imp (pe_un ho ha) fun _ _ _ => un_op
theorem de_cmp {op : CmpOp} {dr : D2} {ta tb : DE} (ho : OpR X (compareOp op) (canO X.K dr)) (ha : PE X a (can X.K ta)) (hb : PE X b (can X.K tb)) (hm : behindInMarks op b = false := by first | exact nomark _ | rfl) : PE X (.Compare a [op] [b] pos) (can X.K (dBin dr ta tb)) :=
  PE.imp (pe_cmpR ho ha hb hm) fun _ _ _ => bin_op
def isB (sv : SV) (k : Bool → Prop) : Prop := match sv with
  | .dat (.bl b) => k b
  | _ => False
theorem isB_of {sv : SV} {v : V} {k : Bool → Prop} (h : RV K W P G σ H sv v) (t : isB sv k) : ∃ b, v = .bl b ∧ k b := by
  cases sv <;> first | exact False.elim t | skip
  rename_i d
  cases d <;> first | exact False.elim t | skip
  exact ⟨_, h, t⟩
def dTst (ta : DE) : DT := fun G Q => ta G fun sa G1 => isB sa fun b => Q b G1
theorem tst_tB {ta : DE} {Qv} (h : canT K (dTst ta) σ H Qv) : tB (can K ta) σ H Qv := by
  obtain ⟨W, P, G, Q, R, t, k⟩ := h
  refine ⟨W, P, G, _, R, t, fun W1 sa G1 x H1 l1 R1 r1 q1 => ?_⟩
  obtain ⟨b, rfl, q⟩ := isB_of r1 q1
  exact ⟨b, rfl, k W1 b G1 H1 l1 R1 q⟩
theorem dt_val {ta : DE} (h : PE X e (can X.K ta)) (he : ∀ whole, isTrue e X.env whole = (do let v ← whole; standAt e.pos; holding [v] (truthy v)) := by intro _; rfl) : PT X e (canT X.K (dTst ta)) :=
  PT.imp (pt_val h he) fun _ _ _ => tst_tB
theorem dt_cmp {op : CmpOp} {dr : D2} {ta tb : DE} (ho : OpR X (compareOp op) (canO X.K dr)) (ha : PE X a (can X.K ta)) (hb : PE X b (can X.K tb)) (hm : behindInMarks op b = false := by first | exact nomark _ | rfl) : PT X (.Compare a [op] [b] pos) (canT X.K (dTst (dBin dr ta tb))) := by
  exact PT.imp (pt_cmpR ho ha hb hm) fun σ H Qv h => bin_op (tst_tB h)
def dNotT (t : DT) : DT := fun G Q => t G fun b G1 => Q (!b) G1
theorem dt_not {t : DT} (h : PT X a (canT X.K t)) : PT X (.UnaryOp .Not a pos) (canT X.K (dNotT t)) := by
  refine PT.imp (pt_not h) ?_
  rintro σ H Qv ⟨W, P, G, Q, R, t, k⟩
  exact ⟨W, P, G, _, R, t, fun W1 b G1 H1 l R1 q => k W1 (!b) G1 H1 l R1 q⟩
def dAndT (t u : DT) : DT := fun G Q => t G fun b G1 => if b = true then u G1 Q else Q false G1
def dOrT (t u : DT) : DT := fun G Q => t G fun b G1 => if b = true then Q true G1 else u G1 Q
theorem PW.imp {t u : TT} (h : PW X e t) (i : ∀ σ H Q, u σ H Q → t σ H Q) : PW X e u := ⟨fun wh pins s σ H Q I q => h.run wh pins s σ H Q I (i σ H Q q)⟩
theorem dw_and1 {t : DT} (h : PT X a (canT X.K t)) : PW X (.BoolOp .And [a] pos) (canT X.K t) := pw_and1 h
theorem dw_or1 {t : DT} (h : PT X a (canT X.K t)) : PW X (.BoolOp .Or [a] pos) (canT X.K t) := pw_or1 h
theorem dw_and {t u : DT} (h : PT X a (canT X.K t)) (h2 : PW X (.BoolOp .And (b :: es) pos) (canT X.K u)) : PW X (.BoolOp .And (a :: b :: es) pos) (canT X.K (dAndT t u)) := by
  refine PW.imp (pw_and h h2) ?_
  rintro σ H Qv ⟨W, P, G, Q, R, t, k⟩
  refine ⟨W, P, G, _, R, t, fun W1 c G1 H1 l R1 q => ?_⟩
  cases c with
  | true =>
    rw [if_pos rfl] at q ⊢
    exact ⟨W1, P, G1, Q, R1, q, fun W2 d G2 H2 l2 R2 q2 => k W2 d G2 H2 (l.trans l2) R2 q2⟩
  | false =>
    rw [if_neg Bool.false_ne_true] at q ⊢
    exact k W1 false G1 H1 l R1 q
theorem dw_or {t u : DT} (h : PT X a (canT X.K t)) (h2 : PW X (.BoolOp .Or (b :: es) pos) (canT X.K u)) : PW X (.BoolOp .Or (a :: b :: es) pos) (canT X.K (dOrT t u)) := by
  refine PW.imp (pw_or h h2) ?_
  rintro σ H Qv ⟨W, P, G, Q, R, t, k⟩
  refine ⟨W, P, G, _, R, t, fun W1 c G1 H1 l R1 q => ?_⟩
  cases c with
  | true =>
    rw [if_pos rfl] at q ⊢
    exact k W1 true G1 H1 l R1 q
  | false =>
    rw [if_neg Bool.false_ne_true] at q ⊢
    exact ⟨W1, P, G1, Q, R1, q, fun W2 d G2 H2 l2 R2 q2 => k W2 d G2 H2 (l.trans l2) R2 q2⟩
def dAndV (t u : DE) : DE := fun G Q => t G fun s G1 => isB s fun b => if b = true then u G1 Q else Q (.dat (.bl false)) G1
def dOrV (t u : DE) : DE := fun G Q => t G fun s G1 => isB s fun b => if b = true then Q (.dat (.bl true)) G1 else u G1 Q
def dNotV (t : DE) : DE := fun G Q => t G fun s G1 => isB s fun b => Q (.dat (.bl (!b))) G1
theorem de_one {op} {t : DE} (h : PE X a (can X.K t)) : PE X (.BoolOp op [a] pos) (can X.K t) := pe_one h
theorem de_and {t u : DE} (h : PE X a (can X.K t)) (h2 : PE X (.BoolOp .And (b :: es) pos) (can X.K u)) : PE X (.BoolOp .And (a :: b :: es) pos) (can X.K (dAndV t u)) := by
  refine PE.imp (pe_and h h2) ?_
  rintro σ H Qv ⟨W, P, G, Q, R, t, k⟩
  refine ⟨W, P, G, _, R, t, fun W1 s G1 x H1 l R1 r1 q => ?_⟩
  obtain ⟨c, rfl, q⟩ := isB_of r1 q
  refine ⟨c, rfl, ?_⟩
  cases c with
  | true =>
    rw [if_pos rfl] at q ⊢
    exact ⟨W1, P, G1, Q, R1, q, fun W2 d G2 v H2 l2 R2 q2 => k W2 d G2 v H2 (l.trans l2) R2 q2⟩
  | false =>
    rw [if_neg Bool.false_ne_true] at q ⊢
    exact k W1 (.dat (.bl false)) G1 _ H1 l R1 rfl q
theorem de_or {t u : DE} (h : PE X a (can X.K t)) (h2 : PE X (.BoolOp .Or (b :: es) pos) (can X.K u)) : PE X (.BoolOp .Or (a :: b :: es) pos) (can X.K (dOrV t u)) := by
  refine PE.imp (pe_or h h2) ?_
  rintro σ H Qv ⟨W, P, G, Q, R, t, k⟩
  refine ⟨W, P, G, _, R, t, fun W1 s G1 x H1 l R1 r1 q => ?_⟩
  obtain ⟨c, rfl, q⟩ := isB_of r1 q
  refine ⟨c, rfl, ?_⟩
  cases c with
  | true =>
    rw [if_pos rfl] at q ⊢
    exact k W1 (.dat (.bl true)) G1 _ H1 l R1 rfl q
  | false =>
    rw [if_neg Bool.false_ne_true] at q ⊢
    exact ⟨W1, P, G1, Q, R1, q, fun W2 d G2 v H2 l2 R2 q2 => k W2 d G2 v H2 (l.trans l2) R2 q2⟩
theorem de_not {t : DE} (h : PE X a (can X.K t)) : PE X (.UnaryOp .Not a pos) (can X.K (dNotV t)) := by
  refine PE.imp (pe_not h) ?_
  rintro σ H Qv ⟨W, P, G, Q, R, t, k⟩
  refine ⟨W, P, G, _, R, t, fun W1 s G1 x H1 l R1 r1 q => ?_⟩
  obtain ⟨c, rfl, q⟩ := isB_of r1 q
  exact ⟨c, rfl, k W1 (.dat (.bl !c)) G1 _ H1 l R1 rfl q⟩
def dIf (t : DT) (ta tb : DE) : DE := fun G Q => t G fun b G1 => if b = true then ta G1 Q else tb G1 Q
theorem de_if {t : DT} {ta tb : DE} (h : PT X c (canT X.K t)) (h1 : PE X a (can X.K ta)) (h2 : PE X b (can X.K tb)) : PE X (.IfExp c a b pos) (can X.K (dIf t ta tb)) := by
  refine PE.imp (pe_ifExp h h1 h2) ?_
  rintro σ H Qv ⟨W, P, G, Q, R, t, k⟩
  refine ⟨W, P, G, _, R, t, fun W1 c G1 H1 l R1 q => ?_⟩
  cases c with
  | true =>
    rw [if_pos rfl] at q ⊢
    exact ⟨W1, P, G1, Q, R1, q, fun W2 d G2 v H2 l2 R2 q2 => k W2 d G2 v H2 (l.trans l2) R2 q2⟩
  | false =>
    rw [if_neg Bool.false_ne_true] at q ⊢
    exact ⟨W1, P, G1, Q, R1, q, fun W2 d G2 v H2 l2 R2 q2 => k W2 d G2 v H2 (l.trans l2) R2 q2⟩
def dChn (dr ds : D2) (ta tb tc : DE) : DE := fun G Q => ta G fun sa G1 => tb G1 fun sb G2 => see G2 sa fun x => see G2 sb fun y => flatD y = true ∧ dr x y fun r => isB r fun c =>
  if c = true then tc G2 fun sc G3 => see G3 sc fun z => ds y z fun r => Q r G3 else Q (.dat (.bl false)) G2
theorem flat_rn {d : D} {v : V} (f : flatD d = true) (h : RN K W H d v) : ∀ W' H', RN K W' H' d v := by
  cases d <;> first | exact absurd f Bool.false_ne_true | exact fun _ _ => h
theorem chn_op {dr ds : D2} {ta tb tc : DE} {Qv : VK} (h : can K (dChn dr ds ta tb tc) σ H Qv) : tChain (canO K dr) (canO K ds) (can K ta) (can K tb) (can K tc) σ H Qv := by
  obtain ⟨W, P, G, Q, R, t, k⟩ := h
  refine can_bin R t fun W' G2 sa sb x y H2 l R2 s1 s2 q => ?_
  obtain ⟨d1, n1, q⟩ := R2.see s1 q
  obtain ⟨d2, n2, q⟩ := R2.see s2 q
  obtain ⟨fl, q⟩ := q
  refine ⟨W', P, G2, σ, d1, d2, _, R2, n1, n2, q, fun W3 sv v H3 l3 R3 r3 q3 => ?_⟩
  obtain ⟨c, rfl, q3⟩ := isB_of r3 q3
  refine ⟨c, rfl, ?_⟩
  cases c with
  | true =>
    rw [if_pos rfl] at q3 ⊢
    refine can_one R3 q3 fun W4 G4 sc z H4 l4 R4 s4 q4 => ?_
    obtain ⟨d4, n4, q4⟩ := R4.see s4 q4
    exact ⟨W4, P, G4, σ, d2, d4, fun r => Q r G4, R4, flat_rn fl n2 _ _, n4, q4, fun W5 sv v H5 l5 R5 r5 q5 => k W5 sv G4 v H5 (((l.trans l3).trans l4).trans l5) R5 r5 q5⟩
  | false =>
    rw [if_neg Bool.false_ne_true] at q3 ⊢
    exact k W3 (.dat (.bl false)) G2 _ H3 (l.trans l3) R3 rfl q3
theorem de_chn {op op' : CmpOp} {dr ds : D2} {ta tb tc : DE} (ho : OpR X (compareOp op) (canO X.K dr)) (ho' : OpR X (compareOp op') (canO X.K ds)) (ha : PE X a (can X.K ta)) (hb : PE X b (can X.K tb)) (hc : PE X c (can X.K tc))
    (hm : lastMarks [op, op'] [b, c] = false := by with_unfolding_all rfl) : PE X (.Compare a [op, op'] [b, c] pos) (can X.K (dChn dr ds ta tb tc)) := PE.imp (pe_chain ho ho' ha hb hc hm) fun _ _ _ => chn_op
theorem dt_chn {op op' : CmpOp} {dr ds : D2} {ta tb tc : DE} (ho : OpR X (compareOp op) (canO X.K dr)) (ho' : OpR X (compareOp op') (canO X.K ds)) (ha : PE X a (can X.K ta)) (hb : PE X b (can X.K tb)) (hc : PE X c (can X.K tc))
    (hm : lastMarks [op, op'] [b, c] = false := by with_unfolding_all rfl) : PT X (.Compare a [op, op'] [b, c] pos) (canT X.K (dTst (dChn dr ds ta tb tc))) := PT.imp (pt_chain ho ho' ha hb hc hm) fun _ _ _ h => chn_op (tst_tB h)
def dNil : DA := fun G Q => Q [] G
def dCons (t : DE) (u : DA) : DA := fun G Q => t G fun s G1 => frz G1 s fun d G2 => u G2 fun ds G3 => Q (d :: ds) G3
theorem da_nil : PA X [] (canA X.K dNil) := by
  refine ⟨fun pos pins s σ H Qv I ⟨W, P, G, Q, R, t, k⟩ => pa_nil.run pos pins s σ H Qv I ?_⟩
  exact k W [] G [] H (.refl W) R rfl t
theorem da_cons {t : DE} {u : DA} (h : PE X e (can X.K t)) (h2 : PA X es (canA X.K u)) (hs : starEach (e :: es) X.env = (false, eval e X.env) :: starEach es X.env := by rfl) : PA X (e :: es) (canA X.K (dCons t u)) := by
  refine ⟨fun pos pins s σ H Qv I ⟨W, P, G, Q, R, t, k⟩ => (pa_cons h h2 hs).run pos pins s σ H Qv I ?_⟩
  refine ⟨W, P, G, _, R, t, fun W1 sv G1 v H1 l1 R1 r1 q1 => ?_⟩
  obtain ⟨W2, d, G2, l2, R2, r2, q2⟩ := R1.frz r1 q1
  exact ⟨W2, P, G2, _, R2, q2, fun W3 ds G3 vs H3 l3 R3 r3 q3 => k W3 (d :: ds) G3 (v :: vs) H3 ((l1.trans l2).trans l3) R3 ⟨v, vs, rfl, Rp.mono l3 _ _ r2, r3⟩ q3⟩
def dTup (u : DA) : DE := fun G Q => u G fun ds G1 => ds.length ≤ sizeLine ∧ Q (.dat (.tup ds)) G1
def dLst (u : DA) : DE := fun G Q => u G fun ds G1 => ds.length ≤ sizeLine ∧ Q (.new (.lst ds)) G1
theorem de_tup {u : DA} {x1} (h : PA X es (canA X.K u)) : PE X (.Tuple es x1 pos) (can X.K (dTup u)) := by
  refine PE.imp (pe_tup h) ?_
  rintro σ H Qv ⟨W, P, G, Q, R, t, k⟩
  refine ⟨W, P, G, _, R, t, fun W1 ds G1 vs H1 l R1 r1 q => ⟨by rw [r1.length]; exact q.1, fun p hp => ?_⟩⟩
  obtain ⟨W2, l2, R2, r2⟩ := R1.allocT hp r1
  exact k W2 (.dat (.tup ds)) G1 _ _ (l.trans l2) R2 r2 q.2
theorem de_lst {u : DA} (h : PA X es (canA X.K u)) : PE X (.List es pos) (can X.K (dLst u)) := by
  refine PE.imp (pe_lst h) ?_
  rintro σ H Qv ⟨W, P, G, Q, R, t, k⟩
  refine ⟨W, P, G, _, R, t, fun W1 ds G1 vs H1 l R1 r1 q => ⟨by rw [r1.length]; exact q.1, fun p hp => ?_⟩⟩
  obtain ⟨R2, r2⟩ := R1.alloc (o := .lst vs) (d := .lst ds) hp r1
  exact k W1 (.new (.lst ds)) G1 _ _ l R2 r2 q.2
def atQ (o : Option D) (Q : SV → Prop) : Prop := match o with
  | some d => Q (.dat d)
  | none => False
def dIx : D2 := fun a b Q => match a with
  | .lst ds => match b with
    | .int i => atQ (atI ds i) Q
    | _ => False
  | .tup ds => match b with
    | .int i => atQ (atI ds i) Q
    | _ => False
  | .scr ns => match b with
    | .int i => atQ ((atI ns i).map D.int) Q
    | _ => False
  | .str z => match b with
    | .int i => z.length ≤ sizeLine ∧ atQ ((atI z.cps.toList i).map fun c => D.str ⟨#[c]⟩) Q
    | _ => False
  | _ => dAt b a fun o => atQ o Q
theorem atD_rp {ds : List D} {xs : List V} {i : Int} {d : D} (r : RpL K W ds xs) (e : atI ds i = some d) : ∃ v, atI xs i = some v ∧ Rp K W d v := by
  unfold atI at e ⊢
  rw [r.length]
  cases q : ixN ds.length i with
  | none => rw [q] at e; cases e
  | some j =>
    rw [q] at e
    obtain ⟨v, h1, h2⟩ := r.get (show ds[j]? = some d from e)
    exact ⟨v, h1, h2⟩
theorem atI_map {α β : Type} (f : α → β) (xs : List α) (i : Int) : atI (xs.map f) i = (atI xs i).map f := by
  unfold atI
  rw [List.length_map]
  cases ixN xs.length i with
  | none => rfl
  | some j => exact List.getElem?_map
theorem atQ_some {o : Option D} {Q : SV → Prop} (h : atQ o Q) : ∃ d, o = some d ∧ Q (.dat d) := by
  cases o with
  | none => exact False.elim h
  | some d => exact ⟨d, rfl, h⟩
theorem IxR.imp {r r' : R2} (h : IxR X r) (i : ∀ x y H Q, r' x y H Q → r x y H Q) : IxR X r' :=
  fun value slice pins s σ H x y v u Q I rx ry q hs => h value slice pins s σ H x y v u Q I rx ry (i x y H Q q) hs
def rIxDc : R2 := fun x y H Q => ∃ a v, x = .ref a ∧ DGet H a y (some v) ∧ Q v H
theorem ix_dc (hu : X.A.units + 64 < cLine) : IxR X rIxDc := by
  intro value slice pins s σ H x y v u Q I rx ry ⟨a, w, e, g, q⟩ hs
  subst e
  cases rx
  exact tail_any (dict_typeIs I g) PySem.F.slot_dict_getitem.lookup (d_getItem (by omega) I g ry fun w' s3 I3 rw' => ⟨w, H, I3, rw', q⟩) hs
theorem xd_ix (hu : X.A.units + 64 < cLine) : IxR X (canO X.K dIx) := by
  refine IxR.imp (IxR.or (IxR.or (IxR.or ix_list ix_tup) ix_str) (ix_dc hu)) ?_
  rintro x y H Qv ⟨W, P, G, σ, a, b, Q, R, ha, hb, t, r⟩
  have dict : dAt b a (fun o => atQ o Q) → rIxDc x y H Qv := fun t => by
    obtain ⟨p, o, od, rfl, g, q, h⟩ := dAt_get hb ha t
    obtain ⟨d, e, q⟩ := atQ_some q
    subst e
    rcases h with ⟨h1, _⟩ | ⟨d', v, h1, h2, h3⟩
    · cases h1
    · cases h1
      subst h2
      exact ⟨p, v, rfl, g, r.dat R h3 q⟩
  cases a with
  | lst ds =>
    obtain ⟨p, xs, rfl, s1, r1⟩ := ha
    cases b <;> first | exact False.elim t | skip
    rename_i i
    obtain rfl : y = .int i := hb
    obtain ⟨d, e, q⟩ := atQ_some t
    obtain ⟨v, e2, h⟩ := atD_rp r1 e
    exact .inl (.inl (.inl ⟨p, xs, i, v, rfl, rfl, .of s1, e2, r.dat R h q⟩))
  | tup ds =>
    obtain ⟨p, xs, rfl, s1, r1⟩ := ha
    cases b <;> first | exact False.elim t | skip
    rename_i i
    obtain rfl : y = .int i := hb
    obtain ⟨d, e, q⟩ := atQ_some t
    obtain ⟨v, e2, h⟩ := atD_rp r1 e
    exact .inl (.inl (.inr ⟨p, xs, i, v, rfl, rfl, .of s1, e2, r.dat R h q⟩))
  | scr ns =>
    obtain ⟨p, rfl, s1⟩ := ha
    cases b <;> first | exact False.elim t | skip
    rename_i i
    obtain rfl : y = .int i := hb
    obtain ⟨d, e, q⟩ := atQ_some t
    obtain ⟨n, e1, rfl⟩ := Option.map_eq_some_iff.mp e
    exact .inl (.inl (.inl ⟨p, _, i, .int n, rfl, rfl, s1, by rw [atI_map, e1]; rfl, r.int R q⟩))
  | str z =>
    obtain rfl : x = .str z := ha
    cases b <;> first | exact False.elim t | skip
    rename_i i
    obtain rfl : y = .int i := hb
    obtain ⟨hz, t⟩ := t
    obtain ⟨d, e, q⟩ := atQ_some t
    obtain ⟨n, e1, rfl⟩ := Option.map_eq_some_iff.mp e
    exact .inl (.inr ⟨z, i, n, rfl, rfl, hz, e1, r.str R q⟩)
  | _ => first | exact .inr (dict t) | exact False.elim t
theorem de_ix {ta tb : DE} (hu : X.A.units + 64 < cLine) (ha : PE X a (can X.K ta)) (hb : PE X b (can X.K tb)) (hs : PlainIx b := by intro _ _; rfl) : PE X (.Subscript a b pos) (can X.K (dBin dIx ta tb)) :=
  PE.imp (pe_ix (xd_ix hu) ha hb hs) fun _ _ _ => bin_op
abbrev DO := Gm → (Option Int → Gm → Prop) → Prop
def canP (K : PySem.W.Frag) (t : DO) : TO := fun σ H Qv => ∃ W P G Q, Rl K W P G σ H ∧ t G Q ∧ ∀ W' b G' H', W.le W' → Rl K W' P G' σ H' → Q b G' → Qv b H'
def dNoP : DO := fun G Q => Q none G
def dPart (t : DE) : DO := fun G Q => t G fun s G1 => see G1 s fun d => match d with | .int i => Q (some i) G1 | _ => False
theorem dp_none : PO X none (canP X.K dNoP) := by
  refine ⟨fun pins s σ H Qv I ⟨W, P, G, Q, R, t, k⟩ => po_none.run pins s σ H Qv I ?_⟩
  exact k W none G H (.refl W) R t
theorem dp_some {t : DE} (h : PE X e (can X.K t)) : PO X (some e) (canP X.K (dPart t)) := by
  refine ⟨fun pins s σ H Qv I ⟨W, P, G, Q, R, t, k⟩ => (po_some h).run pins s σ H Qv I ?_⟩
  refine can_one R t fun W1 G1 sa x H1 l R1 s1 q => ?_
  obtain ⟨d, n, q⟩ := R1.see s1 q
  cases d <;> first | exact False.elim q | skip
  rename_i i
  exact ⟨i, n, k W1 (some i) G1 H1 l R1 q⟩
def dSlc (a : D) (lo hi : Option Int) (Q : SV → Prop) : Prop := match a with
  | .lst ds => Q (.new (.lst (cutV' ds lo hi)))
  | .scr ns => Q (.new (.lst (cutV' (ns.map D.int) lo hi)))
  | .str z => z.length ≤ sizeLine ∧ Q (.dat (.str (cutS z lo hi)))
  | .tup ds => ¬ (HT.sIx ds.length 0 lo = 0 ∧ HT.sIx ds.length ds.length hi = ds.length) ∧ Q (.dat (.tup (cutV' ds lo hi)))
  | _ => False
where cutV' (xs : List D) (lo hi : Option Int) : List D := (xs.drop (HT.sIx xs.length 0 lo)).take (HT.sIx xs.length xs.length hi - HT.sIx xs.length 0 lo)
def dSl (ta : DE) (tl th : DO) : DE := fun G Q => ta G fun sa G1 => tl G1 fun lo G2 => th G2 fun hi G3 => see G3 sa fun x => dSlc x lo hi fun r => Q r G3
theorem cutV_rp {ds : List D} {xs : List V} {lo hi : Option Int} (r : RpL K W ds xs) : RpL K W (dSlc.cutV' ds lo hi) (cutV xs lo hi) := by
  unfold dSlc.cutV' cutV
  rw [r.length]
  exact (r.drop _).take _
theorem SlR.imp {r r' : V → Option Int → Option Int → Hp → VK → Prop} (h : L2.SlR X r) (i : ∀ x lo hi H Q, r' x lo hi H Q → r x lo hi H Q) : L2.SlR X r' :=
  fun pins s σ H x v vl vu lo hi sl Q I rx hs pl pu q => h pins s σ H x v vl vu lo hi sl Q I rx hs pl pu (i x lo hi H Q q)
def canS3 (K : PySem.W.Frag) : V → Option Int → Option Int → Hp → VK → Prop := fun x lo hi H Qv => ∃ W P G σ a Q, Rl K W P G σ H ∧ RN K W H a x ∧ dSlc a lo hi Q ∧ Rs K W P G σ Q Qv
theorem sd_sl : L2.SlR X (canS3 X.K) := by
  refine SlR.imp (L2.SlR.or (L2.SlR.or sl_list sl_str) sl_tup) ?_
  rintro x lo hi H Qv ⟨W, P, G, σ, a, Q, R, ha, t, r⟩
  cases a <;> first | exact False.elim t | skip
  · obtain rfl : x = .str _ := ha
    exact .inl (.inr ⟨_, rfl, t.1, r.str R t.2⟩)
  · obtain ⟨p, rfl, s1⟩ := ha
    exact .inl (.inl ⟨p, _, rfl, s1, fun q hq => r.new R hq (o := .lst _) (d := .lst _) (cutV_rp (RpL.ofInts _)) t⟩)
  · obtain ⟨p, xs, rfl, s1, r1⟩ := ha
    exact .inr ⟨p, xs, rfl, .of s1, by rw [r1.length]; exact t.1, fun q hq => r.newT R hq (cutV_rp r1) t.2⟩
  · obtain ⟨p, xs, rfl, s1, r1⟩ := ha
    exact .inl (.inl ⟨p, xs, rfl, .of s1, fun q hq => r.new R hq (o := .lst _) (d := .lst _) (cutV_rp r1) t⟩)
theorem de_sl {lo hi : Option Expr} {ta : DE} {tl th : DO} {p2 : Pos} (he : PE X e (can X.K ta)) (hl : PO X lo (canP X.K tl)) (hh : PO X hi (canP X.K th)) : PE X (.Subscript e (.Slice lo hi none p2) pos) (can X.K (dSl ta tl th)) := by
  refine PE.imp (pe_slice sd_sl he hl hh) ?_
  rintro σ H Qv ⟨W, P, G, Q, R, t, k⟩
  refine can_one R t fun W1 G1 sa x H1 l R1 s1 q => ?_
  refine ⟨W1, P, G1, _, R1, q, fun W2 lo G2 H2 l2 R2 q2 => ⟨W2, P, G2, _, R2, q2, fun W3 hi G3 H3 l3 R3 q3 => ?_⟩⟩
  obtain ⟨d, n, q⟩ := R3.see (s1.mono (l2.trans l3)) q3
  exact ⟨W3, P, G3, σ, d, fun r => Q r G3, R3, n, q, fun W4 sv v H4 l4 R4 r4 q4 => k W4 sv G3 v H4 (((l.trans l2).trans l3).trans l4) R4 r4 q4⟩
end
structure FnG (P : Program) (w : World) (K : PySem.W.Frag) (mg : Str → Option Value) (base : Heap) (k : Nat) (f : Addr) (fd : FuncData) (ps : List Str) (sp : Sp) : Prop where
  len : ∀ vs H Q E, sp vs H Q E → vs.length = ps.length
  run : ∀ (A : Around) (outer : List Env) (s : Shared) (H : Hp) (args : Args) (us : List Value) (vs : List V) (Q : VK), A.guards = some [] → Room k A → Env0 P w K mg base A outer s H → BindsTo s fd args (ps.zip us) → Vals vs us → sp vs H Q E0 →
    codeAny (model P w) A (.call (.ref f) args) (CR CX0 outer P w H s Q E0) s
theorem FnG.mono {P : Program} {w : World} {K : PySem.W.Frag} {mg : Str → Option Value} {base : Heap} {j k : Nat} {f : Addr} {fd : FuncData} {ps : List Str} {sp : Sp} (F : FnG P w K mg base j f fd ps sp) (h : j ≤ k) : FnG P w K mg base k f fd ps sp :=
  ⟨F.len, fun A outer s H args us vs Q g hr => F.run A outer s H args us vs Q g (hr.mono h)⟩
theorem fg_of {P : Program} {w : World} {K : PySem.W.Frag} {mg : Str → Option Value} {base : Heap} {k : Nat} {f : Addr} {x qual : Str} {st : Stmt} {dvs : List V} {fd : FuncData} {N ps : List Str} {sp : Sp}
    (F : FunD K x qual (defArgs st) (defBody st) (defScope st) dvs [] f fd) (S : FnScope N ps (defScope st)) (len : ∀ vs H Q E, sp vs H Q E → vs.length = ps.length)
    (body : ∀ (cdv : Value) (A : Around) (outer : List Env) (s : Shared) (H : Hp) (vs : List V) (Q : VK), (A.deeper (envOfC qual (defScope st) s.heap.objs.size f cdv)).guards = some [] → Room k (A.deeper (envOfC qual (defScope st) s.heap.objs.size f cdv)) → sp vs H Q E0 →
      ∃ t, PSs (cxOf CX0 P w K mg base N qual (defScope st) f cdv A outer s H E0).nox (defBody st) t ∧ t { nx := fun _ H' => Q .non H', rt := Q } (start N vs) H) : FnG P w K mg base (k + 1) f fd ps sp := by
  obtain ⟨oc, od, dV, kV, doc, pm, an, cdv, ct, osl, e, lk, hcd, _, _⟩ := F.ex
  subst e
  refine ⟨len, fun A outer s H args us vs Q g hr e0 hb r hsp => ?_⟩
  have KX : K.In s.heap := e0.mod.kin.keeps fun b o q => (e0.bs b o q).1
  have lim : s.heap.NoLimit := e0.mod.nolimit.keeps fun b o q => (e0.bs b o q).1
  have kinds : ∀ y ∈ ps.zip us, (defScope st).names.lookup y.1 = some .local ∨ ((defScope st).names.lookup y.1 = some .cell ∧ ((cellsFrom (s.heap.objs.size + 1) (defScope st).names []).lookup y.1).isSome = true) := by
    rintro ⟨n, v⟩ hy
    exact (S.par n (List.of_mem_zip hy).1).imp id fun q => ⟨q, PySem.W.cellsFrom_some _ _ _ (.inl q)⟩
  refine codeAny_call_function hr.depth (KX _ _ lk) rfl S.co S.gen rfl (PySem.W.codeRec_of KX hcd) (hb _ _ _ _ (wpAny_newFunctionEnv_cells S.kind kinds fun env he s1 x => ?_))
  subst he
  refine ⟨lim.keeps x.toInCall.keep, codeAny_func ?_⟩
  have gd : (A.deeper (envOfC qual (defScope st) s.heap.objs.size f cdv)).guards = some [] := g
  obtain ⟨t, ht, hq⟩ := body cdv A outer s H vs Q gd (hr.deeper _) hsp
  have I : Inv (cxOf CX0 P w K mg base N qual (defScope st) f cdv A outer s H E0) [] (start N vs) H s1 := inv_start S hr.hd e0 (len _ _ _ _ hsp) r x
  refine wpAny_mono (ht.nox.run [] s1 (start N vs) H _ I hq) (fun fl s' hs => ?_) fun _ _ hs => hs
  cases fl with
  | ret u => exact hs.elim fun v ⟨σ', H', J, rv, q⟩ => ⟨v, H', J.os, J.bare, J.base, J.hok, rv, q⟩
  | next => exact hs.elim fun σ' ⟨H', J, q⟩ => ⟨V.non, H', J.os, J.bare, J.base, J.hok, rfl, q⟩
  | brk => exact hs.elim fun _ ⟨_, _, q⟩ => q.elim
  | cont => exact hs.elim fun _ ⟨_, _, q⟩ => q.elim
section
variable {X : Cx} {k n : Nat} {f : Addr} {fd : FuncData} {ps ks : List Str} {sp : Sp} {x : Str} {p pos : Pos} {e : Expr} {es : List Expr} {kws : List Keyword} {t tk : TA} {g : List Value → List Value → List Value} {gV : List V → List V → List V}
theorem run_g {pins : List (Addr × Obj)} {σ : St} {H : Hp} {s : Shared} {Q : VK} {us ws : List Value} {vs zs : List V} (F : FnG X.prog X.w X.K X.mg X.base k f fd ps sp) (gd : X.A.guards = some []) (hr : Room k X.A) (hb : KBn X.K fd ps n ks g gV)
    (I : Inv X pins σ H s) (r : Vals vs us) (rz : Vals zs ws) (h1 : vs.length = n) (h2 : zs.length = ks.length) (h : sp (gV vs zs) H Q E0) : wpAny (model X.prog X.w) X.A (call (.ref f) us (ks.zip ws)) (EP X pins σ Q) X.xe s := by
  have bd := hb.to s us ws I.kIn (r.length.symm.trans h1) (rz.length.symm.trans h2)
  refine wpAny_call (codeAny_mono (F.run X.A X.stack s H ⟨us, ks.zip ws⟩ (g us ws) (gV vs zs) Q gd hr I.env0 bd (hb.rel r rz) h) fun r s' hq => ?_)
  cases r with
  | error e => exact False.elim hq
  | ok fl =>
    cases fl with
    | ret u => exact I.after hq
    | _ => exact False.elim hq
def tCallG (n m : Nat) (sp : Sp) (gV : List V → List V → List V) (t tk : TA) : TE := fun σ H Q => t σ H fun vs H1 => tk σ H1 fun zs H2 => vs.length = n ∧ zs.length = m ∧ sp (gV vs zs) H2 Q E0
theorem pg_call (F : FnG X.prog X.w X.K X.mg X.base k f fd ps sp) (gd : X.A.guards = some []) (hr : Room k X.A) (hm : X.mg x = some (.ref f)) (hk : PySem.W.keepIn X.K (.ref f) = true) (hb : KBn X.K fd ps n [] g gV)
    (ha : PA X (e :: es) t) (hg : Gl X x := by rfl) (hdb : (x == ("__debug__" : Str)) = false := by decide) (he : starEach (e :: es) X.env = (false, eval e X.env) :: starEach es X.env := by rfl) (hpl : (backTo pos (starEach es X.env)).any (·.1) = false := by rfl) :
    PE X (.Call (.Name x p) (e :: es) [] pos) (tCallG n 0 sp gV t tNil) := by
  refine ⟨fun pins s σ H Q I h => wpAny_Call_Name_kw (ld_glob I hg hm ?_ hdb)⟩
  refine PySem.W.callWith_K (h₀ := X.base) I.ok.mod.kin hk (thn (ha.run pos pins s σ H _ I h) fun us s1 ⟨vs, H1, I1, r, h1, h2, q⟩ => ⟨I1.kIn, ?_⟩) he hpl
  exact run_g (ws := []) F gd hr hb I1 r .nil h1 rfl q
end
abbrev DSp := Ct → List D → (SV → Ct → Prop) → Prop
def Full (W : Wd) (P H : Hp) : Prop := ∀ p o, H p = some o → W.F p = none → ¬ W.S p → (∀ xs, o ≠ .tup xs) → P p = some o
def dSp (K : PySem.W.Frag) (S : DSp) : Sp := fun vs H Q _ => ∃ W P n ds Qd, Rl K W P ⟨[], n⟩ [] H ∧ Full W P H ∧ RpL K W ds vs ∧ S n ds Qd ∧
  ∀ W' sv m v H', W.le W' → Rl K W' P ⟨[], m⟩ [] H' → RV K W' P ⟨[], m⟩ [] H' sv v → Qd sv m → Q v H'
abbrev FnD (P : Program) (w : World) (K : PySem.W.Frag) (mg : Str → Option Value) (base : Heap) (k : Nat) (f : Addr) (fd : FuncData) (ps : List Str) (S : DSp) : Prop := FnG P w K mg base k f fd ps (dSp K S)
section
variable {K : PySem.W.Frag} {W W' : Wd} {P P0 : Hp} {G : Gm} {σ : St} {H H' : Hp}
theorem Rl.enter (R : Rl K W P G σ H) : ∃ P0, Rl K W P0 ⟨[], G.c⟩ [] H ∧ Full W P0 H ∧ ∀ p o, P0 p = some o → H p = some o ∧ W.F p = none ∧ ¬ W.S p := by
  classical
  refine ⟨fun p => if W.F p = none ∧ ¬ W.S p ∧ ∀ xs, H p ≠ some (.tup xs) then H p else none, ⟨rfl, R.le, fun a h => ?_, fun p o e => ?_, fun i d e => ?_, fun i d e => ?_, fun i j d e _ h1 _ => ?_, fun p xs e => ?_, R.ext⟩, fun p o e f s n => ?_, fun p o e => ?_⟩
  · obtain ⟨h1, _, h3⟩ := R.src a h
    exact ⟨h1, if_neg fun z => z.2.1 h, h3⟩
  · split at e
    · rename_i z; exact ⟨e, z.1⟩
    · cases e
  · cases e
  · cases e
  · cases h1
  · split at e
    · rename_i z; exact z.2.2 xs e
    · cases e
  · show (if W.F p = none ∧ ¬ W.S p ∧ (∀ xs, H p ≠ some (.tup xs)) then H p else none) = some o
    rw [if_pos ⟨f, s, fun xs z => n xs (by rw [e] at z; exact Option.some.inj z)⟩]; exact e
  · have e : (if W.F p = none ∧ ¬ W.S p ∧ (∀ xs, H p ≠ some (.tup xs)) then H p else none) = some o := e
    split at e
    · rename_i z; exact ⟨e, z.1, z.2.1⟩
    · cases e
theorem RO.nt {p : Addr} {o : HO} {d : D} (h : RO K W p o d) : ∀ xs, o ≠ .tup xs := fun xs z => by subst z; cases d <;> exact h
theorem Rl.leave (R : Rl K W P G σ H) (F : Full W P0 H) (hP : ∀ p o, P0 p = some o → H p = some o ∧ W.F p = none ∧ ¬ W.S p) (l : W.le W') {m : Ct} (R' : Rl K W' P0 ⟨[], m⟩ [] H') : Rl K W' P (G.at m) σ H' := by
  have pp : ∀ p o, P p = some o → P0 p = some o := fun p o e => by
    obtain ⟨h1, h2⟩ := R.prot p o e
    exact F p o h1 h2 (fun s => by have := (R.src p s).2.1; rw [e] at this; cases this) fun xs z => R.pnt p xs (by rw [e, z])
  refine ⟨R.len, R'.le, fun a h => ?_, fun p o e => R'.prot p o (pp p o e), fun i d e => ?_, fun i d e => ?_, R.sep, R.pnt, R'.ext⟩
  · obtain ⟨h1, h2, h3⟩ := R'.src a h
    refine ⟨h1, ?_, h3⟩
    cases q : P a with
    | none => rfl
    | some o => rw [pp a o q] at h2; cases h2
  · obtain ⟨v, h1, h2⟩ := R.dat i d e
    exact ⟨v, h1, Rp.mono l _ _ h2⟩
  · obtain ⟨p, o, h1, h2, h3⟩ := R.own i d e
    have q := F p o h2.at_ h2.f h2.s h3.nt
    obtain ⟨a1, a2⟩ := R'.prot p o q
    exact ⟨p, o, h1, ⟨a1, a2, (fun s => by have := (R'.src p s).2.1; rw [q] at this; cases this), h2.n⟩, h3.mono l⟩
theorem Rl.result (R : Rl K W P G σ H) (F : Full W P0 H) {sv : SV} {v : V} {m : Ct} (r : RV K W' P0 ⟨[], m⟩ [] H' sv v) : RV K W' P (G.at m) σ H' sv v := by
  cases sv with
  | dat d => exact r
  | bor i => obtain ⟨h, _⟩ := r; cases h
  | new d =>
    obtain ⟨p, o, rfl, pr, ro, _⟩ := r
    refine ⟨p, o, rfl, ⟨pr.at_, pr.f, pr.s, ?_⟩, ro, fun i e h1 h2 => ?_⟩
    · cases q : P p with
      | none => rfl
      | some u =>
        obtain ⟨h1, h2⟩ := R.prot p u q
        have := F p u h1 h2 (fun s => by have := (R.src p s).2.1; rw [q] at this; cases this) fun xs z => R.pnt p xs (by rw [q, z])
        rw [pr.n] at this; cases this
    · obtain ⟨q, u, h3, h4, h5⟩ := R.own i e h1
      rw [h2] at h3; cases h3
      have := F p u h4.at_ h4.f h4.s h5.nt
      rw [pr.n] at this; cases this
end
structure Bnd (K : PySem.W.Frag) (fd : FuncData) (ps : List Str) (n : Nat) (ks : List Str) (gD : List D → List D → List D) : Prop where
  ex : ∃ g gV, KBn K fd ps n ks g gV ∧ ∀ (K' : PySem.W.Frag) (W : Wd) (ds es : List D) (vs zs : List V), RpL K' W ds vs → RpL K' W es zs → RpL K' W (gD ds es) (gV vs zs)
def sel {α : Type} (p : List Nat) (l : List α) : List α := p.filterMap fun i => l[i]?
theorem sel_paired {α β : Type} {R : α → β → Prop} (p : List Nat) {l : List α} {m : List β} (h : Paired R l m) : Paired R (sel p l) (sel p m) := by
  have gt : ∀ (i : Nat), (l[i]? = none ∧ m[i]? = none) ∨ ∃ a b, l[i]? = some a ∧ m[i]? = some b ∧ R a b := by
    intro i
    induction h generalizing i with
    | nil => exact .inl ⟨rfl, rfl⟩
    | cons r t ih => cases i with
      | zero => exact .inr ⟨_, _, rfl, rfl, r⟩
      | succ n => exact ih n
  induction p with
  | nil => exact .nil
  | cons i p ih =>
    unfold sel at ih ⊢
    rcases gt i with ⟨h1, h2⟩ | ⟨a, b, h1, h2, r⟩
    · rw [List.filterMap_cons, List.filterMap_cons, h1, h2]; exact ih
    · rw [List.filterMap_cons, List.filterMap_cons, h1, h2]; exact .cons r ih
theorem paired_of {K : PySem.W.Frag} {W : Wd} : ∀ {ds : List D} {vs : List V}, RpL K W ds vs → Paired (Rp K W) ds vs
  | [], _, h => by obtain rfl : _ = [] := h; exact .nil
  | d :: ds, _, h => by obtain ⟨v, r, rfl, h1, h2⟩ := h; exact .cons h1 (paired_of h2)
theorem of_paired {K : PySem.W.Frag} {W : Wd} : ∀ {ds : List D} {vs : List V}, Paired (Rp K W) ds vs → RpL K W ds vs
  | _, _, .nil => rfl
  | _, _, .cons h t => ⟨_, _, rfl, h, of_paired t⟩
theorem flats_rp {K : PySem.W.Frag} {W : Wd} : ∀ {ds : List D}, (∀ d ∈ ds, flatD d = true) → RpL K W ds (ds.map flV)
  | [], _ => rfl
  | d :: ds, f => ⟨flV d, ds.map flV, rfl, by
      have := f d List.mem_cons_self
      cases d <;> first | rfl | exact absurd this Bool.false_ne_true, flats_rp fun x hx => f x (List.mem_cons_of_mem _ hx)⟩
section
variable {K : PySem.W.Frag} {x qual : Str} {st : Stmt} {dd : List D} {f : Addr} {fd : FuncData} {ps : List Str}
abbrev FunT (K : PySem.W.Frag) (x qual : Str) (st : Stmt) (dd : List D) (f : Addr) (fd : FuncData) : Prop := FunD K x qual (defArgs st) (defBody st) (defScope st) (dd.map flV) [] f fd
theorem bnd_pos (F : FunT K x qual st [] f fd) (n : Nat) (hn : ps.length = n) (h : ∀ (kV doc pm : Value) (an : Option Addr) (cdv ct : Value) (us : List Value), us.length = n → bindArgs (PySem.W.fnOf x qual (defArgs st) (defBody st) (defScope st) .none kV doc pm an cdv ct) ⟨us, []⟩ = pure (ps.zip us)) :
    Bnd K fd ps n [] fun ds _ => ds := by
  refine ⟨fun us _ => us, fun vs _ => vs, ⟨fun s us ws X h1 h2 => ?_, fun r _ => r⟩, fun _ _ _ _ _ _ r _ => r⟩
  obtain rfl : ws = [] := List.length_eq_zero_iff.mp h2
  subst hn
  exact F.bindsA h s us h1
theorem bnd_def (F : FunT K x qual st dd f fd) (hd : dd ≠ []) (fl : ∀ d ∈ dd, flatD d = true) (n : Nat) (ks : List Str) (p : List Nat)
    (h : ∀ (T : Addr) (kV doc pm : Value) (an : Option Addr) (cdv ct : Value) (us ws its : List Value), us.length = n → ws.length = ks.length → its.length = dd.length →
      ∃ k, bindArgs (PySem.W.fnOf x qual (defArgs st) (defBody st) (defScope st) (.ref T) kV doc pm an cdv ct) ⟨us, ks.zip ws⟩ = seqItems? (.ref T) >>= k ∧ k (some its.toArray) = pure (ps.zip (sel p (us ++ ws ++ its)))) :
    Bnd K fd ps n ks fun ds es => sel p (ds ++ es ++ dd) := by
  obtain ⟨oc, od, dV, kV, doc, pm, an, cdv, ct, osl, rfl, lk, hcd, hD, hK⟩ := F.ex
  rcases hD with ⟨e, _⟩ | ⟨_, T, o, its, m, rfl, lT, oT, rT⟩
  · exact absurd (List.map_eq_nil_iff.mp e) hd
  · have l1 : its.length = dd.length := by rw [← rT.length, List.length_map]
    refine ⟨fun us ws => sel p (us ++ ws ++ its), fun vs zs => sel p (vs ++ zs ++ dd.map flV), ⟨fun s us ws X h1 h2 => ?_, fun r q => sel_paired p ((Vals.append r q).append rT)⟩, fun _ _ _ _ _ _ r q => of_paired (sel_paired p (paired_of (RpL.append (RpL.append r q) (flats_rp fl))))⟩
    obtain ⟨k, e1, e2⟩ := h T kV doc pm an cdv ct us ws its h1 h2 l1
    refine BindsTo.of_looks fun M => ?_
    rw [e1]
    exact looks_items X lT oT (.of_pure e2)
end
section
variable {X : Cx} {k n : Nat} {f : Addr} {fd : FuncData} {ps ks : List Str} {S : DSp} {x : Str} {p pos : Pos} {e : Expr} {es : List Expr} {kws : List Keyword} {gD : List D → List D → List D}
def dCall (n m : Nat) (S : DSp) (gD : List D → List D → List D) (t tk : DA) : DE := fun G Q => t G fun ds G1 => tk G1 fun es G2 => ds.length = n ∧ es.length = m ∧ S G2.c (gD ds es) fun r j => Q r (G2.at j)
theorem call_dat {K : PySem.W.Frag} {t tk : DA} {gV : List V → List V → List V} {σ : St} {H : Hp} {Qv : VK} (hg : ∀ (W : Wd) (ds es : List D) (vs zs : List V), RpL K W ds vs → RpL K W es zs → RpL K W (gD ds es) (gV vs zs)) (h : can K (dCall n ks.length S gD t tk) σ H Qv) :
    tCallG n ks.length (dSp K S) gV (canA K t) (canA K tk) σ H Qv := by
  obtain ⟨W, P, G, Q, R, t, kk⟩ := h
  refine ⟨W, P, G, _, R, t, fun W1 ds G1 vs H1 l1 R1 r1 q1 => ⟨W1, P, G1, _, R1, q1, fun W2 es G2 zs H2 l2 R2 r2 q2 => ?_⟩⟩
  obtain ⟨h1, h2, q⟩ := q2
  obtain ⟨P0, R0, F, hP⟩ := R2.enter
  refine ⟨by rw [r1.length]; exact h1, by rw [r2.length]; exact h2, W2, P0, _, _, _, R0, F, hg W2 ds es vs zs (RpL.mono l2 _ _ r1) r2, q, fun W3 sv j v H3 l3 R3 r3 q3 => ?_⟩
  exact kk W3 sv (G2.at j) v H3 ((l1.trans l2).trans l3) (R2.leave F hP l3 R3) (R2.result F r3) q3
theorem de_call {t : DA} (F : FnD X.prog X.w X.K X.mg X.base k f fd ps S) (gd : X.A.guards = some []) (hr : Room k X.A) (hm : X.mg x = some (.ref f)) (hk : PySem.W.keepIn X.K (.ref f) = true) (hb : Bnd X.K fd ps n [] gD)
    (ha : PA X (e :: es) (canA X.K t)) (hg : Gl X x := by rfl) (hdb : (x == ("__debug__" : Str)) = false := by decide) (he : starEach (e :: es) X.env = (false, eval e X.env) :: starEach es X.env := by rfl) (hpl : (backTo pos (starEach es X.env)).any (·.1) = false := by rfl) :
    PE X (.Call (.Name x p) (e :: es) [] pos) (can X.K (dCall n 0 S gD t dNil)) := by
  obtain ⟨g, gV, hb, hr2⟩ := hb.ex
  refine PE.imp (pg_call F gd hr hm hk hb ha hg hdb he hpl) fun σ H Q h => ?_
  have h2 : tCallG n 0 (dSp X.K S) gV (canA X.K t) (canA X.K dNil) σ H Q := call_dat (ks := []) (hr2 X.K) h
  obtain ⟨W, P, G, q, R, t, kk⟩ := h2
  refine ⟨W, P, G, q, R, t, fun W1 ds G1 vs H1 l1 R1 r1 q1 => ?_⟩
  obtain ⟨W2, P2, G2, q2, R2, t2, k2⟩ := kk W1 ds G1 vs H1 l1 R1 r1 q1
  exact k2 W2 [] G2 [] H1 (.refl W2) R2 rfl t2
end
structure DEnds where
  nx : Gm → Prop
  rt : SV → Ct → Prop
  bk : Gm → Prop := fun _ => False
  ct : Gm → Prop := fun _ => False
abbrev DS := DEnds → Gm → Prop
structure EndsOk (K : PySem.W.Frag) (W : Wd) (P : Hp) (E : DEnds) (D : Ends) : Prop where
  nx : ∀ W' G σ H, W.le W' → Rl K W' P G σ H → E.nx G → D.nx σ H
  bk : ∀ W' G σ H, W.le W' → Rl K W' P G σ H → E.bk G → D.bk σ H
  ct : ∀ W' G σ H, W.le W' → Rl K W' P G σ H → E.ct G → D.ct σ H
  rt : ∀ W' sv n v H, W.le W' → Rl K W' P ⟨[], n⟩ [] H → RV K W' P ⟨[], n⟩ [] H sv v → E.rt sv n → D.rt v H
theorem EndsOk.le {K : PySem.W.Frag} {W W' : Wd} {P : Hp} {E : DEnds} {D : Ends} (e : EndsOk K W P E D) (l : W.le W') : EndsOk K W' P E D :=
  ⟨fun W2 G σ H l2 => e.nx W2 G σ H (l.trans l2), fun W2 G σ H l2 => e.bk W2 G σ H (l.trans l2), fun W2 G σ H l2 => e.ct W2 G σ H (l.trans l2), fun W2 sv n v H l2 => e.rt W2 sv n v H (l.trans l2)⟩
def canS (K : PySem.W.Frag) (t : DS) : TS := fun D σ H => ∃ W P G E, Rl K W P G σ H ∧ t E G ∧ EndsOk K W P E D
section
variable {X : Cx} {K : PySem.W.Frag} {W : Wd} {P : Hp} {G : Gm} {σ : St} {H : Hp} {st : Stmt} {rst : List Stmt} {e : Expr} {pos : Pos}
theorem Rl.bare (R : Rl K W P G σ H) : Rl K W P ⟨[], G.c⟩ [] H := ⟨rfl, R.le, R.src, R.prot, fun _ _ e => (by cases e), fun _ _ e => (by cases e), fun _ _ _ _ _ e _ => (by cases e), R.pnt, R.ext⟩
def dNext : DS := fun E G => E.nx G
def dSeq (t u : DS) : DS := fun E G => t { E with nx := u E } G
theorem ds_nil : PSs X [] (canS X.K dNext) := PSs.imp pss_nil fun D σ H ⟨W, P, G, E, R, t, k⟩ => k.nx W G σ H (.refl W) R t
theorem ds_cons {t u : DS} (h1 : PS X st (canS X.K t)) (h2 : PSs X rst (canS X.K u)) : PSs X (st :: rst) (canS X.K (dSeq t u)) := by
  refine PSs.imp (pss_cons h1 h2) ?_
  rintro D σ H ⟨W, P, G, E, R, t, k⟩
  exact ⟨W, P, G, _, R, t, ⟨fun W1 G1 σ1 H1 l1 R1 q => ⟨W1, P, G1, E, R1, q, k.le l1⟩, k.bk, k.ct, k.rt⟩⟩
theorem ds_one {t : DS} (h1 : PS X st (canS X.K t)) : PSs X [st] (canS X.K t) := pss_one h1
def dBrk : DS := fun E G => E.bk G
def dCnt : DS := fun E G => E.ct G
def dDrop (t : DE) : DS := fun E G => t G fun _ G1 => E.nx G1
theorem ds_expr {t : DE} (he : PE X e (can X.K t)) (hs : swapsWith e none pos.line X.env = pure false := by rfl) : PS X (.Expr e pos) (canS X.K (dDrop t)) := by
  refine PS.imp (ps_expr he hs) ?_
  rintro D σ H ⟨W, P, G, E, R, t, k⟩
  exact ⟨W, P, G, _, R, t, fun W1 sv G1 v H1 l1 R1 r1 q => k.nx W1 G1 σ H1 l1 R1 q⟩
def rtS (G : Gm) (sv : SV) (k : SV → Prop) : Prop := match sv with
  | .bor i => match gg G i with | some (.own d) => k (.new d) | some (.dat d) => k (.dat d) | none => False
  | s => k s
def dRet (t : DE) : DS := fun E G => t G fun sv G1 => rtS G1 sv fun s => E.rt s G1.c
theorem rtS_ok (R : Rl K W P G σ H) {sv : SV} {v : V} {k : SV → Prop} (r : RV K W P G σ H sv v) (t : rtS G sv k) : ∃ sv', RV K W P ⟨[], G.c⟩ [] H sv' v ∧ k sv' := by
  cases sv with
  | dat d => exact ⟨.dat d, r, t⟩
  | new d =>
    obtain ⟨p, o, e, pr, ro, _⟩ := r
    exact ⟨.new d, ⟨p, o, e, pr, ro, fun i e h => (by cases h)⟩, t⟩
  | bor i =>
    obtain ⟨hv, _⟩ := r
    have t : (match gg G i with | some (.own d) => k (.new d) | some (.dat d) => k (.dat d) | none => False) := t
    cases e : gg G i with
    | none => rw [e] at t; exact t.elim
    | some x =>
      rw [e] at t
      cases x with
      | dat d =>
        obtain ⟨w, h1, h2⟩ := R.dat i d e
        rw [hv] at h1; cases h1
        exact ⟨.dat d, h2, t⟩
      | own d =>
        obtain ⟨p, o, h1, h2, h3⟩ := R.own i d e
        rw [hv] at h1; cases h1
        exact ⟨.new d, ⟨p, o, rfl, h2, h3, fun i e h => (by cases h)⟩, t⟩
theorem ds_ret {t : DE} (he : PE X e (can X.K t)) : PS X (.Return (some e) pos) (canS X.K (dRet t)) := by
  refine PS.imp (ps_ret he) ?_
  rintro D σ H ⟨W, P, G, E, R, t, k⟩
  refine ⟨W, P, G, _, R, t, fun W1 sv G1 v H1 l1 R1 r1 q => ?_⟩
  obtain ⟨sv', r', q'⟩ := rtS_ok R1 r1 q
  exact k.rt W1 sv' G1.c v H1 l1 R1.bare r' q'
def dRetN : DS := fun E G => E.rt (.dat .non) G.c
def dIfS (c : DT) (t u : DS) : DS := fun E G => c G fun b G1 => if b = true then t E G1 else u E G1
theorem ds_if {c : Expr} {a b : List Stmt} {tc : DT} {t u : DS} (hc : PT X c (canT X.K tc)) (ha : PSs X a (canS X.K t)) (hb : PSs X b (canS X.K u)) : PS X (.If c a b pos) (canS X.K (dIfS tc t u)) := by
  refine PS.imp (ps_if hc ha hb) ?_
  rintro D σ H ⟨W, P, G, E, R, t, k⟩
  refine ⟨W, P, G, _, R, t, fun W1 c G1 H1 l R1 q => ?_⟩
  cases c with
  | true => rw [if_pos rfl] at q ⊢; exact ⟨W1, P, G1, E, R1, q, k.le l⟩
  | false => rw [if_neg Bool.false_ne_true] at q ⊢; exact ⟨W1, P, G1, E, R1, q, k.le l⟩
def dNever : DS := fun _ _ => False
theorem dss_never : PSs X rst (canS X.K dNever) := PSs.imp pss_never fun D σ H ⟨W, P, G, E, R, t, k⟩ => t
theorem Rl.setDat (R : Rl K W P G σ H) (i : Nat) {d : D} {v : V} (r : Rp K W d v) : Rl K W P (gset G i (some (.dat d))) (σ.set i (some v)) H := by
  have key : ∀ {j : Nat} {x : SC}, gg (gset G i (some (.dat d))) j = some x → (j = i ∧ i < G.length ∧ x = .dat d) ∨ (j ≠ i ∧ gg G j = some x) := fun {j x} e => by
    by_cases hj : j = i
    · have hl : i < G.length := by have := gg_lt e; rw [gset_len] at this; omega
      rw [hj, gg_set_self _ _ _ hl] at e; cases e; exact .inl ⟨hj, hl, rfl⟩
    · rw [gg_set_ne _ _ _ _ hj] at e; exact .inr ⟨hj, e⟩
  have oth : ∀ {j : Nat}, j ≠ i → (σ.set i (some v))[j]? = σ[j]? := fun {j} h => List.getElem?_set_ne (Ne.symm h)
  refine ⟨by rw [gset_len, List.length_set]; exact R.len, R.le, R.src, R.prot, fun j x e => ?_, fun j x e => ?_, fun j k x y n h1 h2 => ?_, R.pnt, R.ext⟩
  · rcases key e with ⟨hj, hl, e'⟩ | ⟨hj, e'⟩
    · cases e'; subst hj
      exact ⟨v, List.getElem?_set_self (by rw [← R.len]; exact hl), r⟩
    · rw [oth hj]; exact R.dat j x e'
  · rcases key e with ⟨_, _, e'⟩ | ⟨hj, e'⟩
    · cases e'
    · rw [oth hj]; exact R.own j x e'
  · rcases key h1 with ⟨_, _, e'⟩ | ⟨hj, e1⟩
    · cases e'
    · rcases key h2 with ⟨_, _, e'⟩ | ⟨hk, e2⟩
      · cases e'
      · rw [oth hj, oth hk]; exact R.sep j k x y n e1 e2
theorem Rl.setOwn (R : Rl K W P G σ H) (i : Nat) {d : D} {p : Addr} {o : HO} (pr : Priv W H P p o) (r : RO K W p o d) (hn : ∀ i e, gg G i = some (.own e) → σ[i]? ≠ some (some (.ref p))) : Rl K W P (gset G i (some (.own d))) (σ.set i (some (.ref p))) H := by
  have key : ∀ {j : Nat} {x : SC}, gg (gset G i (some (.own d))) j = some x → (j = i ∧ i < G.length ∧ x = .own d) ∨ (j ≠ i ∧ gg G j = some x) := fun {j x} e => by
    by_cases hj : j = i
    · have hl : i < G.length := by have := gg_lt e; rw [gset_len] at this; omega
      rw [hj, gg_set_self _ _ _ hl] at e; cases e; exact .inl ⟨hj, hl, rfl⟩
    · rw [gg_set_ne _ _ _ _ hj] at e; exact .inr ⟨hj, e⟩
  have oth : ∀ {j : Nat}, j ≠ i → (σ.set i (some (V.ref p)))[j]? = σ[j]? := fun {j} h => List.getElem?_set_ne (Ne.symm h)
  have slf : i < G.length → (σ.set i (some (V.ref p)))[i]? = some (some (V.ref p)) := fun h => List.getElem?_set_self (by rw [← R.len]; exact h)
  refine ⟨by rw [gset_len, List.length_set]; exact R.len, R.le, R.src, R.prot, fun j x e => ?_, fun j x e => ?_, fun j k x y n h1 h2 => ?_, R.pnt, R.ext⟩
  · rcases key e with ⟨_, _, e'⟩ | ⟨hj, e'⟩
    · cases e'
    · rw [oth hj]; exact R.dat j x e'
  · rcases key e with ⟨hj, hl, e'⟩ | ⟨hj, e'⟩
    · cases e'; subst hj
      exact ⟨p, o, slf hl, pr, r⟩
    · rw [oth hj]; exact R.own j x e'
  · rcases key h1 with ⟨hj, hl, _⟩ | ⟨hj, e1⟩
    · rcases key h2 with ⟨hk, _, _⟩ | ⟨hk, e2⟩
      · exact absurd (hj.trans hk.symm) n
      · subst hj; rw [slf hl, oth hk]; exact fun z => hn k y e2 z.symm
    · rcases key h2 with ⟨hk, hl, _⟩ | ⟨hk, e2⟩
      · subst hk; rw [slf hl, oth hj]; exact hn j x e1
      · rw [oth hj, oth hk]; exact R.sep j k x y n e1 e2
def rest1 (G : Gm) (sv : SV) (k : SC → Gm → Prop) : Prop := match sv with
  | .dat d => k (.dat d) G
  | .new d => k (.own d) G
  | .bor i => match gg G i with | some (.own d) => k (.dat d) (gset G i (some (.dat d))) | some (.dat d) => k (.dat d) G | none => False
theorem Rl.rest (R : Rl K W P G σ H) {sv : SV} {v : V} {i : Nat} {k : SC → Gm → Prop} (r : RV K W P G σ H sv v) (t : rest1 G sv k) : ∃ W' c G', W.le W' ∧ Rl K W' P (gset G' i (some c)) (σ.set i (some v)) H ∧ k c G' := by
  cases sv with
  | dat d => exact ⟨W, .dat d, G, .refl W, R.setDat i r, t⟩
  | new d =>
    obtain ⟨p, o, rfl, pr, ro, hn⟩ := r
    exact ⟨W, .own d, G, .refl W, R.setOwn i pr ro hn, t⟩
  | bor j =>
    have t : LD.frz G (SV.bor j) fun d G1 => k (.dat d) G1 := t
    obtain ⟨W', d, G', l, R', r', q⟩ := R.frz r t
    exact ⟨W', .dat d, G', l, R'.setDat i r', q⟩
abbrev DG := SV → Gm → (Gm → Prop) → Prop
abbrev DGs := List D → Gm → (Gm → Prop) → Prop
def But (vs : List Nat) (σ σ' : St) : Prop := σ'.length = σ.length ∧ ∀ j, j ∉ vs → σ'[j]? = σ[j]?
theorem But.refl (vs : List Nat) (σ : St) : But vs σ σ := ⟨rfl, fun _ _ => rfl⟩
theorem But.trans {vs : List Nat} {a b c : St} (h : But vs a b) (g : But vs b c) : But vs a c := ⟨g.1.trans h.1, fun j hj => (g.2 j hj).trans (h.2 j hj)⟩
theorem But.set {vs : List Nat} {σ : St} {i : Nat} (h : i ∈ vs) (x : Option V) : But vs σ (σ.set i x) := ⟨List.length_set, fun j hj => List.getElem?_set_ne (show i ≠ j from fun e => hj (by rw [← e]; exact h))⟩
def canG (K : PySem.W.Frag) (vs : List Nat) (t : DG) : TG := fun v σ H Qs => ∃ W P G sv Q, Rl K W P G σ H ∧ RV K W P G σ H sv v ∧ t sv G Q ∧ ∀ W' G' σ' H', W.le W' → Rl K W' P G' σ' H' → But vs σ σ' → Q G' → Qs σ' H'
def canGs (K : PySem.W.Frag) (ws : List Nat) (t : DGs) : TGs := fun vs σ H Qs => ∃ W P G ds Q, Rl K W P G σ H ∧ RpL K W ds vs ∧ t ds G Q ∧ ∀ W' G' σ' H', W.le W' → Rl K W' P G' σ' H' → But ws σ σ' → Q G' → Qs σ' H'
theorem PG.imp {t u : TG} (h : PG X e t) (i : ∀ v σ H Q, u v σ H Q → t v σ H Q) : PG X e u := ⟨fun pins s σ H v x Q I r q => h.run pins s σ H v x Q I r (i v σ H Q q)⟩
theorem PGs.imp {es : List Expr} {t u : TGs} (h : PGs X es t) (i : ∀ v σ H Q, u v σ H Q → t v σ H Q) : PGs X es u := ⟨fun pins s σ H v x Q I r q => h.run pins s σ H v x Q I r (i v σ H Q q)⟩
def dgName (i : Nat) : DG := fun sv G Q => rest1 G sv fun c G1 => Q (gset G1 i (some c))
theorem dg_name {x : Str} {ws : List Nat} (i : Nat) (hN : X.N.Nodup) (hw : i ∈ ws := by decide) (hi : X.N[i]? = some x := by rfl) (hx : Loc X.env.scope x := by first | exact Or.inl rfl | exact Or.inr rfl) (hf : X.fn x = true ∨ X.env.scope.names.lookup x = some .local := by first | exact .inl rfl | exact .inr rfl) : PG X (.Name x pos) (canG X.K ws (dgName i)) := by
  refine PG.imp (pg_name hN hi hx hf) ?_
  rintro v σ H Qs ⟨W, P, G, sv, Q, R, r, t, k⟩
  obtain ⟨W', c, G', l, R', q⟩ := R.rest (i := i) r t
  exact k W' _ _ H l R' (But.set hw _) q
def dgNil : DGs := fun ds G Q => ds = [] ∧ Q G
def dgCons (t : DG) (u : DGs) : DGs := fun ds G Q => match ds with
  | d :: r => t (.dat d) G fun G1 => u r G1 Q
  | [] => False
theorem dgs_nil {ws : List Nat} : PGs X [] (canGs X.K ws dgNil) := by
  refine PGs.imp pgs_nil ?_
  rintro vs σ H Qs ⟨W, P, G, ds, Q, R, r, ⟨e, t⟩, k⟩
  subst e
  exact ⟨r, k W G σ H (.refl W) R (.refl _ _) t⟩
theorem dgs_cons {es : List Expr} {t : DG} {u : DGs} {ws : List Nat} (h1 : PG X e (canG X.K ws t)) (h2 : PGs X es (canGs X.K ws u)) (hs : (assignEach (e :: es) X.env).map (·.2) = assign e X.env :: (assignEach es X.env).map (·.2) := by rfl) : PGs X (e :: es) (canGs X.K ws (dgCons t u)) := by
  refine PGs.imp (pgs_cons h1 h2 hs) ?_
  rintro vs σ H Qs ⟨W, P, G, ds, Q, R, r, t, k⟩
  cases ds with
  | nil => exact False.elim t
  | cons d r' =>
    obtain ⟨v, w, rfl, h1, h2⟩ := r
    exact ⟨v, w, rfl, W, P, G, .dat d, _, R, h1, t, fun W1 G1 σ1 H1 l R1 b1 q => ⟨W1, P, G1, r', Q, R1, RpL.mono l _ _ h2, q, fun W2 G2 σ2 H2 l2 R2 b2 q2 => k W2 G2 σ2 H2 (l.trans l2) R2 (b1.trans b2) q2⟩⟩
def dgTup (n : Nat) (t : DGs) : DG := fun sv G Q => match sv with
  | .dat (.tup ds) => ds.length = n ∧ t ds G Q
  | _ => False
theorem dg_tup {es : List Expr} {k : Nat} {t : DGs} {n : Nat} {ws : List Nat} (h : PGs X es (canGs X.K ws t)) (hc : X.calm = true := by rfl) (hn : (assignEach es X.env).length = n := by rfl) (hst : (assignEach es X.env).findIdx? (·.1) = none := by rfl) : PG X (.Tuple es k pos) (canG X.K ws (dgTup n t)) := by
  refine PG.imp (pg_tup hc h hn hst) ?_
  rintro v σ H Qs ⟨W, P, G, sv, Q, R, r, t, k⟩
  cases sv <;> first | exact False.elim t | skip
  rename_i d
  cases d <;> first | exact False.elim t | skip
  obtain ⟨a, xs, rfl, e, r⟩ := r
  exact ⟨a, xs, rfl, .of (R.le _ _ e), by rw [r.length]; exact t.1, W, P, G, _, Q, R, r, t.2, k⟩
def dAsg (t : DE) (g : DG) : DS := fun E G => t G fun sv G1 => g sv G1 E.nx
theorem asg_ok {t : DE} {g : DG} {D : Ends} {ws : List Nat} (h : canS K (dAsg t g) D σ H) : tAsg (can K t) (canG K ws g) D σ H := by
  obtain ⟨W, P, G, E, R, t, k⟩ := h
  exact ⟨W, P, G, _, R, t, fun W1 sv G1 v H1 l1 R1 r1 q => ⟨W1, P, G1, sv, _, R1, r1, q, fun W2 G2 σ2 H2 l2 R2 _ q2 => k.nx W2 G2 σ2 H2 (l1.trans l2) R2 q2⟩⟩
theorem ds_set {x : Str} (i : Nat) {t : DE} {pos' : Pos} (hN : X.N.Nodup) (he : PE X e (can X.K t)) (hi : X.N[i]? = some x := by rfl) (hx : Loc X.env.scope x := by first | exact Or.inl rfl | exact Or.inr rfl)
    (hs : swapsWith e (some (.Name x pos')) pos.line X.env = pure false := by rfl) (hf : X.fn x = true ∨ X.env.scope.names.lookup x = some .local := by first | exact .inl rfl | exact .inr rfl) :
    PS X (.Assign [.Name x pos'] e pos) (canS X.K (dAsg t (dgName i))) := by
  refine PS.imp (ps_set hN hi hx he hs hf) fun D σ H h => ?_
  obtain ⟨W, P, G, Q, R, t, k⟩ := asg_ok (ws := [i]) h
  refine ⟨W, P, G, Q, R, t, fun W1 sv G1 v H1 l1 R1 r1 q => ?_⟩
  obtain ⟨W2, P2, G2, sv2, Q2, R2, r2, t2, k2⟩ := k W1 sv G1 v H1 l1 R1 r1 q
  obtain ⟨W', c, G', l, R', q⟩ := R2.rest (i := i) r2 t2
  exact k2 W' _ _ H1 l R' (But.set (by simp) _) q
def dPar (i j : Nat) (t : DA) : DS := fun E G => t G fun ds G1 => match ds with
  | a :: b :: r => r = [] ∧ E.nx (gset (gset G1 i (some (.dat a))) j (some (.dat b)))
  | _ => False
def dAug (i : Nat) (dr : D2) (t : DE) : DS := fun E G => match gg G i with
  | some (.dat a) => t G fun sv G1 => see G1 sv fun b => flatD a = true ∧ dr a b fun r => rest1 G1 r fun c G2 => E.nx (gset G2 i (some c))
  | _ => False
def dIAdd : D2 := fun a b Q => match a, b with | .int i, .int j => Q (.dat (.int (i + j))) | _, _ => False
end
def Walks (K : PySem.W.Frag) (W0 : Wd) (J : It) (ds : List D) : Prop := ∀ W P G σ H i, W0.le W → Rl K W P G σ H →
  (∀ d, ds[i]? = some d → J.go i H ∧ ∀ x H', J.yld i H x H' → ∃ W', W.le W' ∧ Rl K W' P G σ H' ∧ Rp K W' d x) ∧ (ds.length ≤ i → J.stop i H)
abbrev DI := Gm → (List D → Gm → Prop) → Prop
def canI (K : PySem.W.Frag) (t : DI) : TI := fun σ H R => ∃ W P G Q, Rl K W P G σ H ∧ t G Q ∧ ∀ W' ds G' J H', W.le W' → Rl K W' P G' σ H' → Walks K W' J ds → Q ds G' → R J H'
section
variable {X : Cx} {K : PySem.W.Frag} {W : Wd} {P : Hp} {G : Gm} {σ : St} {H : Hp} {e a b tg iter : Expr} {pos : Pos}
theorem PI.imp {t u : TI} (h : PI X tg e t) (i : ∀ σ H R, u σ H R → t σ H R) : PI X tg e u := ⟨fun pins s σ H R I q => h.run pins s σ H R I (i σ H R q)⟩
theorem walks_list {p : Addr} {xs : List V} {ds : List D} (e : W.F p = some (.lst xs)) (r : RpL K W ds xs) : Walks K W (Itl K p) ds := by
  intro W' P G σ H i l R
  have e' : H p = some (.lst xs) := R.le _ _ (l.f _ _ e)
  refine ⟨fun d hd => ?_, fun hi => ⟨xs, .of e', by rw [r.length]; exact hi⟩⟩
  obtain ⟨v, hv, rv⟩ := r.get hd
  refine ⟨⟨xs, v, .of e', hv⟩, fun x H' ⟨h1, h2⟩ => ?_⟩
  subst h1
  have := h2 xs (.of e')
  rw [hv] at this; cases this
  exact ⟨W', .refl W', R, Rp.mono l _ _ rv⟩
theorem walks_tup {p : Addr} {xs : List V} {ds : List D} (e : W.F p = some (.tup xs)) (r : RpL K W ds xs) : Walks K W (Itt K p) ds := by
  intro W' P G σ H i l R
  have e' : H p = some (.tup xs) := R.le _ _ (l.f _ _ e)
  refine ⟨fun d hd => ?_, fun hi => ⟨xs, .of e', by rw [r.length]; exact hi⟩⟩
  obtain ⟨v, hv, rv⟩ := r.get hd
  refine ⟨⟨xs, v, .of e', hv⟩, fun x H' ⟨h1, h2⟩ => ?_⟩
  subst h1
  have := h2 xs (.of e')
  rw [hv] at this; cases this
  exact ⟨W', .refl W', R, Rp.mono l _ _ rv⟩
def rangeD (lo : Int) : Nat → List D
  | 0 => []
  | n + 1 => .int lo :: rangeD (lo + 1) n
theorem rangeD_get : ∀ (n : Nat) (lo : Int) (i : Nat), (rangeD lo n)[i]? = if i < n then some (.int (lo + i)) else none
  | 0, lo, i => by simp [rangeD]
  | n + 1, lo, 0 => by simp [rangeD]
  | n + 1, lo, i + 1 => by
    show (rangeD (lo + 1) n)[i]? = _
    rw [rangeD_get n]
    by_cases h : i < n
    · rw [if_pos h, if_pos (by omega)]; congr 2; omega
    · rw [if_neg h, if_neg (by omega)]
theorem rangeD_len : ∀ (n : Nat) (lo : Int), (rangeD lo n).length = n
  | 0, _ => rfl
  | n + 1, lo => congrArg Nat.succ (rangeD_len n (lo + 1))
theorem walks_range (lo : Int) (n : Nat) : Walks K W (Itr lo n) (rangeD lo n) := by
  intro W' P G σ H i l R
  refine ⟨fun d hd => ?_, fun hi => by rw [rangeD_len] at hi; exact hi⟩
  rw [rangeD_get] at hd
  by_cases h : i < n
  · rw [if_pos h] at hd; cases hd
    refine ⟨h, fun x H' ⟨h1, h2⟩ => ?_⟩
    subst h1 h2
    exact ⟨W', .refl W', R, rfl⟩
  · rw [if_neg h] at hd; cases hd
def enumD : Int → List D → List D
  | _, [] => []
  | i, d :: r => .tup [.int i, d] :: enumD (i + 1) r
theorem enumD_get : ∀ (ds : List D) (k : Int) (i : Nat), (enumD k ds)[i]? = (ds[i]?).map fun d => .tup [.int (k + i), d]
  | [], _, _ => by simp [enumD]
  | d :: r, k, 0 => by simp [enumD]
  | d :: r, k, i + 1 => by
    show (enumD (k + 1) r)[i]? = _
    rw [enumD_get r]
    show _ = (r[i]?).map _
    congr 1; funext x; congr 3; omega
theorem enumD_len : ∀ (ds : List D) (k : Int), (enumD k ds).length = ds.length
  | [], _ => rfl
  | d :: r, k => congrArg Nat.succ (enumD_len r (k + 1))
def zipD : List D → List D → List D
  | a :: r, b :: s => .tup [a, b] :: zipD r s
  | _, _ => []
def asL (d : D) (k : List D → Prop) : Prop := match d with
  | .lst ds => k ds
  | .tup ds => k ds
  | .scr ns => k (ns.map D.int)
  | _ => False
def dWalk (t : DE) : DI := fun G Q => t G fun sv G1 => frz G1 sv fun d G2 => asL d fun ds => Q ds G2
def iAny (K : PySem.W.Frag) (tl : TE) : TI := fun σ H R => tl σ H fun x H1 => ∃ a, x = .ref a ∧ (((∃ xs, SqL K H1 a xs) ∧ R (Itl K a) H1) ∨ ((∃ xs, SqT K H1 a xs) ∧ R (Itt K a) H1))
theorem pi_any {tl : TE} (hl : PE X e tl) : PI X tg e (iAny X.K tl) := by
  refine ⟨fun pins s σ H R I h => thn (hl.run pins s σ H _ I h) fun v s1 ⟨x, H1, I1, r1, p, ex, q1⟩ => ?_⟩
  subst ex
  cases r1
  have I2 : ∀ o : Obj, Inv X pins σ H1 { s1 with heap := s1.heap.push o } := fun o => I1.kept (t' := s1.toks) fun b u z => Heap.get?_push_of_some _ z
  have new : ∀ b ∈ [s1.heap.objs.size], FpOk X pins H1 b := fun b hb => by
    obtain rfl := List.mem_singleton.mp hb
    exact I1.fpOk (Nat.le_refl _) (I1.hok.fresh (Nat.le_refl _))
  rcases q1 with ⟨⟨xs, hq⟩, q⟩ | ⟨⟨xs, hq⟩, q⟩
  · obtain ⟨its, _, pl, _⟩ := I1.list hq
    exact wpAny_pyIter_list pl.isList ⟨s1.heap.objs.size, _, _, _, H1, rfl, I2 _, turn_list p _, ⟨_, Heap.get?_push_size _ rfl, rfl, rfl⟩, new, q⟩
  · obtain ⟨its, _, pl, _⟩ := I1.tuple hq
    exact wpAny_pyIter_tuple (show s1.heap.IsTuple p its.toArray from pl) ⟨s1.heap.objs.size, _, _, _, H1, rfl, I2 _, turn_tuple p _, ⟨_, Heap.get?_push_size _ rfl, rfl, rfl⟩, new, q⟩
theorem walks_scr {p : Addr} {ns : List Int} (e : SqL K W.F p (ns.map V.int)) : Walks K W (Itl K p) (ns.map D.int) := by
  intro W' P G σ H i l R
  have e' : SqL K H p (ns.map V.int) := R.sqL (sqL_le l e)
  refine ⟨fun d hd => ?_, fun hi => ⟨_, e', by rw [List.length_map] at hi ⊢; exact hi⟩⟩
  rw [List.getElem?_map] at hd
  obtain ⟨n, hn, rfl⟩ := Option.map_eq_some_iff.mp hd
  have hv : (ns.map V.int)[i]? = some (.int n) := by rw [List.getElem?_map, hn]; rfl
  refine ⟨⟨_, .int n, e', hv⟩, fun x H' ⟨h1, h2⟩ => ?_⟩
  subst h1
  have := h2 _ e'
  rw [hv] at this; cases this
  exact ⟨W', .refl W', R, rfl⟩
theorem asL_ok (R : Rl K W P G σ H) {d : D} {x : V} {k : List D → Prop} (r : Rp K W d x) (t : asL d k) : ∃ p xs ds, x = .ref p ∧ k ds ∧ RpL K W ds xs ∧ ((SqL K W.F p xs ∧ Walks K W (Itl K p) ds) ∨ (SqT K W.F p xs ∧ Walks K W (Itt K p) ds)) := by
  cases d <;> first | exact False.elim t | skip
  · obtain ⟨p, rfl, s⟩ := r
    exact ⟨p, _, _, rfl, t, RpL.ofInts _, .inl ⟨s, walks_scr s⟩⟩
  · obtain ⟨p, xs, rfl, s, r⟩ := r
    exact ⟨p, xs, _, rfl, t, r, .inr ⟨.of s, walks_tup s r⟩⟩
  · obtain ⟨p, xs, rfl, s, r⟩ := r
    exact ⟨p, xs, _, rfl, t, r, .inl ⟨.of s, walks_list s r⟩⟩
theorem di_walk {t : DE} (h : PE X e (can X.K t)) : PI X tg e (canI X.K (dWalk t)) := by
  refine PI.imp (pi_any h) ?_
  rintro σ H R0 ⟨W, P, G, Q, R, t, k⟩
  refine ⟨W, P, G, _, R, t, fun W1 sv G1 v H1 l1 R1 r1 q1 => ?_⟩
  obtain ⟨W2, d, G2, l2, R2, r2, q2⟩ := R1.frz r1 q1
  obtain ⟨p, xs, ds, rfl, q, _, w⟩ := asL_ok R2 r2 q2
  refine ⟨p, rfl, ?_⟩
  rcases w with ⟨s, w⟩ | ⟨s, w⟩
  · exact .inl ⟨⟨xs, R2.sqL s⟩, k W2 ds G2 _ H1 (l1.trans l2) R2 w q⟩
  · exact .inr ⟨⟨xs, R2.sqT s⟩, k W2 ds G2 _ H1 (l1.trans l2) R2 w q⟩
def dRng1 (t : DA) : DI := fun G Q => t G fun ds G1 => match ds with
  | .int j :: _ => (-(2 ^ 62) ≤ j ∧ j < 2 ^ 62) ∧ ds.length = 1 ∧ Q (rangeD 0 j.toNat) G1
  | _ => False
def dRng2 (t : DA) : DI := fun G Q => t G fun ds G1 => match ds with
  | .int i :: .int j :: _ => (-(2 ^ 62) ≤ i ∧ i < 2 ^ 62 ∧ -(2 ^ 62) ≤ j ∧ j < 2 ^ 62) ∧ ds.length = 2 ∧ Q (rangeD i (j - i).toNat) G1
  | _ => False
theorem di_range1 {t : DA} {p : Pos} (hm : X.mg "range" = none) (ha : PA X [a] (canA X.K t)) (hg : Gl X "range" := by rfl) (hs : starEach [a] X.env = [(false, eval a X.env)] := by rfl) : PI X tg (.Call (.Name "range" p) [a] [] pos) (canI X.K (dRng1 t)) := by
  refine PI.imp (pi_range1 hg hm ha hs) ?_
  rintro σ H R0 ⟨W, P, G, Q, R, t, k⟩
  refine ⟨W, P, G, _, R, t, fun W1 ds G1 vs H1 l1 R1 r1 q1 => ?_⟩
  cases ds with
  | nil => exact False.elim q1
  | cons d r =>
    cases d <;> first | exact False.elim q1 | skip
    rename_i j
    obtain ⟨⟨h1, h2⟩, hl, q⟩ := q1
    obtain ⟨v, w, rfl, rfl, r2⟩ := r1
    have : r = [] := List.length_eq_zero_iff.mp (Nat.succ.inj hl)
    subst this
    obtain rfl : w = [] := r2
    exact ⟨j, rfl, h1, h2, k W1 _ G1 _ H1 l1 R1 (walks_range 0 _) q⟩
def dEnum (t : DA) : DI := fun G Q => t G fun ds G1 => match ds with
  | d :: r => r = [] ∧ asLs d fun es => Q (enumD 0 es) G1
  | _ => False
where asLs (d : D) (k : List D → Prop) : Prop := match d with
  | .lst ds => k ds
  | .scr ns => k (ns.map D.int)
  | _ => False
theorem asLs_ok {d : D} {x : V} {k : List D → Prop} (r : Rp K W d x) (t : dEnum.asLs d k) : ∃ p xs ds, x = .ref p ∧ k ds ∧ RpL K W ds xs ∧ SqL K W.F p xs := by
  cases d <;> first | exact False.elim t | skip
  · obtain ⟨p, rfl, s⟩ := r
    exact ⟨p, _, _, rfl, t, RpL.ofInts _, s⟩
  · obtain ⟨p, xs, rfl, s, r⟩ := r
    exact ⟨p, xs, _, rfl, t, r, .of s⟩
theorem walks_enum {p : Addr} {xs : List V} {ds : List D} (e : SqL K W.F p xs) (r : RpL K W ds xs) : Walks K W (Ite K p) (enumD 0 ds) := by
  intro W' P G σ H i l R
  have e' : SqL K H p xs := R.sqL (sqL_le l e)
  refine ⟨fun d hd => ?_, fun hi => ⟨xs, e', by rw [r.length]; rw [enumD_len] at hi; exact hi⟩⟩
  rw [enumD_get] at hd
  obtain ⟨x0, hx, rfl⟩ := Option.map_eq_some_iff.mp hd
  obtain ⟨v, hv, rv⟩ := r.get hx
  refine ⟨⟨xs, v, e', hv⟩, fun x H' ⟨T, y, h1, h2, h3, h4⟩ => ?_⟩
  subst h1 h3
  have := h4 xs e'
  rw [hv] at this; cases this
  obtain ⟨W2, l2, R2, r2⟩ := R.allocT (ds := [.int (i : Nat), x0]) h2 ⟨_, _, rfl, rfl, _, _, rfl, Rp.mono l _ _ rv, rfl⟩
  exact ⟨W2, l2, R2, by rw [show (0 : Int) + (i : Nat) = (i : Nat) by omega]; exact r2⟩
theorem di_enum {t : DA} {p : Pos} {elts : List Expr} {kk : Nat} {tpos : Pos} (hm : X.mg "enumerate" = none) (ha : PA X [e] (canA X.K t)) (hg : Gl X "enumerate" := by rfl) (hs : starEach [e] X.env = [(false, eval e X.env)] := by rfl) : PI X (.Tuple elts kk tpos) (.Call (.Name "enumerate" p) [e] [] pos) (canI X.K (dEnum t)) := by
  refine PI.imp (pi_enum hg hm ha hs) ?_
  rintro σ H R0 ⟨W, P, G, Q, R, t, k⟩
  refine ⟨W, P, G, _, R, t, fun W1 ds G1 vs H1 l1 R1 r1 q1 => ?_⟩
  cases ds with
  | nil => exact False.elim q1
  | cons d r =>
    obtain ⟨e, q⟩ := q1
    subst e
    obtain ⟨v, w, rfl, r1, r2⟩ := r1
    obtain rfl : w = [] := r2
    obtain ⟨p, xs, ds, rfl, q, rr, s⟩ := asLs_ok r1 q
    exact ⟨p, xs, rfl, R1.sqL s, k W1 _ G1 _ H1 l1 R1 (walks_enum s rr) q⟩
def dZip (t : DA) : DI := fun G Q => t G fun ds G1 => match ds with
  | d :: e :: r => r = [] ∧ dEnum.asLs d fun es => dEnum.asLs e fun fs => Q (zipD es fs) G1
  | _ => False
def forL (g : DG) (tb : DS) (E : DEnds) : List D → Gm → Prop
  | [], G => E.nx G
  | d :: r, G => g (.dat d) G fun G1 => tb { E with nx := forL g tb E r, ct := forL g tb E r, bk := E.nx } G1
def dFor (t : DI) (g : DG) (tb : DS) : DS := fun E G => t G fun ds G1 => forL g tb E ds G1
def ForB (g : TG) (tb : TS) (D : Ends) (σ : St) (J : It) (H1 : Hp) : Prop := ∃ W : Nat → Nat → St → Hp → Prop, (∃ m, W 0 m σ H1) ∧ ∀ i m σ H, W i m σ H →
  (J.stop i H ∧ D.nx σ H) ∨ (J.go i H ∧ ∃ N : St → Hp → Prop, (∀ σ' H', N σ' H' → ∃ m', m' < m ∧ W (i + 1) m' σ' H') ∧ ∀ x H', J.yld i H x H' → g x σ H' fun σ2 H2 => tb { D with nx := N, ct := N, bk := D.nx } σ2 H2)
theorem for_J {g : DG} {tb : DS} {ws : List Nat} {E : DEnds} {W1 : Wd} {G1 : Gm} {H1 : Hp} {J : It} {ds : List D} {D : Ends} (R1 : Rl K W1 P G1 σ H1) (w : Walks K W1 J ds) (q : forL g tb E ds G1) (k : EndsOk K W1 P E D) : ForB (canG K ws g) (canS K tb) D σ J H1 := by
  refine ⟨fun i m σ H => ∃ W2 G2, W1.le W2 ∧ Rl K W2 P G2 σ H ∧ i + m = ds.length ∧ forL g tb E (ds.drop i) G2, ⟨ds.length, W1, G1, .refl W1, R1, by omega, q⟩, ?_⟩
  rintro i m σ H ⟨W2, G2, l2, R2, hm, q2⟩
  obtain ⟨w1, w2⟩ := w W2 P G2 σ H i l2 R2
  by_cases hi : i < ds.length
  · obtain ⟨hgo, hy⟩ := w1 ds[i] (List.getElem?_eq_getElem hi)
    rw [List.drop_eq_getElem_cons hi] at q2
    refine .inr ⟨hgo, fun σ' H' => ∃ W3 G3, W1.le W3 ∧ Rl K W3 P G3 σ' H' ∧ forL g tb E (ds.drop (i + 1)) G3, fun σ' H' ⟨W3, G3, l3, R3, q3⟩ => ⟨m - 1, by omega, W3, G3, l3, R3, by omega, q3⟩, fun x H' hx => ?_⟩
    obtain ⟨W3, l3, R3, r3⟩ := hy x H' hx
    refine ⟨W3, P, G2, .dat ds[i], _, R3, r3, q2, fun W4 G4 σ4 H4 l4 R4 _ q4 => ?_⟩
    have l5 : W1.le W4 := (l2.trans l3).trans l4
    exact ⟨W4, P, G4, _, R4, q4, ⟨fun W6 G6 σ6 H6 l6 R6 q6 => ⟨W6, G6, l5.trans l6, R6, q6⟩, fun W6 G6 σ6 H6 l6 R6 q6 => k.nx W6 G6 σ6 H6 (l5.trans l6) R6 q6,
      fun W6 G6 σ6 H6 l6 R6 q6 => ⟨W6, G6, l5.trans l6, R6, q6⟩, fun W6 sv n v H6 l6 => k.rt W6 sv n v H6 (l5.trans l6)⟩⟩
  · rw [List.drop_eq_nil_of_le (by omega)] at q2
    exact .inl ⟨w2 (by omega), k.nx W2 G2 σ H l2 R2 q2⟩
theorem ds_for {body : List Stmt} {t : DI} {g : DG} {tb : DS} {ws : List Nat} (hp : PassesOwn (model X.prog X.w) X.A X.env X.xe) (hi : PI X tg iter (canI X.K t)) (hg : PG X tg (canG X.K ws g)) (hb : PSs X body (canS X.K tb)) (hc : X.calm = true := by rfl)
    (hs : ∀ x, foldedSetIterable iter X.env x = pure x := by intro _; rfl) : PS X (.For tg iter body [] pos) (canS X.K (dFor t g tb)) := by
  refine PS.imp (ps_for hp hc hi hg hb hs) ?_
  rintro D σ H ⟨W, P, G, E, R, t, k⟩
  exact ⟨W, P, G, _, R, t, fun W1 ds G1 J H1 l1 R1 w q => for_J R1 w q (k.le l1)⟩
def whN (c : DT) (tb : DS) (E : DEnds) : Nat → Gm → Prop
  | 0, _ => False
  | n + 1, G => c G fun b G1 => if b = true then tb { E with nx := whN c tb E n, ct := whN c tb E n, bk := E.nx } G1 else E.nx G1
def dWhile (c : DT) (tb : DS) : DS := fun E G => ∃ n, whN c tb E n G
theorem ds_while {c : Expr} {body : List Stmt} {tc : DT} {tb : DS} (hp : PassesOwn (model X.prog X.w) X.A X.env X.xe) (hc : PT X c (canT X.K tc)) (hb : PSs X body (canS X.K tb)) : PS X (.While c body [] pos) (canS X.K (dWhile tc tb)) := by
  refine PS.imp (ps_while hp hc hb) ?_
  rintro D σ H ⟨W, P, G, E, R, ⟨n, t⟩, k⟩
  refine ⟨fun m σ H => ∃ W2 G2, W.le W2 ∧ Rl X.K W2 P G2 σ H ∧ whN tc tb E m G2, ⟨n, W, G, .refl W, R, t⟩, ?_⟩
  rintro m σ H ⟨W2, G2, l2, R2, q2⟩
  cases m with
  | zero => exact False.elim q2
  | succ m =>
    refine ⟨W2, P, G2, _, R2, q2, fun W3 b G3 H3 l3 R3 q3 => ?_⟩
    cases b with
    | true =>
      rw [if_pos rfl] at q3 ⊢
      refine ⟨fun σ' H' => ∃ W4 G4, W.le W4 ∧ Rl X.K W4 P G4 σ' H' ∧ whN tc tb E m G4, fun σ' H' ⟨W4, G4, l4, R4, q4⟩ => ⟨m, Nat.lt_succ_self _, W4, G4, l4, R4, q4⟩, ?_⟩
      have l5 : W.le W3 := l2.trans l3
      exact ⟨W3, P, G3, _, R3, q3, ⟨fun W6 G6 σ6 H6 l6 R6 q6 => ⟨W6, G6, l5.trans l6, R6, q6⟩, fun W6 G6 σ6 H6 l6 R6 q6 => k.nx W6 G6 σ6 H6 (l5.trans l6) R6 q6,
        fun W6 G6 σ6 H6 l6 R6 q6 => ⟨W6, G6, l5.trans l6, R6, q6⟩, fun W6 sv n v H6 l6 => k.rt W6 sv n v H6 (l5.trans l6)⟩⟩
    | false =>
      rw [if_neg Bool.false_ne_true] at q3 ⊢
      exact k.nx W3 G3 σ H3 (l2.trans l3) R3 q3
end
def wipeG : List Nat → Gm → Gm
  | [], G => G
  | i :: vs, G => gset (wipeG vs G) i none
def datO : Option SC → Option SC
  | some (.dat d) => some (.dat d)
  | _ => none
def backG : List Nat → Gm → Gm → Gm
  | [], _, G => G
  | i :: vs, G0, G => gset (backG vs G0 G) i (datO (gg G0 i))
theorem wipeG_len : ∀ (vs : List Nat) (G : Gm), (wipeG vs G).length = G.length
  | [], _ => rfl
  | i :: vs, G => by rw [wipeG, gset_len, wipeG_len vs G]
theorem backG_len : ∀ (vs : List Nat) (G0 G : Gm), (backG vs G0 G).length = G.length
  | [], _, _ => rfl
  | i :: vs, G0, G => by rw [backG, gset_len, backG_len vs G0 G]
theorem wipeG_c : ∀ (vs : List Nat) (G : Gm), (wipeG vs G).c = G.c
  | [], _ => rfl
  | i :: vs, G => by rw [wipeG]; exact wipeG_c vs G
theorem backG_c : ∀ (vs : List Nat) (G0 G : Gm), (backG vs G0 G).c = G.c
  | [], _, _ => rfl
  | i :: vs, G0, G => by rw [backG]; exact backG_c vs G0 G
theorem gg_none {G : Gm} {n : Nat} (h : G.length ≤ n) : gg G n = none := by
  cases e : gg G n with
  | none => rfl
  | some x => exact absurd (gg_lt e) (by omega)
theorem gg_wipe : ∀ (vs : List Nat) (G : Gm) (j : Nat), gg (wipeG vs G) j = if j ∈ vs then none else gg G j
  | [], _, _ => by simp [wipeG]
  | i :: vs, G, j => by
    rw [wipeG]
    by_cases h : j = i
    · subst h
      rw [if_pos List.mem_cons_self]
      by_cases hl : j < (wipeG vs G).length
      · exact gg_set_self _ _ _ hl
      · exact gg_none (by rw [gset_len]; omega)
    · rw [gg_set_ne _ _ _ _ h, gg_wipe vs G j]
      simp [h]
theorem gg_back : ∀ (vs : List Nat) (G0 G : Gm) (j : Nat), G.length = G0.length → gg (backG vs G0 G) j = if j ∈ vs then datO (gg G0 j) else gg G j
  | [], _, _, _, _ => by simp [backG]
  | i :: vs, G0, G, j, hl => by
    rw [backG]
    by_cases h : j = i
    · subst h
      rw [if_pos List.mem_cons_self]
      by_cases hj : j < (backG vs G0 G).length
      · exact gg_set_self _ _ _ hj
      · rw [gg_none (by rw [gset_len]; omega), gg_none (G := G0) (by rw [← hl, ← backG_len vs G0 G]; omega)]; rfl
    · rw [gg_set_ne _ _ _ _ h, gg_back vs G0 G j hl]
      simp [h]
theorem wipe_get : ∀ (vs : List Nat) (σ : St) (j : Nat), (wipe σ vs)[j]? = if j ∈ vs then (σ[j]?).map (fun _ => none) else σ[j]?
  | [], _, _ => by simp [wipe]
  | i :: vs, σ, j => by
    rw [wipe]
    by_cases h : j = i
    · subst h
      rw [if_pos List.mem_cons_self]
      by_cases hl : j < (wipe σ vs).length
      · rw [List.getElem?_set_self hl, List.getElem?_eq_getElem (by rw [wipe_length] at hl; exact hl)]; rfl
      · rw [List.getElem?_eq_none (by rw [List.length_set]; omega), List.getElem?_eq_none (by rw [wipe_length] at hl; omega)]; rfl
    · rw [List.getElem?_set_ne (Ne.symm h), wipe_get vs σ j]
      simp [h]
theorem But.wipe {vs : List Nat} {σ σ' : St} (h : But vs σ σ') : L2.wipe σ' vs = L2.wipe σ vs := by
  apply List.ext_getElem?
  intro j
  rw [wipe_get, wipe_get]
  by_cases hj : j ∈ vs
  · rw [if_pos hj, if_pos hj]
    by_cases hl : j < σ.length
    · rw [List.getElem?_eq_getElem hl, List.getElem?_eq_getElem (by rw [h.1]; exact hl)]; rfl
    · rw [List.getElem?_eq_none (l := σ) (by omega), List.getElem?_eq_none (l := σ') (by rw [h.1]; omega)]
  · rw [if_neg hj, if_neg hj, h.2 j hj]
theorem But.of_wipe {vs : List Nat} {σ σ' : St} (h : But vs (L2.wipe σ vs) σ') : L2.wipe σ' vs = L2.wipe σ vs := by
  rw [h.wipe]
  apply List.ext_getElem?
  intro j
  rw [wipe_get, wipe_get]
  by_cases hj : j ∈ vs
  · rw [if_pos hj, if_pos hj]; cases σ[j]? <;> rfl
  · rw [if_neg hj, if_neg hj]
section
variable {X : Cx} {K : PySem.W.Frag} {W : Wd} {P : Hp} {G G0 : Gm} {σ : St} {H : Hp} {e a b tg iter elt : Expr} {pos : Pos}
theorem Rl.wipe (R : Rl K W P G σ H) (vs : List Nat) : Rl K W P (wipeG vs G) (L2.wipe σ vs) H := by
  have key : ∀ {j : Nat} {x : SC}, gg (wipeG vs G) j = some x → j ∉ vs ∧ gg G j = some x := fun {j x} e => by
    rw [gg_wipe] at e
    by_cases h : j ∈ vs
    · rw [if_pos h] at e; cases e
    · rw [if_neg h] at e; exact ⟨h, e⟩
  have oth : ∀ {j : Nat}, j ∉ vs → (L2.wipe σ vs)[j]? = σ[j]? := fun {j} h => by rw [wipe_get, if_neg h]
  refine ⟨by rw [wipeG_len, wipe_length]; exact R.len, R.le, by rw [wipeG_c]; exact R.src, R.prot, fun i d e => ?_, fun i d e => ?_, fun i j d e n h1 h2 => ?_, R.pnt, by first | exact R.ext | (have z := R.ext; rw [wipeG_c]; exact z) | (have z := R.ext; rw [wipeG_c] at z; rw [backG_c]; exact z)⟩
  · obtain ⟨h, e⟩ := key e; rw [oth h]; exact R.dat i d e
  · obtain ⟨h, e⟩ := key e; rw [oth h]; exact R.own i d e
  · obtain ⟨a1, e1⟩ := key h1; obtain ⟨a2, e2⟩ := key h2
    rw [oth a1, oth a2]; exact R.sep i j d e n e1 e2
theorem Rl.back {W0 : Wd} {P0 H0 : Hp} {vs : List Nat} (R : Rl K W P (wipeG vs G) (L2.wipe σ vs) H) (l : W0.le W) (R0 : Rl K W0 P0 G0 σ H0) : Rl K W P (backG vs G0 G) σ H := by
  have hl : G.length = G0.length := by
    have h1 := R.len
    rw [wipeG_len, wipe_length] at h1
    exact h1.trans R0.len.symm
  have key : ∀ {j : Nat} {x : SC}, gg (backG vs G0 G) j = some x → (j ∈ vs ∧ ∃ d, x = .dat d ∧ gg G0 j = some (.dat d)) ∨ (j ∉ vs ∧ gg (wipeG vs G) j = some x) := fun {j x} e => by
    rw [gg_back _ _ _ _ hl] at e
    by_cases h : j ∈ vs
    · rw [if_pos h] at e
      cases q : gg G0 j with
      | none => rw [q] at e; cases e
      | some y =>
        rw [q] at e
        cases y with
        | own d => cases e
        | dat d => cases e; exact .inl ⟨h, d, rfl, rfl⟩
    · rw [if_neg h] at e; exact .inr ⟨h, by rw [gg_wipe, if_neg h]; exact e⟩
  have oth : ∀ {j : Nat}, j ∉ vs → (L2.wipe σ vs)[j]? = σ[j]? := fun {j} h => by rw [wipe_get, if_neg h]
  refine ⟨by rw [backG_len, hl]; exact R0.len, R.le, by have := R.src; rw [wipeG_c] at this; rw [backG_c]; exact this, R.prot, fun i d e => ?_, fun i d e => ?_, fun i j d e n h1 h2 => ?_, R.pnt, by first | exact R.ext | (have z := R.ext; rw [wipeG_c]; exact z) | (have z := R.ext; rw [wipeG_c] at z; rw [backG_c]; exact z)⟩
  · rcases key e with ⟨_, d', e1, e2⟩ | ⟨h, e1⟩
    · cases e1
      obtain ⟨v, h1, h2⟩ := R0.dat i d e2
      exact ⟨v, h1, Rp.mono l _ _ h2⟩
    · rw [← oth h]; exact R.dat i d e1
  · rcases key e with ⟨_, d', e1, _⟩ | ⟨h, e1⟩
    · cases e1
    · rw [← oth h]; exact R.own i d e1
  · rcases key h1 with ⟨_, d', e1, _⟩ | ⟨a1, e1⟩
    · cases e1
    · rcases key h2 with ⟨_, d', e2, _⟩ | ⟨a2, e2⟩
      · cases e2
      · rw [← oth a1, ← oth a2]; exact R.sep i j d e n e1 e2
theorem pnt_upd {p : Addr} {o : HO} (h : ∀ p xs, P p ≠ some (.tup xs)) (no : ∀ xs, o ≠ .tup xs) : ∀ q xs, upd P p o q ≠ some (.tup xs) := fun q xs e => by
  by_cases hq : q = p
  · subst hq; rw [upd_same] at e; exact no xs (Option.some.inj e)
  · rw [upd_ne hq] at e; exact h q xs e
theorem Rl.guard (R : Rl K W P G σ H) {p : Addr} {o : HO} (hp : H p = none) (no : ∀ xs, o ≠ .tup xs := by intro _ z; cases z) : P p = none ∧ W.F p = none ∧ Rl K W (upd P p o) G σ (upd H p o) := by
  have nF : W.F p = none := by
    cases e : W.F p with
    | none => rfl
    | some u => rw [R.le _ _ e] at hp; cases hp
  have nP : P p = none := by
    cases e : P p with
    | none => rfl
    | some u => rw [(R.prot _ _ e).1] at hp; cases hp
  have old : ∀ b u, H b = some u → upd H p o b = some u := fun b u e => by rw [upd_ne (ne_of_none e hp)]; exact e
  refine ⟨nP, nF, R.len, fun b u e => old b u (R.le b u e), fun a h => ?_, fun q u e => ?_, R.dat, fun i x e => ?_, R.sep, pnt_upd R.pnt no, R.ext⟩
  · obtain ⟨h1, h2, h3⟩ := R.src a h
    obtain ⟨o2, e, _⟩ := h3.obj
    exact ⟨h1, by rw [upd_ne (ne_of_none e hp)]; exact h2, h3.same (.refl W) h (old _)⟩
  · by_cases hq : q = p
    · subst hq; rw [upd_same] at e ⊢; exact ⟨e, nF⟩
    · rw [upd_ne hq] at e
      obtain ⟨h1, h2⟩ := R.prot q u e
      exact ⟨old _ _ h1, h2⟩
  · obtain ⟨q, u, h1, h2, h3⟩ := R.own i x e
    exact ⟨q, u, h1, ⟨old _ _ h2.at_, h2.f, h2.s, by rw [upd_ne (ne_of_none h2.at_ hp)]; exact h2.n⟩, h3⟩
theorem Rl.reguard {p : Addr} {o o' : HO} (R : Rl K W (upd P p o) G σ H) (no : ∀ xs, o' ≠ .tup xs := by intro _ z; cases z) : H p = some o ∧ Rl K W (upd P p o') G σ (upd H p o') := by
  obtain ⟨hp, nF⟩ := R.prot p o upd_same
  refine ⟨hp, R.len, fun b u e => ?_, fun a h => ?_, fun q u e => ?_, R.dat, fun i x e => ?_, R.sep, fun q xs e => ?_, R.ext⟩
  · rw [upd_ne (fun z => by rw [z, nF] at e; cases e)]; exact R.le b u e
  · obtain ⟨h1, h2, h3⟩ := R.src a h
    have na : a ≠ p := fun q => by subst q; rw [upd_same] at h2; cases h2
    rw [upd_ne na] at h2
    exact ⟨h1, by rw [upd_ne na]; exact h2, h3.same (.refl W) h fun o e => by rw [upd_ne na]; exact e⟩
  · by_cases hq : q = p
    · subst hq; rw [upd_same] at e ⊢; exact ⟨e, nF⟩
    · rw [upd_ne hq] at e ⊢
      exact R.prot q u (by rw [upd_ne hq]; exact e)
  · obtain ⟨q, u, h1, h2, h3⟩ := R.own i x e
    have nq : q ≠ p := fun z => by have := h2.n; rw [z, upd_same] at this; cases this
    refine ⟨q, u, h1, ⟨by rw [upd_ne nq]; exact h2.at_, h2.f, h2.s, ?_⟩, h3⟩
    have := h2.n
    rw [upd_ne nq] at this ⊢; exact this
  · by_cases hq : q = p
    · subst hq; rw [upd_same] at e; exact no xs (Option.some.inj e)
    · rw [upd_ne hq] at e; exact R.pnt q xs (by rw [upd_ne hq]; exact e)
theorem Rl.unguard {p : Addr} {o : HO} {d : D} (nP : P p = none) (r : RO K W p o d) (R : Rl K W (upd P p o) G σ H) : Rl K W P G σ H ∧ RV K W P G σ H (.new d) (.ref p) := by
  obtain ⟨hp, nF⟩ := R.prot p o upd_same
  have nS : ¬ W.S p := fun h => by have := (R.src p h).2.1; rw [upd_same] at this; cases this
  have sub : ∀ q, upd P p o q = none → P q = none := fun q e => by
    by_cases hq : q = p
    · subst hq; exact nP
    · rw [upd_ne hq] at e; exact e
  refine ⟨⟨R.len, R.le, fun a h => ?_, fun q u e => R.prot q u ?_, R.dat, fun i x e => ?_, R.sep, fun q xs e => R.pnt q xs (by rw [upd_ne (fun z => by rw [z, nP] at e; cases e)]; exact e), R.ext⟩, p, o, rfl, ⟨hp, nF, nS, nP⟩, r, fun i e h1 h2 => ?_⟩
  · obtain ⟨h1, h2, h3⟩ := R.src a h
    exact ⟨h1, sub a h2, h3⟩
  · rw [upd_ne (fun z => by rw [z, nP] at e; cases e)]; exact e
  · obtain ⟨q, u, h1, h2, h3⟩ := R.own i x e
    exact ⟨q, u, h1, ⟨h2.at_, h2.f, h2.s, sub q h2.n⟩, h3⟩
  · obtain ⟨q, u, h3, h4, _⟩ := R.own i e h1
    rw [h2] at h3; cases h3
    have := h4.n
    rw [upd_same] at this; cases this
def dYes : DT := fun G Q => Q true G
theorem dts_nil : PTs X [] (canT X.K dYes) := ⟨fun pins s σ H Qv I ⟨W, P, G, Q, R, t, k⟩ => pts_nil.run pins s σ H Qv I (k W true G H (.refl W) R t)⟩
theorem dts_one {c : Expr} {t : DT} (h : PT X c (canT X.K t)) : PTs X [c] (canT X.K t) := pts_one h
def lcL (vs : List Nat) (g : DG) (tt : DT) (te : DE) (Qe : List D → Gm → Prop) : List D → List D → Gm → Prop
  | [], acc, G => Qe acc G
  | d :: r, acc, G => g (.dat d) G fun G1 => tt G1 fun b G2 => if b = true then te G2 fun sv G3 => frz G3 sv fun y G4 => lcL vs g tt te Qe r (acc ++ [y]) (wipeG vs G4) else lcL vs g tt te Qe r acc (wipeG vs G2)
def dLc (vs : List Nat) (t : DI) (g : DG) (tt : DT) (te : DE) : DE := fun G Q => t G fun ds G1 => ds.length ≤ sizeLine ∧ lcL vs g tt te (fun acc G2 => Q (.new (.lst acc)) (backG vs G1 G2)) ds [] (wipeG vs G1)
theorem sl_ext : ∀ {A B : List (Option SC)}, A.length = B.length → (∀ j, ggl A j = ggl B j) → A = B := by
  intro A
  induction A with
  | nil => intro B h _; exact (List.length_eq_zero_iff.mp h.symm).symm
  | cons x r ih =>
    intro B h f
    cases B with
    | nil => cases h
    | cons y s =>
      have : x = y := f 0
      rw [this, ih (Nat.succ.inj h) fun j => f (j + 1)]
theorem gm_ext {A B : Gm} (c : A.c = B.c) (h : A.length = B.length) (f : ∀ j, gg A j = gg B j) : A = B := by
  obtain ⟨a, n⟩ := A
  obtain ⟨b, m⟩ := B
  cases (c : n = m)
  rw [sl_ext (A := a) (B := b) h f]
def LcB (g : TG) (tt : TT) (te : TE) (vs : List Nat) (σ : St) (Q : VK) (J : It) (H1 : Hp) : Prop := ∀ D, H1 D = none → ∃ W : Nat → Nat → Hp → Prop, (∃ m, W 0 m (upd H1 D (.lst []))) ∧ ∀ i m H, W i m H →
  (J.stop i H ∧ Q (.ref D) H) ∨ (J.go i H ∧ ∃ Nx : Hp → Prop, (∀ H', Nx H' → ∃ m', m' < m ∧ W (i + 1) m' H') ∧ ∀ x H', J.yld i H x H' → g x (L2.wipe σ vs) H' fun σ2 H2 => L2.wipe σ2 vs = L2.wipe σ vs ∧ tt σ2 H2 fun b H3 =>
    if b = true then te σ2 H3 fun y H4 => ∃ acc, H4 D = some (.lst acc) ∧ acc.length < sizeLine ∧ Nx (upd H4 D (.lst (acc ++ [y]))) else Nx H3)
theorem lc_J {vs : List Nat} {g : DG} {tt : DT} {te : DE} {Q : DQ} {Qv : VK} {W1 : Wd} {G1 : Gm} {H1 : Hp} {J : It} {ds : List D} (R1 : Rl K W1 P G1 σ H1) (w : Walks K W1 J ds) (hz : ds.length ≤ sizeLine)
    (q : lcL vs g tt te (fun acc G2 => Q (.new (.lst acc)) (backG vs G1 G2)) ds [] (wipeG vs G1)) (k : ∀ W' sv G' v H', W1.le W' → Rl K W' P G' σ H' → RV K W' P G' σ H' sv v → Q sv G' → Qv v H') :
    LcB (canG K vs g) (canT K tt) (can K te) vs σ Qv J H1 := by
  intro D hD
  obtain ⟨nP, nF, Rg⟩ := R1.guard (o := .lst []) hD
  have Rw := Rg.wipe vs
  refine ⟨fun i m H => ∃ W2 G2 accD accV, W1.le W2 ∧ Rl K W2 (upd P D (.lst accV)) (wipeG vs G2) (L2.wipe σ vs) H ∧ RpL K W2 accD accV ∧ accV.length ≤ i ∧ i + m = ds.length ∧
    lcL vs g tt te (fun acc G2 => Q (.new (.lst acc)) (backG vs G1 G2)) (ds.drop i) accD (wipeG vs G2), ⟨ds.length, W1, G1, [], [], .refl W1, Rw, rfl, Nat.le_refl _, by omega, q⟩, ?_⟩
  rintro i m H ⟨W2, G2, accD, accV, l2, R2, ra, hal, hm, q2⟩
  obtain ⟨w1, w2⟩ := w W2 _ _ _ H i l2 R2
  by_cases hi : i < ds.length
  · obtain ⟨hgo, hy⟩ := w1 ds[i] (List.getElem?_eq_getElem hi)
    rw [List.drop_eq_getElem_cons hi] at q2
    refine .inr ⟨hgo, fun H' => ∃ W3 G3 accD accV, W1.le W3 ∧ Rl K W3 (upd P D (.lst accV)) (wipeG vs G3) (L2.wipe σ vs) H' ∧ RpL K W3 accD accV ∧ accV.length ≤ i + 1 ∧
      lcL vs g tt te (fun acc G2 => Q (.new (.lst acc)) (backG vs G1 G2)) (ds.drop (i + 1)) accD (wipeG vs G3), fun H' ⟨W3, G3, aD, aV, l3, R3, r3, h3, q3⟩ => ⟨m - 1, by omega, W3, G3, aD, aV, l3, R3, r3, h3, by omega, q3⟩, fun x H' hx => ?_⟩
    obtain ⟨W3, l3, R3, r3⟩ := hy x H' hx
    refine ⟨W3, _, wipeG vs G2, .dat ds[i], _, R3, r3, q2, fun W4 G4 σ4 H4 l4 R4 b4 q4 => ?_⟩
    have ew : L2.wipe σ4 vs = L2.wipe σ vs := b4.of_wipe
    refine ⟨ew, W4, _, G4, _, R4, q4, fun W5 b G5 H5 l5 R5 q5 => ?_⟩
    have l45 : W1.le W5 := ((l2.trans l3).trans l4).trans l5
    cases b with
    | false =>
      rw [if_neg Bool.false_ne_true] at q5
      refine iteF ?_
      have R6 := R5.wipe vs
      rw [ew] at R6
      exact ⟨W5, G5, accD, accV, l45, R6, RpL.mono ((l3.trans l4).trans l5) _ _ ra, by omega, q5⟩
    | true =>
      rw [if_pos rfl] at q5
      refine iteT ?_
      refine ⟨W5, _, G5, _, R5, q5, fun W6 sv G6 y H6 l6 R6 r6 q6 => ?_⟩
      obtain ⟨W7, d, G7, l7, R7, r7, q7⟩ := R6.frz r6 q6
      obtain ⟨hD7, R8⟩ := R7.reguard (o' := .lst (accV ++ [y]))
      have R9 := R8.wipe vs
      rw [ew] at R9
      refine ⟨accV, hD7, by omega, W7, G7, accD ++ [d], accV ++ [y], (l45.trans l6).trans l7, R9, RpL.append (RpL.mono ((((l3.trans l4).trans l5).trans l6).trans l7) _ _ ra) ⟨y, [], rfl, r7, rfl⟩, by rw [List.length_append]; simpa using Nat.succ_le_succ hal, q7⟩
  · rw [List.drop_eq_nil_of_le (by omega)] at q2
    refine .inl ⟨w2 (by omega), ?_⟩
    obtain ⟨R4, r4⟩ := R2.unguard (o := HO.lst accV) (d := .lst accD) nP ra
    have R5 := R4.back l2 R1
    obtain ⟨p, o, e1, pr, ro, _⟩ := r4
    have hl : G2.length = G1.length := by
      have h1 := R4.len
      rw [wipeG_len, wipe_length] at h1
      exact h1.trans R1.len.symm
    have ebk : backG vs G1 (wipeG vs G2) = backG vs G1 G2 := by
      refine gm_ext (by rw [backG_c, backG_c, wipeG_c]) (by rw [backG_len, backG_len, wipeG_len]) fun j => ?_
      rw [gg_back _ _ _ _ (by rw [wipeG_len]; exact hl), gg_back _ _ _ _ hl, gg_wipe]
      by_cases h : j ∈ vs
      · rw [if_pos h, if_pos h]
      · rw [if_neg h, if_neg h, if_neg h]
    have q2 : Q (.new (.lst accD)) (backG vs G1 (wipeG vs G2)) := q2
    rw [ebk] at q2
    refine k W2 (.new (.lst accD)) _ _ H l2 R5 ⟨p, o, e1, pr, ro, fun i e h1 h2 => ?_⟩ q2
    obtain ⟨p', o', h3, h4, _⟩ := R5.own i e h1
    rw [h2] at h3; cases h3
    cases e1
    -- the new list is no slot's own: it was not there ahead of the block
    rw [gg_back _ _ _ _ hl] at h1
    by_cases hv : i ∈ vs
    · rw [if_pos hv] at h1
      cases q : gg G1 i with
      | none => rw [q] at h1; cases h1
      | some y => rw [q] at h1; cases y <;> cases h1
    · rw [if_neg hv] at h1
      obtain ⟨q, u, h5, h6, _⟩ := R2.own i e (by rw [gg_wipe, if_neg hv]; exact h1)
      rw [wipe_get, if_neg hv, h2] at h5; cases h5
      have := h6.n
      rw [upd_same] at this; cases this
theorem lc_ok {vs : List Nat} {t : DI} {g : DG} {tt : DT} {te : DE} {Qv : VK} (h : can K (dLc vs t g tt te) σ H Qv) : tLc (canI K t) (canG K vs g) (canT K tt) (can K te) vs σ H Qv := by
  obtain ⟨W, P, G, Q, R, t, k⟩ := h
  exact ⟨W, P, G, _, R, t, fun W1 ds G1 J H1 l1 R1 w ⟨hz, q⟩ => lc_J R1 w hz q fun W' sv G' v H' l => k W' sv G' v H' (l1.trans l)⟩
theorem de_lc {ifs : List Expr} {scope : Scope} {own : List (Str × Nat)} {t : DI} {g : DG} {tt : DT} {te : DE} (hN : X.N.Nodup) (hi : PI X tg iter (canI X.K t)) (ok : BlkOk X.N X.env.scope scope own)
    (hg : ∀ (s : Shared) (H : Hp) (C : Addr) (cl : List (Str × Addr)) (fp : List Addr), PG (X.blk s H scope (compEnvC scope cl C X.env) fp) tg (canG X.K (own.map (·.2)) g))
    (ht : ∀ (s : Shared) (H : Hp) (C : Addr) (cl : List (Str × Addr)) (fp : List Addr), PTs (X.blk s H scope (compEnvC scope cl C X.env) fp) ifs (canT X.K tt))
    (he : ∀ (s : Shared) (H : Hp) (C : Addr) (cl : List (Str × Addr)) (fp : List Addr), PE (X.blk s H scope (compEnvC scope cl C X.env) fp) elt (can X.K te)) (hc : X.calm = true := by rfl) (hs : ∀ x, foldedSetIterable iter X.env x = pure x := by intro _; rfl) :
    PE X (.ListComp elt [⟨tg, iter, ifs, 0⟩] scope pos) (can X.K (dLc (own.map (·.2)) t g tt te)) := PE.imp (pe_lc hc hN hi ok hg ht he hs) fun _ _ _ => lc_ok
theorem ds_setLc {y : Str} {py spos : Pos} (i : Nat) {ifs : List Expr} {scope : Scope} {own : List (Str × Nat)} {t : DI} {g : DG} {tt : DT} {te : DE} (hN : X.N.Nodup) (hi : PI X tg iter (canI X.K t)) (ok : BlkOk X.N X.env.scope scope own)
    (hg : ∀ (s : Shared) (H : Hp) (C : Addr) (cl : List (Str × Addr)) (fp : List Addr), PG (X.blk s H scope (compEnvC scope cl C X.env) fp) tg (canG X.K (own.map (·.2)) g))
    (ht : ∀ (s : Shared) (H : Hp) (C : Addr) (cl : List (Str × Addr)) (fp : List Addr), PTs (X.blk s H scope (compEnvC scope cl C X.env) fp) ifs (canT X.K tt))
    (he : ∀ (s : Shared) (H : Hp) (C : Addr) (cl : List (Str × Addr)) (fp : List Addr), PE (X.blk s H scope (compEnvC scope cl C X.env) fp) elt (can X.K te))
    (hsw : swapsWith (.ListComp elt [⟨tg, iter, ifs, 0⟩] scope pos) (some (.Name y py)) spos.line X.env = pure true) (hy : X.N[i]? = some y := by rfl) (hyl : X.env.scope.names.lookup y = some .local := by rfl) (hc : X.calm = true := by rfl) (hs : ∀ x, foldedSetIterable iter X.env x = pure x := by intro _; rfl) :
    PS X (.Assign [.Name y py] (.ListComp elt [⟨tg, iter, ifs, 0⟩] scope pos) spos) (canS X.K (dAsg (dLc (own.map (·.2)) t g tt te) (dgName i))) := by
  refine PS.imp (ps_setLc hc hN hy hyl hsw hi ok hg ht he hs) fun D σ H h => ?_
  obtain ⟨W, P, G, Q, R, t, k⟩ := asg_ok (ws := [i]) h
  have hh : can X.K (dLc (own.map (·.2)) _ g tt te) σ H fun v H1 => D.nx (σ.set i (some v)) H1 := ⟨W, P, G, Q, R, t, fun W1 sv G1 v H1 l1 R1 r1 q => by
    obtain ⟨W2, P2, G2, sv2, Q2, R2, r2, t2, k2⟩ := k W1 sv G1 v H1 l1 R1 r1 q
    obtain ⟨W', c, G', l, R', q⟩ := R2.rest (i := i) r2 t2
    exact k2 W' _ _ H1 l R' (But.set (by simp) _) q⟩
  exact lc_ok hh
end
def canB (K : PySem.W.Frag) (t : D1) : List V → Hp → VK → Prop := fun vs H Qv => ∃ W P G σ v d Q, vs = [v] ∧ Rl K W P G σ H ∧ RN K W H d v ∧ t d Q ∧ Rs K W P G σ Q Qv
def canC (K : PySem.W.Frag) (t : List D → (SV → Prop) → Prop) : List V → Hp → VK → Prop := fun vs H Qv => ∃ W P G σ ds Q, Rl K W P G σ H ∧ RpL K W ds vs ∧ t ds Q ∧ Rs K W P G σ Q Qv
section
variable {X : Cx} {K : PySem.W.Frag} {W : Wd} {P : Hp} {G : Gm} {σ : St} {H : Hp} {e : Expr} {es : List Expr} {pos p : Pos} {x : Str} {id T : String}
theorem b1_ok {t : D1} {ta : DE} {Qv : VK} (h : can K (dUn t ta) σ H Qv) : tCB (canB K t) (tCons (can K ta) tNil) σ H Qv := by
  obtain ⟨W, P, G, Q, R, t, k⟩ := h
  refine can_one R t fun W1 G1 sa v H1 l R1 s1 q => ?_
  obtain ⟨d, n, q⟩ := R1.see s1 q
  exact ⟨W1, P, G1, σ, v, d, fun r => Q r G1, rfl, R1, n, q, fun W3 sv u H3 l3 R3 r3 q3 => k W3 sv G1 u H3 (l.trans l3) R3 r3 q3⟩
theorem de_b1 {t : D1} {ta : DE} (hc : CallR X (.builtin id) (canB X.K t)) (hm : X.mg x = none) (hv : bootBuiltins x = some (.builtin id)) (he : PE X e (can X.K ta)) (hg : Gl X x := by rfl) (hn : x ≠ "__name__" := by decide) (hdb : (x == ("__debug__" : Str)) = false := by decide)
    (hs : starEach (e :: []) X.env = (false, eval e X.env) :: starEach [] X.env := by rfl) (hpl : (backTo pos (starEach [] X.env)).any (·.1) = false := by rfl) : PE X (.Call (.Name x p) [e] [] pos) (can X.K (dUn t ta)) :=
  PE.imp (pe_callB hc hg hm hv (pa_cons he pa_nil hs) hn hdb hs hpl) fun _ _ _ => b1_ok
theorem de_t1 {t : D1} {ta : DE} (hc : CallR X (.type T) (canB X.K t)) (hm : X.mg x = none) (hv : bootBuiltins x = some (.type T)) (he : PE X e (can X.K ta)) (hg : Gl X x := by rfl) (hn : x ≠ "__name__" := by decide) (hdb : (x == ("__debug__" : Str)) = false := by decide)
    (hs : starEach (e :: []) X.env = (false, eval e X.env) :: starEach [] X.env := by rfl) (hpl : (backTo pos (starEach [] X.env)).any (·.1) = false := by rfl) : PE X (.Call (.Name x p) [e] [] pos) (can X.K (dUn t ta)) :=
  PE.imp (pe_callTy hc hg hm hv (pa_cons he pa_nil hs) hn hdb hs hpl) fun _ _ _ => b1_ok
def dBn (t : List D → (SV → Prop) → Prop) (ta : DA) : DE := fun G Q => ta G fun ds G1 => t ds fun r => Q r G1
theorem bn_ok {t : List D → (SV → Prop) → Prop} {ta : DA} {Qv : VK} (h : can K (dBn t ta) σ H Qv) : tCB (canC K t) (canA K ta) σ H Qv := by
  obtain ⟨W, P, G, Q, R, t, k⟩ := h
  exact ⟨W, P, G, _, R, t, fun W1 ds G1 vs H1 l1 R1 r1 q => ⟨W1, P, G1, σ, ds, fun r => Q r G1, R1, r1, q, fun W3 sv u H3 l3 R3 r3 q3 => k W3 sv G1 u H3 (l1.trans l3) R3 r3 q3⟩⟩
theorem de_bn {t : List D → (SV → Prop) → Prop} {ta : DA} (hc : CallR X (.builtin id) (canC X.K t)) (hm : X.mg x = none) (hv : bootBuiltins x = some (.builtin id)) (ha : PA X (e :: es) (canA X.K ta)) (hg : Gl X x := by rfl) (hn : x ≠ "__name__" := by decide) (hdb : (x == ("__debug__" : Str)) = false := by decide)
    (hs : starEach (e :: es) X.env = (false, eval e X.env) :: starEach es X.env := by rfl) (hpl : (backTo pos (starEach es X.env)).any (·.1) = false := by rfl) : PE X (.Call (.Name x p) (e :: es) [] pos) (can X.K (dBn t ta)) :=
  PE.imp (pe_callB hc hg hm hv ha hn hdb hs hpl) fun _ _ _ => bn_ok
def dAbs : D1
  | .int i, Q => Q (.dat (.int (if i < 0 then -i else i)))
  | _, _ => False
theorem cd_abs : CallR X (.builtin "abs") (canB X.K dAbs) := by
  refine CallR.imp (call_abs (X := X)) ?_
  rintro vs H Qv ⟨W, P, G, σ, v, d, Q, rfl, R, n, t, r⟩
  cases d <;> first | exact False.elim t | skip
  obtain rfl : v = .int _ := n
  exact ⟨_, rfl, r.int R t⟩
theorem RpT.length {K : PySem.W.Frag} {W : Wd} : ∀ {a : List (List Key × D)} {x : List (List Key × V)}, RpT K W a x → x.length = a.length
  | [], _, h => by rw [show _ = [] from h]; rfl
  | (_, _) :: ds, _, h => by obtain ⟨v, r, rfl, _, t⟩ := h; exact congrArg Nat.succ (RpT.length t)
theorem RpK.length {K : PySem.W.Frag} {W : Wd} : ∀ {a : List (Key × D)} {x : List (Key × V)}, RpK K W a x → x.length = a.length
  | [], _, h => by rw [show _ = [] from h]; rfl
  | (_, _) :: ds, _, h => by obtain ⟨v, r, rfl, _, t⟩ := h; exact congrArg Nat.succ (RpK.length t)
theorem call_lenDd : CallR X (.builtin "len") (fun xs H Q => ∃ p : Addr, xs = [.ref p] ∧ ((∃ kvs : List (List Key × V), Rd H p (.dT kvs) ∧ Q (.int ((kvs.length : Nat) : Int)) H) ∨ ∃ kvs : List (Key × V), Rd H p (.dK kvs) ∧ Q (.int ((kvs.length : Nat) : Int)) H)) := by
  intro pins s σ H xs us Q I r h
  obtain ⟨p, rfl, h⟩ := h
  rw [Vals.ref1 r]
  rcases h with ⟨kvs, e, q⟩ | ⟨kvs, e, q⟩
  · obtain ⟨z, hd, ys, rel, dd⟩ := dt_rd I.hok e
    have hl : kvs.length = ys.length := Paired.length rel
    refine call_len_dictH hd dd (by rw [← hl]; rw [sizeLine_eq] at z; omega) ?_
    rw [← hl]
    exact ⟨.int ((kvs.length : Nat) : Int), H, I.tok _, ⟨_, rfl⟩, q⟩
  · exact d_len I e fun t s' I' => ⟨.int ((kvs.length : Nat) : Int), H, I', ⟨t, rfl⟩, q⟩
def dLen : D1
  | .lst ds, Q => Q (.dat (.int ds.length))
  | .tup ds, Q => Q (.dat (.int ds.length))
  | .scr ns, Q => Q (.dat (.int ns.length))
  | .str z, Q => z.length ≤ sizeLine ∧ Q (.dat (.int z.length))
  | .dT es, Q => Q (.dat (.int es.length))
  | .dK es, Q => Q (.dat (.int es.length))
  | _, _ => False
theorem cd_len : CallR X (.builtin "len") (canB X.K dLen) := by
  refine CallR.imp (CallR.or (CallR.or (call_len_seq (X := X)) call_len_str) call_lenDd) ?_
  rintro vs H Qv ⟨W, P, G, σ, v, d, Q, rfl, R, n, t, r⟩
  cases d <;> first | exact False.elim t | skip
  · obtain rfl : v = .str _ := n
    exact .inl (.inr ⟨_, rfl, t.1, r.int R t.2⟩)
  · obtain ⟨p, rfl, s⟩ := n
    exact .inl (.inl ⟨p, _, rfl, .inl s, by rw [List.length_map]; exact r.int R t⟩)
  · obtain ⟨p, xs, rfl, s, q⟩ := n
    exact .inl (.inl ⟨p, xs, rfl, .inr (.of s), by rw [q.length]; exact r.int R t⟩)
  · obtain ⟨p, xs, rfl, s, q⟩ := n
    exact .inl (.inl ⟨p, xs, rfl, .inl (.of s), by rw [q.length]; exact r.int R t⟩)
  · obtain ⟨p, kvs, rfl, s, q⟩ := n
    exact .inr ⟨p, rfl, .inl ⟨kvs, s, by rw [q.length]; exact r.int R t⟩⟩
  · obtain ⟨p, kvs, rfl, s, q⟩ := n
    exact .inr ⟨p, rfl, .inr ⟨kvs, s, by rw [q.length]; exact r.int R t⟩⟩
def dInt : D1
  | .int i, Q => Q (.dat (.int i))
  | .bl b, Q => Q (.dat (.int (if b then 1 else 0)))
  | _, _ => False
theorem cd_int : CallR X (.type "int") (canB X.K dInt) := by
  refine CallR.imp (call_int1 (X := X)) ?_
  rintro vs H Qv ⟨W, P, G, σ, v, d, Q, rfl, R, n, t, r⟩
  cases d <;> first | exact False.elim t | skip
  · obtain rfl : v = .bl _ := n
    exact .inr ⟨_, rfl, r.int R t⟩
  · obtain rfl : v = .int _ := n
    exact .inl ⟨_, rfl, r.int R t⟩
def intsOf : List D → Option (List Int)
  | [] => some []
  | .int i :: r => match intsOf r with | some ns => some (i :: ns) | none => none
  | _ :: _ => none
theorem intsOf_eq : ∀ {ds : List D} {ns : List Int}, intsOf ds = some ns → ds = ns.map D.int
  | [], _, h => by cases h; rfl
  | d :: ds, ns, h => by
    cases d <;> first | (cases h; done) | skip
    rename_i i
    have h : (match intsOf ds with | some ns => some (i :: ns) | none => none) = some ns := h
    cases e : intsOf ds with
    | none => rw [e] at h; cases h
    | some ms =>
      rw [e] at h; cases h
      rw [intsOf_eq e]; rfl
def ofInts (d : D) (k : List Int → Prop) : Prop := match d with
  | .lst ds => match intsOf ds with | some ns => k ns | none => False
  | .scr ns => k ns
  | _ => False
def blsOf : List D → Option (List Bool)
  | [] => some []
  | .bl i :: r => match blsOf r with | some ns => some (i :: ns) | none => none
  | _ :: _ => none
theorem blsOf_eq : ∀ {ds : List D} {ns : List Bool}, blsOf ds = some ns → ds = ns.map D.bl
  | [], _, h => by cases h; rfl
  | d :: ds, ns, h => by
    cases d <;> first | (cases h; done) | skip
    rename_i i
    have h : (match blsOf ds with | some ns => some (i :: ns) | none => none) = some ns := h
    cases e : blsOf ds with
    | none => rw [e] at h; cases h
    | some ms =>
      rw [e] at h; cases h
      rw [blsOf_eq e]; rfl
def ofBls (d : D) (k : List Bool → Prop) : Prop := match d with
  | .lst ds => match blsOf ds with | some ns => k ns | none => False
  | _ => False
theorem ofBls_ok {d : D} {v : V} {k : List Bool → Prop} (n : RN K W H d v) (t : ofBls d k) : ∃ p ns, v = .ref p ∧ SqL K H p (ns.map V.bl) ∧ k ns := by
  cases d <;> first | exact False.elim t | skip
  rename_i ds
  obtain ⟨p, xs, rfl, s, q⟩ := n
  have t : (match blsOf ds with | some ns => k ns | none => False) := t
  cases e : blsOf ds with
  | none => rw [e] at t; exact t.elim
  | some ns =>
    rw [e] at t
    rw [blsOf_eq e] at q
    rw [RpL.bls q] at s
    exact ⟨p, ns, rfl, .of s, t⟩
def dAll : D1 := fun d Q => ofBls d fun ns => Q (.dat (.bl (ns.all fun b => b)))
theorem cd_all (hc : X.calm = true) : CallR X (.builtin "all") (canB X.K dAll) := by
  refine CallR.imp (cr_all hc) ?_
  rintro vs H Qv ⟨W, P, G, σ, v, d, Q, rfl, R, n, t, r⟩
  obtain ⟨p, ns, rfl, s, q⟩ := ofBls_ok n t
  exact ⟨p, ns, rfl, s, r.bl R q⟩
def dList : D1
  | .lst ds, Q => Q (.new (.lst ds))
  | .tup ds, Q => Q (.new (.lst ds))
  | .scr ns, Q => Q (.new (.lst (ns.map D.int)))
  | _, _ => False
def dTuple : D1
  | .lst ds, Q => Q (.dat (.tup ds))
  | _, _ => False
def shownD (d : D) : Str := (toPy d).shown
def dRepr : D1 := fun d Q => Pd 20 d ∧ (toPy d).showable = true ∧ (shownD d).length ≤ sizeLine ∧ Q (.dat (.str (shownD d)))
section
variable {pins : List (Addr × Obj)} {s : Shared} {σ' : St}
end
def prsOf : List D → Option (List (Int × Int))
  | [] => some []
  | .tup [.int i, .int j] :: r => match prsOf r with | some ns => some ((i, j) :: ns) | none => none
  | _ :: _ => none
def prD (p : Int × Int) : D := .tup [.int p.1, .int p.2]
theorem prsOf_cons {d : D} {ds : List D} {ps : List (Int × Int)} (h : prsOf (d :: ds) = some ps) : ∃ p r, d = prD p ∧ prsOf ds = some r ∧ ps = p :: r := by
  unfold prsOf at h
  split at h
  · rename_i e; cases e
  · rename_i _ i j r' e
    cases e
    cases q : prsOf ds with
    | none => rw [q] at h; cases h
    | some ms => rw [q] at h; cases h; exact ⟨(i, j), ms, rfl, rfl, rfl⟩
  · cases h
theorem prsOf_eq : ∀ {ds : List D} {ps : List (Int × Int)}, prsOf ds = some ps → ds = ps.map prD
  | [], _, h => by cases h; rfl
  | d :: ds, ps, h => by
    obtain ⟨p, r, rfl, h2, rfl⟩ := prsOf_cons h
    rw [prsOf_eq h2]; rfl
theorem prsOf_map : ∀ ps : List (Int × Int), prsOf (ps.map prD) = some ps
  | [] => rfl
  | p :: ps => by show (match prsOf (ps.map prD) with | some ns => some ((p.1, p.2) :: ns) | none => none) = _; rw [prsOf_map ps]
def prLe (a b : Int × Int) : Prop := a.1 < b.1 ∨ (a.1 = b.1 ∧ a.2 ≤ b.2)
def dSorted : D1 := fun d Q => match d with
  | .lst ds => match prsOf ds with
    | some ps => ∀ qs : List (Int × Int), qs.Perm ps → qs.Pairwise prLe → Q (.new (.lst (qs.map prD)))
    | none => match intsOf ds with
      | some ns => ∀ ms : List Int, ms.Perm ns → ms.Pairwise (· ≤ ·) → Q (.new (.lst (ms.map D.int)))
      | none => False
  | _ => False
def prAt (H : Hp) : V → Int × Int
  | .ref t => match H t with | some (.tup [.int i, .int j]) => (i, j) | _ => (0, 0)
  | _ => (0, 0)
theorem prs_at (R : Rl K W P G σ H) : ∀ {ps : List (Int × Int)} {xs : List V}, RpL K W (ps.map prD) xs → xs.map (prAt H) = ps ∧ ∀ x ∈ xs, Rp K W (prD (prAt H x)) x ∧ ∃ t, x = .ref t ∧ H t = some (.tup [.int (prAt H x).1, .int (prAt H x).2])
  | [], _, h => by obtain rfl : _ = [] := h; exact ⟨rfl, fun _ h => (by cases h)⟩
  | p :: ps, _, h => by
    obtain ⟨v, r, rfl, h1, h2⟩ := h
    obtain ⟨e1, e2⟩ := prs_at R h2
    have h1c := h1
    obtain ⟨t, ys, rfl, hF, a, b, e, ha, c, d, e', hb, hc⟩ := h1
    obtain rfl : a = .int p.1 := ha
    obtain rfl : c = .int p.2 := hb
    obtain rfl : d = [] := hc
    subst e' e
    have hH := R.le _ _ hF
    have hp : prAt H (.ref t) = p := by show (match H t with | some (.tup [.int i, .int j]) => (i, j) | _ => (0, 0)) = p; rw [hH]
    refine ⟨by rw [List.map_cons, e1, hp], fun x hx => ?_⟩
    rcases List.mem_cons.mp hx with rfl | hx
    · rw [hp]; exact ⟨h1c, t, rfl, hH⟩
    · exact e2 x hx
theorem rpl_of {f : V → D} : ∀ {xs : List V}, (∀ x ∈ xs, Rp K W (f x) x) → RpL K W (xs.map f) xs
  | [], _ => rfl
  | x :: xs, h => ⟨x, xs, rfl, h x List.mem_cons_self, rpl_of fun y hy => h y (List.mem_cons_of_mem _ hy)⟩
theorem cd_sorted : CallR X (.builtin "sorted") (canB X.K dSorted) := by
  refine CallR.imp (CallR.or (cr_sortedPO (X := X)) cr_sortedI) ?_
  rintro vs H Qv ⟨W, P, G, σ, v, d, Q, rfl, R, n, t, r⟩
  cases d <;> first | exact False.elim t | skip
  rename_i ds
  obtain ⟨p, xs, rfl, s, q⟩ := n
  have t : (match prsOf ds with
    | some ps => ∀ qs : List (Int × Int), qs.Perm ps → qs.Pairwise prLe → Q (.new (.lst (qs.map prD)))
    | none => match intsOf ds with
      | some ns => ∀ ms : List Int, ms.Perm ns → ms.Pairwise (· ≤ ·) → Q (.new (.lst (ms.map D.int)))
      | none => False) := t
  cases e : prsOf ds with
  | some ps =>
    rw [e] at t
    rw [prsOf_eq e] at q
    obtain ⟨e1, e2⟩ := prs_at R q
    refine .inl ⟨p, xs, prAt H, rfl, .of s, fun x hx => (e2 x hx).2, fun ys l hs hst hl => ?_⟩
    have hm : ∀ y ∈ ys, y ∈ xs := fun y hy => hst.perm.mem_iff.mp hy
    refine r.new R hl (o := .lst ys) (d := .lst ((ys.map (prAt H)).map prD)) ?_ (t _ (by rw [← e1]; exact hst.perm.map _) ?_)
    · show RpL X.K W _ ys
      rw [List.map_map]
      exact rpl_of fun y hy => (e2 y (hm y hy)).1
    · refine List.pairwise_map.mpr (List.Pairwise.imp (fun {a b} h => ?_) hs)
      have := SrtO.lexB_no.mp h
      unfold prLe
      omega
  | none =>
    rw [e] at t
    simp only at t
    cases e2 : intsOf ds with
    | none => rw [e2] at t; exact t.elim
    | some ns =>
      rw [e2] at t
      rw [intsOf_eq e2] at q
      rw [RpL.ints q] at s
      exact .inr ⟨p, ns, rfl, .of s, fun ms l h1 h2 hl => r.new R hl (o := .lst _) (d := .lst (ms.map D.int)) (RpL.ofInts ms) (t ms h1 h2)⟩
def on2 (t : Int → Int → Prop) : List D → Prop
  | .int i :: .int j :: r => r = [] ∧ t i j
  | _ => False
def dMax2 : List D → (SV → Prop) → Prop := fun ds Q => on2 (fun i j => Q (.dat (.int (if j > i then j else i)))) ds
def dMin2 : List D → (SV → Prop) → Prop := fun ds Q => on2 (fun i j => Q (.dat (.int (if j < i then j else i)))) ds
theorem two_ints {t : Int → Int → Prop} {ds : List D} {vs : List V} (h : RpL K W ds vs) (q : on2 t ds) : ∃ i j, vs = [.int i, .int j] ∧ t i j := by
  cases ds with
  | nil => exact False.elim q
  | cons a ds =>
    cases a <;> first | exact False.elim q | skip
    cases ds with
    | nil => exact False.elim q
    | cons b ds =>
      cases b <;> first | exact False.elim q | skip
      obtain ⟨e, q⟩ := q
      subst e
      obtain ⟨v, r, rfl, h1, w, r2, rfl, h2, h3⟩ := h
      obtain rfl : v = .int _ := h1
      obtain rfl : w = .int _ := h2
      obtain rfl : r2 = [] := h3
      exact ⟨_, _, rfl, q⟩
theorem cd_max2 (hc : X.calm = true) : CallR X (.builtin "max") (canC X.K dMax2) := by
  refine CallR.imp (call_max2 hc) ?_
  rintro vs H Qv ⟨W, P, G, σ, ds, Q, R, n, t, r⟩
  obtain ⟨i, j, rfl, q⟩ := two_ints n t
  exact ⟨i, j, rfl, r.int R q⟩
theorem cd_min2 (hc : X.calm = true) : CallR X (.builtin "min") (canC X.K dMin2) := by
  refine CallR.imp (call_min2 hc) ?_
  rintro vs H Qv ⟨W, P, G, σ, ds, Q, R, n, t, r⟩
  obtain ⟨i, j, rfl, q⟩ := two_ints n t
  exact ⟨i, j, rfl, r.int R q⟩
def dDivmod : List D → (SV → Prop) → Prop := fun ds Q => on2 (fun i j => (0 < j ∧ j.natAbs.log2 < 9000) ∧ Q (.dat (.tup [.int (i / j), .int (i % j)]))) ds
def clsD : D → Option String
  | .non => some "NoneType"
  | .bl _ => some "bool"
  | .int _ => some "int"
  | .str _ => some "str"
  | .tup _ => some "tuple"
  | .lst _ => some "list"
  | .dK _ => some "dict"
  | _ => none
theorem clsD_ty {d : D} {v : V} {T : String} (e : clsD d = some T) (h : Rp K W d v) (R : Rl K W P G σ H) : TyX K H v (.type T) := by
  cases d <;> first | (cases e; done) | skip
  · obtain rfl : v = .non := h; cases e; exact .base .non
  · obtain rfl : v = .bl _ := h; cases e; exact .base (.bl _)
  · obtain rfl : v = .int _ := h; cases e; exact .base (.int _)
  · obtain rfl : v = .str _ := h; cases e; exact .base (.str _)
  · obtain ⟨a, xs, rfl, s, _⟩ := h; cases e; exact .base (.tup (R.le _ _ s))
  · obtain ⟨a, xs, rfl, s, _⟩ := h; cases e; exact .base (.lst (R.le _ _ s))
  · obtain ⟨a, xs, rfl, s, _⟩ := h; cases e
    rcases R.rdL s with s | ⟨_, s⟩
    · exact .base (.dK s)
    · exact .fDict s
def kits : List String := ["int", "bool", "str", "list", "tuple", "dict"]
def isT (T U : String) : Bool := T == U || (T == "bool" && U == "int")
theorem kit_all : ∀ T ∈ "NoneType" :: kits, ∀ U ∈ kits, ∀ K, PySem.W.kitOne K (.type T) (.type U) = some (isT T U) := by
  intro T hT U hU K
  refine kit_ty ?_
  revert T U
  decide +kernel
def dIsi : List D → (SV → Prop) → Prop
  | d :: .ty U :: r, Q => r = [] ∧ U ∈ kits ∧ match clsD d with | some T => Q (.dat (.bl (isT T U))) | none => False
  | _, _ => False
theorem clsD_in {d : D} {T : String} (e : clsD d = some T) : T ∈ "NoneType" :: kits := by
  cases d <;> first | (cases e; done) | (cases e; decide)
theorem cd_isi : CallR X (.builtin "isinstance") (canC X.K dIsi) := by
  refine CallR.imp (call_isi (X := X)) ?_
  rintro vs H Qv ⟨W, P, G, σ, ds, Q, R, n, t, r⟩
  cases ds with
  | nil => exact False.elim t
  | cons a ds =>
    cases ds with
    | nil => exact False.elim t
    | cons b ds =>
      cases b <;> first | exact False.elim t | skip
      rename_i U
      obtain ⟨e, hU, q⟩ := t
      subst e
      obtain ⟨v, r', rfl, h1, w, r2, rfl, h2, h3⟩ := n
      obtain rfl : w = .ty U := h2
      obtain rfl : r2 = [] := h3
      cases ec : clsD a with
      | none => rw [ec] at q; exact q.elim
      | some T =>
        rw [ec] at q
        exact ⟨v, .ty U, .type T, .type U, _, rfl, .ty U, clsD_ty ec h1 R, kit_all T (clsD_in ec) U hU _, r.bl R q⟩
end
def startG (n : Ct) (N : List Str) (ds : List D) : Gm := ⟨ds.map (fun d => some (.dat d)) ++ List.replicate (N.length - ds.length) none, n⟩
def defE (Q : SV → Ct → Prop) : DEnds := { nx := fun G => Q (.dat .non) G.c, rt := Q }
theorem ggl_get : ∀ (L : List (Option SC)) (i : Nat) (x : SC), ggl L i = some x ↔ L[i]? = some (some x)
  | [], i, x => by simp [ggl]
  | y :: r, 0, x => by simp [ggl]
  | y :: r, i + 1, x => by rw [List.getElem?_cons_succ]; exact ggl_get r i x
theorem start_dat {n : Ct} {N : List Str} {ds : List D} {i : Nat} {x : SC} (h : gg (startG n N ds) i = some x) : ∃ d, x = .dat d ∧ ds[i]? = some d := by
  have h : (ds.map (fun d => some (SC.dat d)) ++ List.replicate (N.length - ds.length) none)[i]? = some (some x) := (ggl_get _ _ _).mp h
  by_cases hi : i < ds.length
  · rw [List.getElem?_append_left (by rw [List.length_map]; exact hi), List.getElem?_map] at h
    rw [List.getElem?_eq_getElem hi] at h ⊢
    cases h; exact ⟨_, rfl, rfl⟩
  · rw [List.getElem?_append_right (by rw [List.length_map]; omega)] at h
    rw [List.getElem?_replicate] at h
    split at h <;> cases h
theorem Rl.start {K : PySem.W.Frag} {W : Wd} {P : Hp} {n : Ct} {H : Hp} {ds : List D} {vs : List V} (R : Rl K W P ⟨[], n⟩ [] H) (r : RpL K W ds vs) (N : List Str) : Rl K W P (startG n N ds) (L2.start N vs) H := by
  refine ⟨?_, R.le, R.src, R.prot, fun i d e => ?_, fun i d e => ?_, fun i j d e _ h1 _ => ?_, R.pnt, R.ext⟩
  · show (ds.map _ ++ List.replicate _ none).length = (vs.map some ++ List.replicate _ none).length
    simp only [List.length_append, List.length_map, List.length_replicate, r.length]
  · obtain ⟨d', e1, e2⟩ := start_dat e
    cases e1
    obtain ⟨v, h1, h2⟩ := r.get e2
    refine ⟨v, ?_, h2⟩
    have hl := (List.getElem?_eq_some_iff.mp h1).1
    show (vs.map some ++ List.replicate _ none)[i]? = _
    rw [List.getElem?_append_left (by rw [List.length_map]; exact hl), List.getElem?_map, h1]; rfl
  · obtain ⟨_, e1, _⟩ := start_dat e; cases e1
  · obtain ⟨_, e1, _⟩ := start_dat h1; cases e1
theorem fd_of {P : Program} {w : World} {K : PySem.W.Frag} {mg : Str → Option Value} {base : Heap} {k : Nat} {f : Addr} {x qual : Str} {st : Stmt} {dd : List D} {fd : FuncData} {N ps : List Str} {S : DSp} {t : DS}
    (F : FunT K x qual st dd f fd) (C : FnScope N ps (defScope st))
    (der : ∀ (cdv : Value) (A : Around) (outer : List Env) (s : Shared) (H : Hp), (A.deeper (envOfC qual (defScope st) s.heap.objs.size f cdv)).guards = some [] → Room k (A.deeper (envOfC qual (defScope st) s.heap.objs.size f cdv)) →
      PSs (cxOf CX0 P w K mg base N qual (defScope st) f cdv A outer s H E0).nox (defBody st) (canS K t))
    (len : ∀ n ds Q, S n ds Q → ds.length = ps.length) (law : ∀ n ds Q, S n ds Q → t (defE Q) (startG n N ds)) : FnD P w K mg base (k + 1) f fd ps S := by
  refine fg_of F C (fun vs H Q E h => ?_) fun cdv A outer s H vs Q gd hr h => ?_
  · obtain ⟨W, P0, n, ds, Qd, _, _, r, q, _⟩ := h
    rw [r.length]; exact len _ _ _ q
  · obtain ⟨W, P0, n, ds, Qd, R, _, r, q, kk⟩ := h
    refine ⟨_, der cdv A outer s H gd hr, W, P0, startG n N ds, defE Qd, R.start r N, law _ _ _ q, fun W' G σ H' l R' q => ?_, fun _ _ _ _ _ _ q => q.elim, fun _ _ _ _ _ _ q => q.elim, fun W' sv m v H' l R' rv q => ?_⟩
    · exact kk W' (.dat .non) G.c .non H' l R'.bare rfl q
    · exact kk W' sv m v H' l R' rv q
section
variable {X : Cx} {K : PySem.W.Frag} {W : Wd} {P : Hp} {G : Gm} {σ : St} {H : Hp} {e a : Expr} {pos : Pos}
def dSrcE (t : DE) : DE := fun G Q => t G fun sv G1 => ∃ x y z : Int, sv = .new (.lst [.int x, .int y, .int z]) ∧ 0 ≤ y ∧ y < 10 ^ 50 ∧ 0 ≤ z ∧ z ≤ G1.c.num ∧ Q (.dat .src) G1
theorem ints3 {x y z : Int} {xs : List V} (h : RpL K W [.int x, .int y, .int z] xs) : xs = [.int x, .int y, .int z] := by
  obtain ⟨a, r, rfl, h1, h⟩ := h
  obtain ⟨b, r, rfl, h2, h⟩ := h
  obtain ⟨c, r, rfl, h3, h⟩ := h
  cases h1; cases h2; cases h3; cases h; rfl
theorem de_src {t : DE} (h : PE X e (can X.K t)) : PE X e (can X.K (dSrcE t)) := by
  refine PE.imp h fun σ H Qv h => ?_
  obtain ⟨W, P, G, Q, R, t, k⟩ := h
  refine ⟨W, P, G, _, R, t, fun W1 sv G1 v H1 l1 R1 r1 q1 => ?_⟩
  obtain ⟨x, y, z, rfl, y1, y2, z1, z2, q⟩ := q1
  obtain ⟨p, o, rfl, pr, ro, hn⟩ := r1
  cases o <;> try exact False.elim ro
  rename_i xs
  have e1 := ints3 ro
  subst e1
  have l2 : W1.le ⟨W1.F, fun a => W1.S a ∨ a = p, fun a => W1.T a ∨ a = p⟩ := ⟨fun _ _ e => e, fun _ h => .inl h, fun a h => ⟨fun t => t.elim id fun z => absurd h (by rw [z]; exact pr.s), .inl⟩⟩
  refine k ⟨W1.F, fun a => W1.S a ∨ a = p, fun a => W1.T a ∨ a = p⟩ (.dat .src) G1 _ H1 (l1.trans l2) ⟨R1.len, R1.le, fun a h => ?_, R1.prot, fun i d e => ?_, fun i d e => ?_, R1.sep, R1.pnt, R1.ext.mono l2⟩ ⟨p, rfl, .inr rfl, .inr rfl⟩ q
  · rcases h with h | rfl
    · obtain ⟨h1, h2, h3⟩ := R1.src a h
      exact ⟨h1, h2, h3.same l2 h fun _ e => e⟩
    · exact ⟨pr.f, pr.n, ⟨_, pr.at_, fun xs z => nomatch z⟩, fun _ => ⟨x, y, z, pr.at_, y1, y2, z1, z2⟩, fun t => absurd (.inr rfl) t⟩
  · obtain ⟨v, h1, h2⟩ := R1.dat i d e
    exact ⟨v, h1, Rp.mono l2 _ _ h2⟩
  · obtain ⟨q, o, h1, h2, h3⟩ := R1.own i d e
    refine ⟨q, o, h1, ⟨h2.at_, h2.f, fun z => ?_, h2.n⟩, h3.mono l2⟩
    rcases z with z | rfl
    · exact h2.s z
    · exact hn i d e h1
def dSrcIx (i k : Nat) : DE := fun G Q => gg G i = some (.dat .src) ∧ k < 3 ∧ ∀ v : Int, (k = 1 → 0 ≤ v ∧ v < 10 ^ 50) → (k = 2 → 0 ≤ v ∧ v ≤ G.c.num) → Q (.dat (.int v)) G
theorem Rl.srcAt (R : Rl K W P G σ H) {i : Nat} (h : gg G i = some (.dat .src)) : ∃ a, σ[i]? = some (some (.ref a)) ∧ W.S a ∧ W.T a := by
  obtain ⟨v, h1, a, rfl, h2⟩ := R.dat i _ h
  exact ⟨a, h1, h2⟩
theorem de_ixSrc {x : Str} {px pk : Pos} {j} (i : Nat) (k : Nat) (hN : X.N[i]? = some x := by rfl) (hv : Vis X.env.scope x := by first | exact Or.inl rfl | exact Or.inr (Or.inl rfl) | exact Or.inr (Or.inr rfl)) (hd : (x == ("__debug__" : Str)) = false := by decide)
    (hcd : (x == ("__classdict__" : Str)) = false := by decide) : PE X (.Subscript (.Name x px) (.Constant (.int (k : Int)) j pk) pos) (can X.K (dSrcIx i k)) := by
  refine PE.imp (pe_ix ix_list (pe_var hN hv hd hcd) pe_int (fun _ _ => rfl)) ?_
  rintro σ H Qv ⟨W, P, G, Q, R, ⟨hg, hk, t⟩, kk⟩
  obtain ⟨a, h1, h2, hT⟩ := R.srcAt hg
  obtain ⟨_, _, hs⟩ := R.src a h2
  obtain ⟨x, y, z, h3, y1, y2, z1, z2⟩ := hs.src hT
  have fin : ∀ v : Int, atI [V.int x, .int y, .int z] (k : Int) = some (.int v) → (k = 1 → 0 ≤ v ∧ v < 10 ^ 50) → (k = 2 → 0 ≤ v ∧ v ≤ G.c.num) → tOp (rIxL X.K) (tVar i) (tC (V.int (k : Int))) σ H Qv := fun v e c1 c2 => ⟨V.ref a, h1, a, _, (k : Int), V.int v, rfl, rfl, .inl (.inl h3), e, kk W (.dat (.int v)) G (.int v) H (.refl W) R rfl (t v c1 c2)⟩
  match k, hk with
  | 0, _ => exact fin x rfl (fun h => by cases h) (fun h => by cases h)
  | 1, _ => exact fin y rfl (fun _ => ⟨y1, y2⟩) (fun h => by cases h)
  | 2, _ => exact fin z rfl (fun h => by cases h) (fun _ => ⟨z1, z2⟩)
theorem Rl.srcSet (R : Rl K W P G σ H) {a : Addr} (h : W.S a) (hT : W.T a) {x y z : Int} (m : Ct) (hm : m = G.c ∨ m = G.c.up) (y1 : 0 ≤ y) (y2 : y < 10 ^ 50) (z1 : 0 ≤ z) (z2 : z ≤ m.num) : Rl K W P (G.at m) σ (upd H a (.lst [.int x, .int y, .int z])) := by
  obtain ⟨f, n, _⟩ := R.src a h
  refine ⟨R.len, fun b o e => ?_, fun b hb => ?_, fun p o e => ?_, R.dat, fun i d e => ?_, R.sep, R.pnt, by rcases hm with rfl | rfl <;> exact R.ext⟩
  · rw [upd_ne (fun q => by rw [q, f] at e; cases e)]; exact R.le b o e
  · obtain ⟨f', n', hs⟩ := R.src b hb
    refine ⟨f', n', ?_⟩
    by_cases q : b = a
    · subst q; exact ⟨⟨_, upd_same, fun xs z => nomatch z⟩, fun _ => ⟨x, y, z, upd_same, y1, y2, z1, z2⟩, fun t => absurd hT t⟩
    · have hs2 : SrcOk K W (upd H a (.lst [.int x, .int y, .int z])) b G.c := hs.same (.refl W) hb fun o e => by rw [upd_ne q]; exact e
      rcases hm with rfl | rfl
      · exact hs2
      · exact hs2.up
  · obtain ⟨h1, h2⟩ := R.prot p o e
    exact ⟨by rw [upd_ne (fun q => by rw [q, n] at e; cases e)]; exact h1, h2⟩
  · obtain ⟨q, o, h1, h2, h3⟩ := R.own i d e
    exact ⟨q, o, h1, ⟨by rw [upd_ne (fun z => h2.s (by rw [z]; exact h))]; exact h2.at_, h2.f, h2.s, h2.n⟩, h3⟩
def dSrcSet (i k : Nat) (t : DE) : DS := fun E G => t G fun sv G1 => see G1 sv fun d => gg G1 i = some (.dat .src) ∧ match d with
  | .int v => (k = 0 ∧ E.nx G1) ∨ (k = 2 ∧ 0 ≤ v ∧ v ≤ G1.c.num + 1 ∧ E.nx (G1.at G1.c.up))
  | _ => False
theorem ds_setSrc {x : Str} {px pk pt : Pos} {j} {t : DE} (i : Nat) (k : Nat) (he : PE X e (can X.K t)) (hN : X.N[i]? = some x := by rfl) (hv : Vis X.env.scope x := by first | exact Or.inl rfl | exact Or.inr (Or.inl rfl) | exact Or.inr (Or.inr rfl)) (hd : (x == ("__debug__" : Str)) = false := by decide)
    (hcd : (x == ("__classdict__" : Str)) = false := by decide)
    (hs : swapsWithSole [.Subscript (.Name x px) (.Constant (.int (k : Int)) j pk) pt] e pos.line X.env = pure false := by rfl) (hw : swappedStores [.Subscript (.Name x px) (.Constant (.int (k : Int)) j pk) pt] e X.env = pure none := by rfl)
    (h1 : (assignEach [.Subscript (.Name x px) (.Constant (.int (k : Int)) j pk) pt] X.env).map (·.2) = [assign (.Subscript (.Name x px) (.Constant (.int (k : Int)) j pk) pt) X.env] := by rfl) :
    PS X (.Assign [.Subscript (.Name x px) (.Constant (.int (k : Int)) j pk) pt] e pos) (canS X.K (dSrcSet i k t)) := by
  refine PS.imp (ps_asg he (pg_sub (pe_var hN hv hd hcd) pe_int set_list) hs hw h1) ?_
  rintro D σ H ⟨W, P, G, E, R, t, kk⟩
  refine ⟨W, P, G, _, R, t, fun W1 sv G1 v H1 l1 R1 r1 q1 => ?_⟩
  obtain ⟨W2, l2, R2, s2⟩ := R1.settle r1
  obtain ⟨d, rn, hg, q⟩ := R2.see s2 q1
  cases d <;> try exact False.elim q
  rename_i n
  obtain rfl : v = .int n := rn
  obtain ⟨a, e1, e2, eT⟩ := R2.srcAt hg
  obtain ⟨_, _, hs⟩ := R2.src a e2
  obtain ⟨x, y, z, h3, y1, y2, z1, z2⟩ := hs.src eT
  rcases q with ⟨rfl, q⟩ | ⟨rfl, n1, n2, q⟩
  · refine ⟨.ref a, e1, a, _, 0, 0, rfl, rfl, h3, rfl, ?_⟩
    exact kk.nx W2 (G1.at G1.c) σ _ (l1.trans l2) (R2.srcSet (x := n) e2 eT G1.c (.inl rfl) y1 y2 z1 z2) q
  · refine ⟨.ref a, e1, a, _, 2, 2, rfl, rfl, h3, rfl, ?_⟩
    exact kk.nx W2 (G1.at G1.c.up) σ _ (l1.trans l2) (R2.srcSet (z := n) e2 eT G1.c.up (.inr rfl) y1 y2 n1 (by rw [Ct.num_up]; exact_mod_cast n2)) q
theorem Rl.reown (R : Rl K W P G σ H) {i : Nat} {d d' : D} {p : Addr} {o o' : HO} (e : gg G i = some (.own d)) (h1 : σ[i]? = some (some (.ref p))) (pr : Priv W H P p o) (r : RO K W p o' d') : Rl K W P (gset G i (some (.own d'))) σ (upd H p o') := by
  have hl : i < G.length := gg_lt e
  have key : ∀ {j : Nat} {x : SC}, gg (gset G i (some (.own d'))) j = some x → (j = i ∧ x = .own d') ∨ (j ≠ i ∧ gg G j = some x) := fun {j x} q => by
    by_cases hj : j = i
    · rw [hj, gg_set_self _ _ _ hl] at q; cases q; exact .inl ⟨hj, rfl⟩
    · rw [gg_set_ne _ _ _ _ hj] at q; exact .inr ⟨hj, q⟩
  refine ⟨by rw [gset_len]; exact R.len, fun b u q => ?_, fun b hb => ?_, fun q u z => ?_, fun j x q => ?_, fun j x q => ?_, fun j k x y n q1 q2 => ?_, R.pnt, R.ext⟩
  · rw [upd_ne (fun z => by rw [z, pr.f] at q; cases q)]; exact R.le b u q
  · obtain ⟨f, n, a1⟩ := R.src b hb
    exact ⟨f, n, a1.same (.refl W) hb fun o e => by rw [upd_ne (fun z => pr.s (by rw [← z]; exact hb))]; exact e⟩
  · obtain ⟨a1, a2⟩ := R.prot q u z
    exact ⟨by rw [upd_ne (fun y => by rw [y, pr.n] at z; cases z)]; exact a1, a2⟩
  · rcases key q with ⟨_, q⟩ | ⟨_, q⟩
    · cases q
    · exact R.dat j x q
  · rcases key q with ⟨rfl, q'⟩ | ⟨hj, q⟩
    · cases q'; exact ⟨p, o', h1, ⟨upd_same, pr.f, pr.s, pr.n⟩, r⟩
    · obtain ⟨a, u, a1, a2, a3⟩ := R.own j x q
      have na : a ≠ p := fun z => R.sep j i _ _ hj q e (by rw [a1, h1, z])
      exact ⟨a, u, a1, ⟨by rw [upd_ne na]; exact a2.at_, a2.f, a2.s, a2.n⟩, a3⟩
  · have u1 : ∃ z, gg G j = some (.own z) := by
      rcases key q1 with ⟨rfl, _⟩ | ⟨_, q⟩
      · exact ⟨d, e⟩
      · exact ⟨x, q⟩
    have u2 : ∃ z, gg G k = some (.own z) := by
      rcases key q2 with ⟨rfl, _⟩ | ⟨_, q⟩
      · exact ⟨d, e⟩
      · exact ⟨y, q⟩
    obtain ⟨z1, u1⟩ := u1
    obtain ⟨z2, u2⟩ := u2
    exact R.sep j k z1 z2 n u1 u2
def ownL (G : Gm) (i : Nat) (k : List D → Prop) : Prop := match gg G i with | some (.own (.lst ds)) => k ds | _ => False
theorem ownL_of {i : Nat} {k : List D → Prop} (h : ownL G i k) : ∃ ds, gg G i = some (.own (.lst ds)) ∧ k ds := by
  unfold ownL at h
  split at h
  · exact ⟨_, by assumption, h⟩
  · exact h.elim
def dOwnL (i : Nat) (r : List D → List D → (List D → D → Prop) → Prop) (t : DA) : DE := fun G Q => ownL G i (fun _ => True) ∧ t G fun ys G1 => ownL G1 i fun ds => r ds ys fun ds' d => Q (.dat d) (gset G1 i (some (.own (.lst ds'))))
def MthL (K : PySem.W.Frag) (rV : V → List V → Hp → VK → Prop) (r : List D → List D → (List D → D → Prop) → Prop) : Prop := ∀ (W : Wd) (H : Hp) (p : Addr) (xs us : List V) (ds ys : List D) (k : List D → D → Prop) (Qv : VK), (∀ b o, W.F b = some o → H b = some o) → H p = some (.lst xs) → RpL K W ds xs → RpL K W ys us → r ds ys k →
  (∀ ds' d xs' v, RpL K W ds' xs' → Rp K W d v → k ds' d → Qv v (upd H p (.lst xs'))) → rV (.ref p) us H Qv
variable {es : List Expr} {apos cpos px : Pos} {name x : Str} {id : String} {rV : V → List V → Hp → VK → Prop} {r : List D → List D → (List D → D → Prop) → Prop}
theorem mth_run {i : Nat} {t : DA} (m : MthL K rV r) {Qv : VK} (h : can K (dOwnL i r t) σ H Qv) : ∃ v, σ[i]? = some (some v) ∧ tyV K "list" v H ∧ canA K t σ H fun xs H2 => rV v xs H2 Qv := by
  obtain ⟨W, P, G, Q, R, ⟨h1, h2⟩, kk⟩ := h
  obtain ⟨d0, h1, _⟩ := ownL_of h1
  obtain ⟨p, o, e1, pr, ro⟩ := R.own i _ h1
  cases o <;> try exact False.elim ro
  rename_i xs0
  refine ⟨_, e1, .inl ⟨rfl, xs0, .inl (.inl pr.at_)⟩, W, P, G, _, R, h2, fun W1 ys G1 us H1 l1 R1 r1 q1 => ?_⟩
  obtain ⟨ds, h3, q⟩ := ownL_of q1
  obtain ⟨p', o', e2, pr', ro'⟩ := R1.own i _ h3
  rw [e1] at e2; cases e2
  cases o' <;> try exact False.elim ro'
  rename_i xs
  refine m W1 H1 p xs us ds ys _ Qv R1.le pr'.at_ ro' r1 q fun ds' d xs' v a1 a2 a3 => ?_
  exact kk W1 (.dat d) _ v _ l1 (R1.reown (o' := .lst xs') (d' := .lst ds') h3 e1 pr' a1) a2 a3
theorem de_ml {i : Nat} {t : DA} (slot : Slot "list" name id) (hty : typeOf (.builtin id) = pure (.type "method_descriptor")) (hm : MtR X id rV) (m : MthL X.K rV r) (ha : PA X (e :: es) (canA X.K t))
    (hN : X.N[i]? = some x := by rfl) (hv : Vis X.env.scope x := by first | exact Or.inl rfl | exact Or.inr (Or.inl rfl) | exact Or.inr (Or.inr rfl)) (hd : (x == ("__debug__" : Str)) = false := by decide)
    (hcd : (x == ("__classdict__" : Str)) = false := by decide) (hbase : attributeBase (.Name x px) name X.env (eval (.Name x px) X.env) = eval (.Name x px) X.env := by rfl)
    (hfew : ((backTo cpos (starEach (e :: es) X.env)).all (fun x => !x.1) && (backToKw cpos (keywordEach [] X.env)).all (fun x => x.1.isSome)
      && decide ((e :: es).length + ([] : List Keyword).length + (if ([] : List Keyword).isEmpty then 0 else 1) < 30)) = true := by rfl)
    (hline : (apos.endLine == cpos.line) = true := by rfl) (hs : starEach (e :: es) X.env = (false, eval e X.env) :: starEach es X.env := by rfl) (hplain : (backTo cpos (starEach es X.env)).any (·.1) = false := by rfl) :
    PE X (.Call (.Attribute (.Name x px) name apos) (e :: es) [] cpos) (can X.K (dOwnL i r t)) :=
  PE.imp (pe_bm PySem.F.plainAttrs_list slot hty hm (pe_var hN hv hd hcd) ha hbase hfew hline hs hplain) fun σ H Q h => by
    obtain ⟨v, h1, h2, h3⟩ := mth_run m h
    exact ⟨v, h1, h2, h3⟩
def mApp : List D → List D → (List D → D → Prop) → Prop := fun ds ys k => match ys with
  | [y] => ds.length < sizeLine ∧ k (ds ++ [y]) .non
  | _ => False
theorem ml_append : MthL K rAppend mApp := fun W H p xs us ds ys k Qv le hp r1 r2 h q => by
  match ys, h with
  | [y], ⟨h1, h2⟩ =>
    obtain ⟨u, r, rfl, ru, rr⟩ := r2
    obtain rfl : r = [] := rr
    exact ⟨p, xs, u, rfl, rfl, hp, by rw [r1.length]; exact h1, q (ds ++ [y]) .non (xs ++ [u]) .non (RpL.append r1 (show RpL K W [y] [u] from ⟨u, [], rfl, ru, rfl⟩)) rfl h2⟩
def mPop : List D → List D → (List D → D → Prop) → Prop := fun ds _ k => match ds.getLast? with
  | some d => k ds.dropLast d
  | none => False
def mExt : List D → List D → (List D → D → Prop) → Prop := fun ds ys k => match ys with
  | [.lst es] => ds.length + es.length ≤ sizeLine ∧ k (ds ++ es) .non
  | _ => False
theorem Rl.guardP (R : Rl K W P G σ H) {p : Addr} {o : HO} (pr : Priv W H P p o) (hn : ∀ i e, gg G i = some (.own e) → σ[i]? ≠ some (some (.ref p))) (no : ∀ xs, o ≠ .tup xs) : Rl K W (upd P p o) G σ H := by
  refine ⟨R.len, R.le, fun a h => ?_, fun q u e => ?_, R.dat, fun i x e => ?_, R.sep, pnt_upd R.pnt no, R.ext⟩
  · obtain ⟨h1, h2, h3⟩ := R.src a h
    exact ⟨h1, by rw [upd_ne (show a ≠ p from fun z => pr.s (by rw [← z]; exact h))]; exact h2, h3⟩
  · by_cases hq : q = p
    · subst hq; rw [upd_same] at e; cases e; exact ⟨pr.at_, pr.f⟩
    · rw [upd_ne hq] at e; exact R.prot q u e
  · obtain ⟨q, u, h1, h2, h3⟩ := R.own i x e
    exact ⟨q, u, h1, ⟨h2.at_, h2.f, h2.s, by rw [upd_ne (show q ≠ p from fun z => hn i x e (by rw [← z]; exact h1))]; exact h2.n⟩, h3⟩
def dPar2 (i j : Nat) (ta tb : DE) : DS := fun E G => ta G fun sa G1 => rest1 G1 sa fun ca G2 => tb G2 fun sb G3 => rest1 G3 sb fun cb G4 => E.nx (gset (gset G4 j (some cb)) i (some ca))
theorem ds_par2 {x y : Str} {a b : Expr} (i j : Nat) {ta tb : DE} {px py pt : Pos} {kt k2 pt2} (hN : X.N.Nodup) (ha : PE X a (can X.K ta)) (hb : PE X b (can X.K tb)) (hc : X.calm = true := by rfl) (hi : X.N[i]? = some x := by rfl) (hj : X.N[j]? = some y := by rfl) (hij : i ≠ j := by decide)
    (hx : X.env.scope.names.lookup x = some .local := by rfl) (hy : X.env.scope.names.lookup y = some .local := by rfl)
    (hw : swappedStores [.Tuple [.Name x px, .Name y py] kt pt] (.Tuple [a, b] k2 pt2) X.env = pure (some [x, y]) := by rfl)
    (hs : swapsWithSole [.Tuple [.Name x px, .Name y py] kt pt] (.Tuple [a, b] k2 pt2) pos.line X.env = pure false := by rfl)
    (s1 : starEach [a, b] X.env = (false, eval a X.env) :: starEach [b] X.env := by rfl) (s2 : starEach [b] X.env = (false, eval b X.env) :: starEach [] X.env := by rfl) :
    PS X (.Assign [.Tuple [.Name x px, .Name y py] kt pt] (.Tuple [a, b] k2 pt2) pos) (canS X.K (dPar2 i j ta tb)) := by
  refine PS.imp (ps_par hc hN hi hj hij hx hy (pa_cons ha (pa_cons hb pa_nil s2) s1) hw hs) ?_
  rintro D σ H ⟨W, P, G, E, R, t, k⟩
  have swp : ∀ (v w : V), (σ.set j (some w)).set i (some v) = (σ.set i (some v)).set j (some w) := fun v w => List.set_comm _ _ (Ne.symm hij)
  refine ⟨W, P, G, _, R, t, fun W1 sa G1 v H1 l1 R1 r1 q1 => ?_⟩
  cases sa with
  | dat d =>
    have q1 : tb G1 fun sb G3 => rest1 G3 sb fun cb G4 => E.nx (gset (gset G4 j (some cb)) i (some (.dat d))) := q1
    refine ⟨W1, P, G1, _, R1, q1, fun W2 sb G2 w H2 l2 R2 r2 q2 => ⟨v, w, rfl, ?_⟩⟩
    obtain ⟨W3, c, G3, l3, R3, q3⟩ := R2.rest (i := j) r2 q2
    rw [← swp]
    exact k.nx W3 _ _ H2 ((l1.trans l2).trans l3) (R3.setDat i (Rp.mono (l2.trans l3) _ _ r1)) q3
  | bor n =>
    have q1 : LD.frz G1 (SV.bor n) fun d G2 => tb G2 fun sb G3 => rest1 G3 sb fun cb G4 => E.nx (gset (gset G4 j (some cb)) i (some (.dat d))) := q1
    obtain ⟨Wa, d, Ga, la, Ra, ra, q1⟩ := R1.frz r1 q1
    refine ⟨Wa, P, Ga, _, Ra, q1, fun W2 sb G2 w H2 l2 R2 r2 q2 => ⟨v, w, rfl, ?_⟩⟩
    obtain ⟨W3, c, G3, l3, R3, q3⟩ := R2.rest (i := j) r2 q2
    rw [← swp]
    exact k.nx W3 _ _ H2 (((l1.trans la).trans l2).trans l3) (R3.setDat i (Rp.mono (l2.trans l3) _ _ ra)) q3
  | new d =>
    obtain ⟨p, o, rfl, pr, ro, hn⟩ := r1
    have q1 : tb G1 fun sb G3 => rest1 G3 sb fun cb G4 => E.nx (gset (gset G4 j (some cb)) i (some (.own d))) := q1
    refine ⟨W1, upd P p o, G1, _, R1.guardP pr hn ro.nt, q1, fun W2 sb G2 w H2 l2 R2 r2 q2 => ⟨.ref p, w, rfl, ?_⟩⟩
    obtain ⟨W3, c, G3, l3, R3, q3⟩ := R2.rest (i := j) r2 q2
    obtain ⟨R4, p', o', e, pr4, ro4, hn4⟩ := R3.unguard (d := d) pr.n (ro.mono (l2.trans l3))
    cases e
    rw [← swp]
    exact k.nx W3 _ _ H2 ((l1.trans l2).trans l3) (R4.setOwn i pr4 ro4 hn4) q3
def SlR3 (X : Cx) (r : V → Option Int → Option Int → Option Int → Hp → VK → Prop) : Prop :=
  ∀ (pins : List (Addr × Obj)) (s : Shared) (σ : St) (H : Hp) (x : V) (v vl vu vs : Value) (lo hi st : Option Int) (sl : Addr) (Q : VK), Inv X pins σ H s → RelV x v → s.heap.IsSliceOf sl vl vu vs → IsPart vl lo → IsPart vu hi → IsPart vs st → r x lo hi st H Q →
    ∃ T id, typeLookup (.type T) "__getitem__" = pure (some (.builtin id)) ∧ s.TypeIs v T ∧ wpAny (model X.prog X.w) X.A (getItem v (.ref sl)) (EP X pins σ Q) X.xe s
theorem SlR3.or {r r' : V → Option Int → Option Int → Option Int → Hp → VK → Prop} (h : SlR3 X r) (h' : SlR3 X r') : SlR3 X (fun x lo hi st H Q => r x lo hi st H Q ∨ r' x lo hi st H Q) := by
  intro pins s σ H x v vl vu vs lo hi st sl Q I rx hs pl pu ps q
  rcases q with q | q
  · exact h pins s σ H x v vl vu vs lo hi st sl Q I rx hs pl pu ps q
  · exact h' pins s σ H x v vl vu vs lo hi st sl Q I rx hs pl pu ps q
theorem SlR3.imp {r r' : V → Option Int → Option Int → Option Int → Hp → VK → Prop} (h : SlR3 X r) (i : ∀ x lo hi st H Q, r' x lo hi st H Q → r x lo hi st H Q) : SlR3 X r' :=
  fun pins s σ H x v vl vu vs lo hi st sl Q I rx hs pl pu ps q => h pins s σ H x v vl vu vs lo hi st sl Q I rx hs pl pu ps (i x lo hi st H Q q)
def pickL {α : Type} (xs : List α) (lo hi st : Option Int) : List α := (sliceRange (sliceBounds lo hi st xs.length).1 (sliceBounds lo hi st xs.length).2.1 (sliceBounds lo hi st xs.length).2.2).filterMap fun i => xs[i]?
end
section
variable {prog : Program} {w : World} {A : Around} {E : Value → Shared → Prop} {s : Shared}
theorem fm_congr {α β : Type} {f g : α → Option β} : ∀ {l : List α}, (∀ a ∈ l, f a = g a) → l.filterMap f = l.filterMap g
  | [], _ => rfl
  | a :: l, h => by rw [List.filterMap_cons, List.filterMap_cons, h a List.mem_cons_self, fm_congr fun x hx => h x (List.mem_cons_of_mem _ hx)]
end
section
variable {X : Cx} {K : PySem.W.Frag} {W : Wd} {P : Hp} {G : Gm} {σ : St} {H : Hp} {e : Expr} {pos : Pos}
def dSlc3 (a : D) (lo hi st : Option Int) (Q : SV → Prop) : Prop := match a with
  | .lst ds => st ≠ some 0 ∧ Q (.new (.lst (pickL ds lo hi st)))
  | .tup ds => lo = none ∧ hi = none ∧ st = some (-1) ∧ Q (.dat (.tup ds.reverse))
  | _ => False
def dSl3 (ta : DE) (tl th ts : DO) : DE := fun G Q => ta G fun sa G1 => tl G1 fun lo G2 => th G2 fun hi G3 => ts G3 fun st G4 => see G4 sa fun x => dSlc3 x lo hi st fun r => Q r G4
def isI (sv : SV) (k : Int → Prop) : Prop := match sv with
  | .dat (.int i) => k i
  | _ => False
def dLRg1 (t : DE) : DE := fun G Q => t G fun sv G1 => isI sv fun j => (0 ≤ j ∧ j ≤ 16777216) ∧ Q (.new (.lst (rangeD 0 j.toNat))) G1
def dDnK : DE := fun G Q => Q (.new (.dK [])) G
def dDnT : DE := fun G Q => Q (.new (.dT [])) G
theorem de_dnK : PE X (.Dict [] [] pos) (can X.K dDnK) := by
  refine PE.imp pe_dnewK ?_
  rintro σ H Qv ⟨W, P, G, Q, R, t, k⟩
  intro a ha
  obtain ⟨R2, r2⟩ := R.alloc (o := .dK []) (d := .dK []) ha rfl
  exact k W _ G _ _ (.refl W) R2 r2 t
theorem de_dnT : PE X (.Dict [] [] pos) (can X.K dDnT) := by
  refine PE.imp pe_dnewT ?_
  rintro σ H Qv ⟨W, P, G, Q, R, t, k⟩
  intro a ha
  obtain ⟨R2, r2⟩ := R.alloc (o := .dT []) (d := .dT []) ha rfl
  exact k W _ G _ _ (.refl W) R2 r2 t
end
section
variable {X : Cx} {K : PySem.W.Frag} {W : Wd} {P : Hp} {G : Gm} {σ : St} {H : Hp} {e : Expr} {pos : Pos}
def putD {κ : Type} [DecidableEq κ] (es : List (κ × D)) (k : κ) (d : D) : List (κ × D) := if (es.any fun kv => decide (kv.1 = k)) = true then es.map (fun kv => if kv.1 = k then (kv.1, d) else kv) else es ++ [(k, d)]
theorem RpT.keys : ∀ {es : List (List Key × D)} {kvs : List (List Key × V)}, RpT K W es kvs → ∀ k, (kvs.any fun kv => decide (kv.1 = k)) = (es.any fun kv => decide (kv.1 = k))
  | [], _, h, k => by obtain rfl : _ = [] := h; rfl
  | (k', d) :: es, _, h, k => by
    obtain ⟨v, r, rfl, _, h2⟩ := h
    rw [List.any_cons, List.any_cons, RpT.keys h2 k]
theorem RpT.upd {k : List Key} {d : D} {v : V} (rv : Rp K W d v) : ∀ {es : List (List Key × D)} {kvs : List (List Key × V)}, RpT K W es kvs → RpT K W (es.map fun kv => if kv.1 = k then (kv.1, d) else kv) (kvs.map fun kv => if kv.1 = k then (kv.1, v) else kv)
  | [], _, h => by obtain rfl : _ = [] := h; rfl
  | (k', d') :: es, _, h => by
    obtain ⟨v', r, rfl, h1, h2⟩ := h
    rw [List.map_cons, List.map_cons]
    by_cases e : k' = k
    · rw [if_pos e, if_pos e]; exact ⟨v, _, rfl, rv, RpT.upd rv h2⟩
    · rw [if_neg e, if_neg e]; exact ⟨v', _, rfl, h1, RpT.upd rv h2⟩
theorem RpT.snoc {k : List Key} {d : D} {v : V} (rv : Rp K W d v) : ∀ {es : List (List Key × D)} {kvs : List (List Key × V)}, RpT K W es kvs → RpT K W (es ++ [(k, d)]) (kvs ++ [(k, v)])
  | [], _, h => by obtain rfl : _ = [] := h; exact ⟨v, [], rfl, rv, rfl⟩
  | (k', d') :: es, _, h => by obtain ⟨v', r, rfl, h1, h2⟩ := h; exact ⟨v', _, rfl, h1, RpT.snoc rv h2⟩
theorem RpT.len : ∀ {es : List (List Key × D)} {kvs : List (List Key × V)}, RpT K W es kvs → kvs.length = es.length
  | [], _, h => by obtain rfl : _ = [] := h; rfl
  | (k', d') :: es, _, h => by obtain ⟨v', r, rfl, h1, h2⟩ := h; rw [List.length_cons, List.length_cons, RpT.len h2]
theorem RpT.put {k : List Key} {d : D} {v : V} {es : List (List Key × D)} {kvs : List (List Key × V)} (h : RpT K W es kvs) (rv : Rp K W d v) : RpT K W (putD es k d) (putK kvs k v) := by
  unfold putD putK
  rw [h.keys k]
  split
  · exact RpT.upd rv h
  · exact RpT.snoc rv h
theorem RpK.keys : ∀ {es : List (Key × D)} {kvs : List (Key × V)}, RpK K W es kvs → ∀ k, (kvs.any fun kv => decide (kv.1 = k)) = (es.any fun kv => decide (kv.1 = k))
  | [], _, h, k => by obtain rfl : _ = [] := h; rfl
  | (k', d) :: es, _, h, k => by
    obtain ⟨v, r, rfl, _, h2⟩ := h
    rw [List.any_cons, List.any_cons, RpK.keys h2 k]
theorem RpK.upd {k : Key} {d : D} {v : V} (rv : Rp K W d v) : ∀ {es : List (Key × D)} {kvs : List (Key × V)}, RpK K W es kvs → RpK K W (es.map fun kv => if kv.1 = k then (kv.1, d) else kv) (kvs.map fun kv => if kv.1 = k then (kv.1, v) else kv)
  | [], _, h => by obtain rfl : _ = [] := h; rfl
  | (k', d') :: es, _, h => by
    obtain ⟨v', r, rfl, h1, h2⟩ := h
    rw [List.map_cons, List.map_cons]
    by_cases e : k' = k
    · rw [if_pos e, if_pos e]; exact ⟨v, _, rfl, rv, RpK.upd rv h2⟩
    · rw [if_neg e, if_neg e]; exact ⟨v', _, rfl, h1, RpK.upd rv h2⟩
theorem RpK.snoc {k : Key} {d : D} {v : V} (rv : Rp K W d v) : ∀ {es : List (Key × D)} {kvs : List (Key × V)}, RpK K W es kvs → RpK K W (es ++ [(k, d)]) (kvs ++ [(k, v)])
  | [], _, h => by obtain rfl : _ = [] := h; exact ⟨v, [], rfl, rv, rfl⟩
  | (k', d') :: es, _, h => by obtain ⟨v', r, rfl, h1, h2⟩ := h; exact ⟨v', _, rfl, h1, RpK.snoc rv h2⟩
theorem RpK.len : ∀ {es : List (Key × D)} {kvs : List (Key × V)}, RpK K W es kvs → kvs.length = es.length
  | [], _, h => by obtain rfl : _ = [] := h; rfl
  | (k', d') :: es, _, h => by obtain ⟨v', r, rfl, h1, h2⟩ := h; rw [List.length_cons, List.length_cons, RpK.len h2]
theorem RpK.put {k : Key} {d : D} {v : V} {es : List (Key × D)} {kvs : List (Key × V)} (h : RpK K W es kvs) (rv : Rp K W d v) : RpK K W (putD es k d) (putK kvs k v) := by
  unfold putD putK
  rw [h.keys k]
  split
  · exact RpK.upd rv h
  · exact RpK.snoc rv h
def putO (G : Gm) (i : Nat) (b dv : D) (k : D → Prop) : Prop := match gg G i with
  | some (.own (.dT es)) => (match b with | .tup ds => (match keysOf ds with | some ks => es.length < sizeLine ∧ k (.dT (putD es ks dv)) | none => False) | _ => False)
  | some (.own (.dK es)) => (match keyOf b with | some kk => es.length < sizeLine ∧ k (.dK (putD es kk dv)) | none => False)
  | _ => False
def isOwn (G : Gm) (i : Nat) : Prop := match gg G i with
  | some (.own _) => True
  | _ => False
theorem isOwn_of {i : Nat} (h : isOwn G i) : ∃ d, gg G i = some (.own d) := by
  unfold isOwn at h
  split at h
  · exact ⟨_, by assumption⟩
  · exact h.elim
def dPut (i : Nat) (tv tk : DE) : DS := fun E G => tv G fun sv G1 => frz G1 sv fun dv G2 => isOwn G2 i ∧ tk G2 fun sk G3 => frz G3 sk fun b G4 => putO G4 i b dv fun d' => E.nx (gset G4 i (some (.own d')))
theorem ds_put {x : Str} {px pt : Pos} {kx value : Expr} {tv tk : DE} (i : Nat) (hvl : PE X value (can X.K tv)) (hk : PE X kx (can X.K tk)) (hu : X.A.units + 65 < cLine) (hN : X.N[i]? = some x := by rfl)
    (hv : Vis X.env.scope x := by first | exact Or.inl rfl | exact Or.inr (Or.inl rfl) | exact Or.inr (Or.inr rfl)) (hd : (x == ("__debug__" : Str)) = false := by decide)
    (hcd : (x == ("__classdict__" : Str)) = false := by decide)
    (hs : swapsWith value (some (.Subscript (.Name x px) kx pt)) pos.line X.env = pure false := by rfl) :
    PS X (.Assign [.Subscript (.Name x px) kx pt] value pos) (canS X.K (dPut i tv tk)) := by
  refine PS.imp (ps_dput (Nat.lt_of_le_of_lt (by omega) hu) (pe_var hN hv hd hcd) hk hvl hs) ?_
  rintro D σ H ⟨W, P, G, E, R, t, kk⟩
  refine ⟨W, P, G, _, R, t, fun W1 sv G1 v H1 l1 R1 r1 q1 => ?_⟩
  obtain ⟨W2, dv, G2, l2, R2, r2, q2⟩ := R1.frz r1 q1
  obtain ⟨h0, q2⟩ := q2
  obtain ⟨d0, h0⟩ := isOwn_of h0
  obtain ⟨p, o, e1, pr, ro⟩ := R2.own i _ h0
  refine ⟨.ref p, e1, W2, P, G2, _, R2, q2, fun W3 sk G3 y H3 l3 R3 r3 q3 => ?_⟩
  obtain ⟨W4, b, G4, l4, R4, r4, q4⟩ := R3.frz r3 q3
  have rv := Rp.mono (l3.trans l4) _ _ r2
  unfold putO at q4
  split at q4
  · rename_i es e4
    obtain ⟨p', o', e2, pr', ro'⟩ := R4.own i _ e4
    rw [e1] at e2; cases e2
    cases o' <;> try exact False.elim ro'
    rename_i kvs
    cases b <;> try exact False.elim q4
    rename_i ds
    cases hk : keysOf ds with
    | none => simp only [hk] at q4
    | some ks =>
      simp only [hk] at q4
      obtain ⟨a, xs, ey, hx, rx⟩ := R4.rn r4
      have exs := keysOf_eq hk rx
      subst ey exs
      refine ⟨p, _, rfl, DPut.t pr'.at_ hx (by rw [RpT.len ro']; exact q4.1), ?_⟩
      exact kk.nx W4 _ σ _ (((l1.trans l2).trans l3).trans l4) (R4.reown (o' := .dT _) (d' := .dT _) e4 e1 pr' (RpT.put ro' rv)) q4.2
  · rename_i es e4
    obtain ⟨p', o', e2, pr', ro'⟩ := R4.own i _ e4
    rw [e1] at e2; cases e2
    cases o' <;> try exact False.elim ro'
    rename_i kvs
    cases hk : keyOf b with
    | none => simp only [hk] at q4
    | some k =>
      simp only [hk] at q4
      have hy : y = kV k := by
        cases b <;> first | (cases hk; done) | skip
        · obtain rfl : y = .int _ := r4; cases hk; rfl
        · obtain rfl : y = .str _ := r4; cases hk; rfl
      subst hy
      refine ⟨p, _, rfl, DPut.k pr'.at_ (by rw [RpK.len ro']; exact q4.1), ?_⟩
      exact kk.nx W4 _ σ _ (((l1.trans l2).trans l3).trans l4) (R4.reown (o' := .dK _) (d' := .dK _) e4 e1 pr' (RpK.put ro' rv)) q4.2
  · exact q4.elim
def keyT (b : D) (k : List Key → Prop) : Prop := match b with
  | .tup ds => (match keysOf ds with | some ks => k ks | none => False)
  | _ => False
def dDsp1 (tk tv : DE) : DE := fun G Q => tk G fun sk G1 => frz G1 sk fun b G2 => tv G2 fun sv G3 => frz G3 sv fun dv G4 => keyT b fun ks => Q (.new (.dT [(ks, dv)])) G4
end
def lawS (n : Nat) : DSp := fun m ds Q => m = 0 ∧ ∃ ns : List Int, ds = [.scr ns] ∧ ns.length ≤ n ∧ ∀ j, Q (.dat (.bl true)) j
noncomputable def scrH (K : PySem.W.Frag) (a : Addr) (o : Obj) (xs : List V) : Hp := open Classical in fun b => if b = a ∧ K.lookup a = none then some (.frz o (.lst xs)) else none
section
variable {K : PySem.W.Frag} {a b : Addr} {o : Obj} {xs : List V}
theorem scrH_some {u : HO} (h : scrH K a o xs b = some u) : b = a ∧ K.lookup a = none ∧ u = .frz o (.lst xs) := by
  unfold scrH at h
  split at h
  · rename_i q; cases h; exact ⟨q.1, q.2, rfl⟩
  · cases h
theorem scrH_at (h : K.lookup a = none) : scrH K a o xs a = some (.frz o (.lst xs)) := by
  unfold scrH
  rw [if_pos ⟨rfl, h⟩]
end
theorem end_call {P : Program} {w : World} {K : PySem.W.Frag} {mg mb : Str → Option Value} {k n : Nat} {fa a : Addr} {fd : FuncData} {x : Str} {t : Shared} {vs : List Value} {ns : List Int}
    (KX : K.In t.heap) (hns : t.heap.Ns mainGlobals mg) (hb : t.heap.Ns builtinsNs mb) (hbb : ∀ x : Str, x ≠ "__name__" → mb x = bootBuiltins x) (hlim : t.heap.NoLimit) (hg : t.gens = #[])
    (ha : t.heap.get? a = some { cls := .type "list", data := .seq vs.toArray }) (hi : IntsAre vs ns) (hl : ns.length ≤ sizeLine) (hln : ns.length ≤ n) (hr : Room k callerA)
    (F : ∀ base : Heap, K.In base → base.Ns mainGlobals mg → FnD P w K mg base k fa fd [x] (lawS n)) (hbind : ∀ (s : Shared) (u : Value), BindsTo s fd ⟨[u], []⟩ [(x, u)]) :
    codeAny (model P w) callerA (.call (.ref fa) ⟨[.ref a], []⟩) (fun r s' => r = .ok (.ret (.bool true)) ∧ OldK t.heap s'.heap ∧ s'.os = t.os ∧ AllBare s'.gens) t := by
  have rv := vals_ints hi
  have lenV := hi.length
  let ob : Obj := { cls := .type "list", data := .seq vs.toArray }
  let H : Hp := scrH K a ob (ns.map V.int)
  have hS : SqL K H a (ns.map V.int) := by
    cases hk : K.lookup a with
    | none => exact .inl (.inr ⟨ob, scrH_at hk⟩)
    | some o =>
      have e := KX a o hk
      rw [ha] at e
      cases e
      exact .inr ⟨_, vs.toArray, _, hk, rfl, rfl, rfl, by rw [List.size_toArray, lenV]; exact hl, by simpa using rv⟩
  have hok : HOk P w H t.heap := fun b u z => by
    obtain ⟨rfl, _, rfl⟩ := scrH_some z
    exact ⟨ha, by rw [List.length_map]; exact hl, vs, _, rv, ha⟩
  have stay : ∀ {b : Addr} {o : Obj}, t.heap.get? b = some o → H b = none → (hidT t.heap H).get? b = some o := hidT_get
  have dictN : ∀ {b : Addr} {o : Obj} {es : Array DictEntry} {ep : Nat}, t.heap.get? b = some o → o.data = .dict es ep → H b = none := fun {b o es ep} e d => by
    cases q : H b with
    | none => rfl
    | some u =>
      obtain ⟨rfl, _, _⟩ := scrH_some q
      rw [ha] at e; cases e
      exact absurd (show Data.seq vs.toArray _ = Data.dict es ep from d) (by intro z; cases z)
  have nsH : ∀ {b : Addr} {m : Str → Option Value}, t.heap.Ns b m → (hidT t.heap H).Ns b m := by
    rintro b m ⟨o, es, ep, e, d, r⟩
    exact ⟨o, es, ep, stay e (dictN e d), d, r⟩
  have kH : K.In (hidT t.heap H) := fun b o e => stay (KX b o e) (by
    cases q : H b with
    | none => rfl
    | some u =>
      obtain ⟨rfl, z, _⟩ := scrH_some q
      rw [z] at e; cases e)
  obtain ⟨mc, l1, l2⟩ := hlim
  have hM : Mod K mg (hidT t.heap H) := ⟨kH, nsH hns, ⟨mb, nsH hb, hbb⟩, mc, nsH l1, l2⟩
  have e0 : Env0 P w K mg (hidT t.heap H) callerA [] t H := { frames := rfl, mod := hM, bs := fun b o e => of_hidT e, bsz := Nat.le_of_eq (hidT_size _ _), funs := trivial, frf := fun b hb => absurd hb List.not_mem_nil, hok := hok, bare := .of_eq hg }
  have R : Rl K ⟨H, fun _ => False, fun _ => False⟩ (fun _ => none) ⟨[], 0⟩ [] H := ⟨rfl, fun _ _ e => e, fun _ h => h.elim, fun _ _ e => (by cases e), fun _ _ e => (by cases e), fun _ _ e => (by cases e), fun _ _ _ _ _ e _ => (by cases e), fun _ _ e => (by cases e), by first | trivial | exact (fun _ _ z => nomatch z)⟩
  have asked : dSp K (lawS n) [.ref a] H (fun v H' => v = .bl true ∧ ∀ b u, H b = some u → H' b = some u) E0 :=
    ⟨⟨H, fun _ => False, fun _ => False⟩, fun _ => none, 0, [.scr ns], fun sv _ => sv = .dat (.bl true), R, fun p o e f _ _ => absurd e (by rw [show H p = none from f]; intro z; cases z), ⟨.ref a, [], rfl, ⟨a, rfl, hS⟩, rfl⟩, ⟨rfl, ns, rfl, hln, fun _ => rfl⟩,
      fun W' sv m v H' l R' r q => by subst q; exact ⟨r, fun b u e => R'.le b u (l.f b u e)⟩⟩
  refine codeAny_mono ((F _ kH (nsH hns)).run callerA [] t H ⟨[.ref a], []⟩ [.ref a] [.ref a] _ rfl hr e0 (hbind t (.ref a)) (.cons rfl .nil) asked) fun r s' h => ?_
  match r, h with
  | .ok (.ret u), ⟨v, H', os, bare, un, hok', r', q, same⟩ =>
    subst q
    obtain rfl : u = Value.bool true := r'
    refine ⟨rfl, OldK.of_keep fun b o e => ?_, os, bare⟩
    cases q : H b with
    | none => exact un.keep b o e q List.not_mem_nil List.not_mem_nil
    | some u =>
      have z := same b u q
      obtain ⟨rfl, _, rfl⟩ := scrH_some q
      obtain ⟨e1, _⟩ := hok b _ q
      obtain ⟨e2, _⟩ := hok' b _ z
      rw [e] at e1; cases e1
      exact e2
theorem walk_d {l : PySem.W.OpenLaw} {n k : Nat} {q : Program} {loose : List Str} {XP : (Str → Option Value) → Heap → Prop} {YP : World → Heap → Prop} {d : DefRec} {K : Params → PySem.W.Frag} {x : Str}
    (hn : l.most = some n) (hn2 : n ≤ sizeLine) (hdf : d.params.defaults = []) (hr : Room k callerA) (hY : ∀ (w : World) (h : Heap), YP w h → (K w.params).In h)
    (F : ∀ (w : World) (mg : Str → Option Value) (fa : Addr) (h : Heap), (K w.params).In h → h.Ns mainGlobals mg → mg d.name = some (.ref fa) →
      ∃ fd : FuncData, (∀ (s : Shared) (u : Value), BindsTo s fd ⟨[u], []⟩ [(x, u)]) ∧ ∀ base : Heap, (K w.params).In base → base.Ns mainGlobals mg → FnD l.prog w (K w.params) mg base k fa fd [x] (lawS n)) :
    PySem.W.WalkO q loose XP YP l.row.toRowW d [] (fun f vs => PySem.call f vs) := by
  refine Att.attach_call hn hdf fun w s₀ t mg mb fa o pm cd doc a vs ns G Y ho hd hcd hmg hobj hints hlen hg => ?_
  have KX := hY w _ Y
  obtain ⟨fd, hb, hF⟩ := F w mg fa _ KX G.T.g hmg
  exact end_call KX G.T.g G.T.b G.T.builtins G.T.nolimit hg hobj hints (Nat.le_trans hlen hn2) hlen hr hF hb
def FunH (K : PySem.W.Frag) (mg : Str → Option Value) (x : Str) (st : Stmt) (dd : List D) : Prop := ∃ f fd, mg x = some (.ref f) ∧ FunT K x x st dd f fd
def Has (P : Program) (w : World) (K : PySem.W.Frag) (mg : Str → Option Value) (base : Heap) (k : Nat) (x : Str) (st : Stmt) (dd : List D) (ps : List Str) (S : DSp) : Prop :=
  ∃ f fd, mg x = some (.ref f) ∧ FunT K x x st dd f fd ∧ FnD P w K mg base k f fd ps S
theorem has_of {P : Program} {w : World} {K : PySem.W.Frag} {mg : Str → Option Value} {base : Heap} {k : Nat} {x : Str} {st : Stmt} {dd : List D} {N ps : List Str} {S : DSp} {t : DS}
    (F : FunH K mg x st dd) (C : FnScope N ps (defScope st))
    (der : ∀ (f : Addr) (cdv : Value) (A : Around) (outer : List Env) (s : Shared) (H : Hp), (A.deeper (envOfC x (defScope st) s.heap.objs.size f cdv)).guards = some [] → Room k (A.deeper (envOfC x (defScope st) s.heap.objs.size f cdv)) →
      PSs (cxOf CX0 P w K mg base N x (defScope st) f cdv A outer s H E0).nox (defBody st) (canS K t))
    (len : ∀ n ds Q, S n ds Q → ds.length = ps.length) (law : ∀ n ds Q, S n ds Q → t (defE Q) (startG n N ds)) : Has P w K mg base (k + 1) x st dd ps S := by
  obtain ⟨f, fd, m, F⟩ := F
  exact ⟨f, fd, m, F, fd_of F C (der f) len law⟩
section
variable {X : Cx} {j k n : Nat} {st : Stmt} {dd : List D} {ps ks : List Str} {S : DSp} {x : Str} {p pos : Pos} {e : Expr} {es : List Expr} {kws : List Keyword} {gD : List D → List D → List D}
abbrev HasX (X : Cx) (k : Nat) (x : Str) (st : Stmt) (dd : List D) (ps : List Str) (S : DSp) : Prop := Has X.prog X.w X.K X.mg X.base k x st dd ps S
theorem dh_call {t : DA} (h : HasX X j x st dd ps S) (gd : X.A.guards = some []) (hr : Room k X.A) (hb : ∀ f fd, FunT X.K x x st dd f fd → Bnd X.K fd ps n [] gD)
    (ha : PA X (e :: es) (canA X.K t)) (hj : j ≤ k := by decide) (hg : Gl X x := by rfl) (hdb : (x == ("__debug__" : Str)) = false := by decide) (he : starEach (e :: es) X.env = (false, eval e X.env) :: starEach es X.env := by rfl) (hpl : (backTo pos (starEach es X.env)).any (·.1) = false := by rfl) :
    PE X (.Call (.Name x p) (e :: es) [] pos) (can X.K (dCall n 0 S gD t dNil)) := by
  obtain ⟨f, fd, m, F, h⟩ := h
  exact de_call h gd (hr.mono hj) m F.kp (hb f fd F) ha hg hdb he hpl
theorem u65 {k : Nat} {A : Around} (r : Room k A) : A.units + 65 < cLine := by have := r.un; omega
end
def GlbI (mg : Str → Option Value) (x : Str) (n : Int) : Prop := ∃ t, mg x = some (.int n t)
section
variable {X : Cx} {x : Str} {pos : Pos} {n : Int}
theorem de_glI (h : GlbI X.mg x n) (hg : Gl X x := by rfl) (hd : (x == ("__debug__" : Str)) = false := by decide) : PE X (.Name x pos) (can X.K (dC (.int n))) := by
  obtain ⟨t, h⟩ := h
  exact de_glob (v := .int n) h ⟨t, rfl⟩ (fun _ _ => rfl) hg hd
def dgUnl (n : Nat) (t : DGs) : DG := fun sv G Q => frz G sv fun d G1 => match d with
  | .lst ds => ds.length = n ∧ t ds G1 Q
  | _ => False
end
theorem fund_mk {K : PySem.W.Frag} {x qual : Str} {st : Stmt} {dd : List D} {f : Addr} {oc dV kV doc pm cdv ct : Value} {od an : Option Addr} {osl : Array (Option Value)}
    (l : K.lookup f = some ⟨oc, od, .func (PySem.W.fnOf x qual (defArgs st) (defBody st) (defScope st) dV kV doc pm an cdv ct), osl⟩) (c : PySem.W.codeIn K cdv qual = true) (k : PySem.W.keepIn K (.ref f) = true)
    (d : He.dflB K dV (dd.map flV) = true) : FunT K x qual st dd f (PySem.W.fnOf x qual (defArgs st) (defBody st) (defScope st) dV kV doc pm an cdv ct) :=
  ⟨⟨oc, od, dV, kV, doc, pm, an, cdv, ct, osl, rfl, l, c, He.dflB_ok d, .inl rfl⟩, k⟩
def brS (_ : Nat) (b : Bool) (t u : DS) (E : DEnds) (G : Gm) : Prop := if b = true then t E G else u E G
def brE (_ : Nat) (b : Bool) (t u : DE) (G : Gm) (Q : SV → Gm → Prop) : Prop := if b = true then t G Q else u G Q
def brT (_ : Nat) (b : Bool) (u : DT) (G : Gm) (Q : Bool → Gm → Prop) : Prop := if b = true then u G Q else Q false G
def brO (_ : Nat) (b : Bool) (u : DT) (G : Gm) (Q : Bool → Gm → Prop) : Prop := if b = true then Q true G else u G Q
def brA (_ : Nat) (b : Bool) (u : DE) (G : Gm) (Q : SV → Gm → Prop) : Prop := if b = true then u G Q else Q (.dat (.bl false)) G
def brR (_ : Nat) (b : Bool) (u : DE) (G : Gm) (Q : SV → Gm → Prop) : Prop := if b = true then Q (.dat (.bl true)) G else u G Q
section
variable {n0 : Nat} {E : DEnds} {G G0 : Gm} {Q : SV → Gm → Prop} {q : SV → Prop} {t u : DS} {c d : DT} {a b e : DE} {as bs : DA} {g : DG} {gs : DGs} {i j k n m : Nat} {x y z : Int} {p r : Bool} {sv : SV} {L : List (Option SC)} {o : Option SC}
theorem x_seq : dSeq t u E G = t { E with nx := u E } G := rfl
theorem x_next : dNext E G = E.nx G := rfl
theorem x_brk : dBrk E G = E.bk G := rfl
theorem x_cnt : dCnt E G = E.ct G := rfl
theorem x_drop : dDrop e E G = e G fun _ G1 => E.nx G1 := rfl
theorem x_ret : dRet e E G = e G fun sv G1 => rtS G1 sv fun s => E.rt s G1.c := rfl
theorem x_retN : dRetN E G = E.rt (.dat .non) G.c := rfl
theorem x_never : dNever E G = False := rfl
theorem x_rtd {d : D} {k : SV → Prop} : rtS G (.dat d) k = k (.dat d) := rfl
theorem x_rtn {d : D} {k : SV → Prop} : rtS G (.new d) k = k (.new d) := rfl
theorem x_ifs : dIfS c t u E G = c G fun b G1 => brS (0 + 0) b t u E G1 := rfl
theorem x_brs1 : brS n0 true t u E G = t E G := by unfold brS; rw [if_pos rfl]
theorem x_brs0 : brS n0 false t u E G = u E G := by unfold brS; rw [if_neg Bool.false_ne_true]
theorem x_asg : dAsg e g E G = e G fun sv G1 => g sv G1 E.nx := rfl
theorem x_rsd {d : D} {k : SC → Gm → Prop} : rest1 G (.dat d) k = k (.dat d) G := rfl
theorem x_rsn {d : D} {k : SC → Gm → Prop} : rest1 G (.new d) k = k (.own d) G := rfl
theorem x_tgt {ds : List D} {Qn : Gm → Prop} : dgTup n gs (.dat (.tup ds)) G Qn = (ds.length = n ∧ gs ds G Qn) := rfl
theorem x_unl {Qn : Gm → Prop} : dgUnl n gs sv G Qn = frz G sv fun d G1 => match d with
  | .lst ds => ds.length = n ∧ gs ds G1 Qn
  | _ => False := rfl
theorem x_gnil {Qn : Gm → Prop} : dgNil [] G Qn = Qn G := by unfold dgNil; simp
theorem x_gcons {d : D} {ds : List D} {Qn : Gm → Prop} : dgCons g gs (d :: ds) G Qn = g (.dat d) G fun G1 => gs ds G1 Qn := rfl
def parK (i j : Nat) (Qn : Gm → Prop) (ds : List D) (G1 : Gm) : Prop := match ds with
  | a :: b :: r => r = [] ∧ Qn (gset (gset G1 i (some (.dat a))) j (some (.dat b)))
  | _ => False
theorem x_par : dPar i j as E G = as G (parK i j E.nx) := rfl
theorem x_park {a b : D} {Qn : Gm → Prop} : parK i j Qn [a, b] G = dgName i (.dat a) G fun G1 => dgName j (.dat b) G1 Qn := by show ([] = [] ∧ _) = _; simp [dgName, rest1]
theorem x_for {it : DI} : dFor it g t E G = it G fun ds G1 => forL g t E ds G1 := rfl
theorem x_c {d : D} : dC d G Q = Q (.dat d) G := rfl
theorem x_bin {dr : D2} : dBin dr a b G Q = a G fun sa G1 => b G1 fun sb G2 => see G2 sa fun x => see G2 sb fun y => dr x y fun r => Q r G2 := rfl
theorem x_un {dr : D1} : dUn dr a G Q = a G fun sa G1 => see G1 sa fun x => dr x fun r => Q r G1 := rfl
theorem x_bn {f : List D → (SV → Prop) → Prop} : dBn f as G Q = as G fun ds G1 => f ds fun r => Q r G1 := rfl
theorem x_seed {d : D} {f : D → Prop} : see G (.dat d) f = f d := rfl
theorem x_seen {d : D} {f : D → Prop} : see G (.new d) f = f d := rfl
theorem x_frd {d : D} {f : D → Gm → Prop} : frz G (.dat d) f = f d G := rfl
theorem x_frn {d : D} {f : D → Gm → Prop} : frz G (.new d) f = f d G := rfl
theorem x_tst {Qb : Bool → Gm → Prop} : dTst e G Qb = e G fun sa G1 => isB sa fun b => Qb b G1 := rfl
theorem x_isb {f : Bool → Prop} : isB (.dat (.bl p)) f = f p := rfl
theorem x_nott {Qb : Bool → Gm → Prop} : dNotT c G Qb = c G fun b G1 => Qb (!b) G1 := rfl
theorem x_andt {Qb : Bool → Gm → Prop} : dAndT c d G Qb = c G fun b G1 => brT (0 + 0) b d G1 Qb := rfl
theorem x_ort {Qb : Bool → Gm → Prop} : dOrT c d G Qb = c G fun b G1 => brO (0 + 0) b d G1 Qb := rfl
theorem x_brt1 {Qb : Bool → Gm → Prop} : brT n0 true d G Qb = d G Qb := by unfold brT; rw [if_pos rfl]
theorem x_brt0 {Qb : Bool → Gm → Prop} : brT n0 false d G Qb = Qb false G := by unfold brT; rw [if_neg Bool.false_ne_true]
theorem x_bro1 {Qb : Bool → Gm → Prop} : brO n0 true d G Qb = Qb true G := by unfold brO; rw [if_pos rfl]
theorem x_bro0 {Qb : Bool → Gm → Prop} : brO n0 false d G Qb = d G Qb := by unfold brO; rw [if_neg Bool.false_ne_true]
theorem x_andv : dAndV a b G Q = a G fun s G1 => isB s fun p => brA (0 + 0) p b G1 Q := rfl
theorem x_orv : dOrV a b G Q = a G fun s G1 => isB s fun p => brR (0 + 0) p b G1 Q := rfl
theorem x_bra1 : brA n0 true e G Q = e G Q := by unfold brA; rw [if_pos rfl]
theorem x_bra0 : brA n0 false e G Q = Q (.dat (.bl false)) G := by unfold brA; rw [if_neg Bool.false_ne_true]
theorem x_brr1 : brR n0 true e G Q = Q (.dat (.bl true)) G := by unfold brR; rw [if_pos rfl]
theorem x_brr0 : brR n0 false e G Q = e G Q := by unfold brR; rw [if_neg Bool.false_ne_true]
theorem x_notv : dNotV e G Q = e G fun s G1 => isB s fun b => Q (.dat (.bl (!b))) G1 := rfl
theorem x_if : dIf c a b G Q = c G fun p G1 => brE (0 + 0) p a b G1 Q := rfl
theorem x_bre1 : brE n0 true a b G Q = a G Q := by unfold brE; rw [if_pos rfl]
theorem x_bre0 : brE n0 false a b G Q = b G Q := by unfold brE; rw [if_neg Bool.false_ne_true]
theorem x_chn {dr ds : D2} : dChn dr ds a b e G Q = a G fun sa G1 => b G1 fun sb G2 => see G2 sa fun x => see G2 sb fun y => flatD y = true ∧ dr x y fun r => isB r fun p => brA (0 + 0) p (fun G3 Q' => e G3 fun sc G4 => see G4 sc fun z => ds y z fun r => Q' r G4) G2 Q := rfl
theorem x_nil {Qa : List D → Gm → Prop} : dNil G Qa = Qa [] G := rfl
theorem x_cons {Qa : List D → Gm → Prop} : dCons e as G Qa = e G fun s G1 => frz G1 s fun d G2 => as G2 fun ds G3 => Qa (d :: ds) G3 := rfl
theorem x_tup : dTup as G Q = as G fun ds G1 => ds.length ≤ sizeLine ∧ Q (.dat (.tup ds)) G1 := rfl
theorem x_lst : dLst as G Q = as G fun ds G1 => ds.length ≤ sizeLine ∧ Q (.new (.lst ds)) G1 := rfl
def callK (Q : SV → Gm → Prop) (G : Gm) (r : SV) (j : Ct) : Prop := Q r (G.at j)
theorem x_ck {k j : Ct} : callK Q ⟨L, k⟩ sv j = Q sv ⟨L, j⟩ := rfl
theorem x_call {S : DSp} {gD : List D → List D → List D} : dCall n m S gD as bs G Q = as G fun ds G1 => bs G1 fun es G2 => ds.length = n ∧ es.length = m ∧ S G2.c (gD ds es) (callK Q G2) := rfl
theorem x_wlk {Qa : List D → Gm → Prop} : dWalk e G Qa = e G fun sv G1 => frz G1 sv fun d G2 => asL d fun ds => Qa ds G2 := rfl
theorem x_asll {ds : List D} {f : List D → Prop} : asL (.lst ds) f = f ds := rfl
theorem x_aslt {ds : List D} {f : List D → Prop} : asL (.tup ds) f = f ds := rfl
theorem x_sle {lo hi : DO} : dSl a lo hi G Q = a G fun sa G1 => lo G1 fun lo G2 => hi G2 fun hi G3 => see G3 sa fun x => dSlc x lo hi fun r => Q r G3 := rfl
theorem x_nop {Qo : Option Int → Gm → Prop} : dNoP G Qo = Qo none G := rfl
theorem x_prt {Qo : Option Int → Gm → Prop} : dPart e G Qo = e G fun s G1 => see G1 s fun d => match d with | .int i => Qo (some i) G1 | _ => False := rfl
theorem x_lc {vs : List Nat} {it : DI} : dLc vs it g c e G Q = it G fun ds G1 => ds.length ≤ sizeLine ∧ lcL vs g c e (fun acc G2 => Q (.new (.lst acc)) (backG vs G1 G2)) ds [] (wipeG vs G1) := rfl
theorem x_gg {k : Ct} : gg ⟨L, k⟩ i = ggl L i := rfl
theorem x_gl0 {r : List (Option SC)} : ggl (o :: r) 0 = o := rfl
theorem x_gls {r : List (Option SC)} : ggl (o :: r) (i + 1) = ggl r i := rfl
theorem x_gs {k : Ct} : gset ⟨L, k⟩ i o = ⟨gsl L i o, k⟩ := rfl
theorem x_gs0 {w : Option SC} {r : List (Option SC)} : gsl (w :: r) 0 o = o :: r := rfl
theorem x_gss {w : Option SC} {r : List (Option SC)} : gsl (w :: r) (i + 1) o = w :: gsl r i o := rfl
theorem x_at {k j : Ct} : Gm.at ⟨L, k⟩ j = ⟨L, j⟩ := rfl
theorem x_w0 : wipeG [] G = G := rfl
theorem x_ws {vs : List Nat} : wipeG (i :: vs) G = gset (wipeG vs G) i none := rfl
theorem x_b0 : backG [] G0 G = G := rfl
theorem x_bs {vs : List Nat} : backG (i :: vs) G0 G = gset (backG vs G0 G) i (datO (gg G0 i)) := rfl
theorem x_do1 {d : D} : datO (some (.dat d)) = some (.dat d) := rfl
theorem x_do2 {d : D} : datO (some (.own d)) = none := rfl
theorem x_do3 : datO none = none := rfl
theorem x_add : dAdd (.int x) (.int y) q = q (.dat (.int (x + y))) := rfl
theorem x_addb : dAdd (.int x) (.bl p) q = q (.dat (.int (x + b2i p))) := rfl
theorem x_sub : dSub (.int x) (.int y) q = q (.dat (.int (x - y))) := rfl
theorem x_mul : dMul (.int x) (.int y) q = (CMulW x y ∧ q (.dat (.int (x * y)))) := rfl
theorem x_fdv : dFdv (.int x) (.int y) q = (y ≠ 0 ∧ y.natAbs.log2 < 9000 ∧ q (.dat (.int (x.fdiv y)))) := rfl
theorem x_mod : dMod (.int x) (.int y) q = (y ≠ 0 ∧ q (.dat (.int (x.fmod y)))) := rfl
theorem x_pow : dPow (.int x) (.int y) q = (0 ≤ y ∧ (Builtin.Int.intBits x : Int) * y ≤ 2 ^ 27 ∧ q (.dat (.int (x ^ y.toNat)))) := rfl
theorem x_neg : dNeg (.int x) q = q (.dat (.int (-x))) := rfl
theorem x_cmp {f : Int → Int → Bool} : dCmp f (.int x) (.int y) q = q (.dat (.bl (f x y))) := rfl
theorem x_iadd : dIAdd (.int x) (.int y) q = q (.dat (.int (x + y))) := rfl
theorem x_int : dInt (.int x) q = q (.dat (.int x)) := rfl
theorem x_intb : dInt (.bl p) q = q (.dat (.int (if p then 1 else 0))) := rfl
theorem x_lenl {ds : List D} : dLen (.lst ds) q = q (.dat (.int ds.length)) := rfl
theorem x_lent {ds : List D} : dLen (.tup ds) q = q (.dat (.int ds.length)) := rfl
theorem x_max : dMax2 [.int x, .int y] q = q (.dat (.int (if y > x then y else x))) := by show (([] : List D) = [] ∧ _) = _; simp
theorem x_min : dMin2 [.int x, .int y] q = q (.dat (.int (if y < x then y else x))) := by show (([] : List D) = [] ∧ _) = _; simp
theorem x_ixt {ds : List D} : dIx (.tup ds) (.int x) q = atQ (atI ds x) q := rfl
theorem x_ixl {ds : List D} : dIx (.lst ds) (.int x) q = atQ (atI ds x) q := rfl
theorem x_atq {d : D} : atQ (some d) q = q (.dat d) := rfl
theorem x_eq {d e : D} : dEq d e q = eqQ d e fun c => q (.dat (.bl c)) := rfl
theorem x_ne {d e : D} : dNe d e q = eqQ d e fun c => q (.dat (.bl (!c))) := rfl
theorem x_eqi {f : Bool → Prop} : eqQ (.int x) (.int y) f = f (decide (x = y)) := by
  show (Pl 20 (.int x) ∧ Pl 20 (.int y) ∧ f (eqD (.int x) (.int y))) = _
  have : eqD (.int x) (.int y) = decide (x = y) := by unfold eqD toPy PyData.eqv; rw [Bool.eq_iff_iff]; simp
  rw [this]; simp [Pl]
theorem x_eqs {s1 s2 : Str} {f : Bool → Prop} : eqQ (.str s1) (.str s2) f = f (decide (s1 = s2)) := rfl
theorem x_eqD {f : Bool → Prop} {d e : D} (h : strsD d e = none) (h1 : Pl 20 d) (h2 : Pl 20 e) : eqQ d e f = f (eqD d e) := by
  unfold eqQ; rw [h]; simp [h1, h2]
theorem x_isn {d : D} : dIs d .non q = q (.dat (.bl (isNon d))) := rfl
theorem x_isbb {x y : Bool} : dIs (.bl x) (.bl y) q = q (.dat (.bl (decide (x = y)))) := rfl
theorem x_isnbb {x y : Bool} : dIsn (.bl x) (.bl y) q = q (.dat (.bl (!decide (x = y)))) := rfl
theorem x_isnn {d : D} : dIsn d .non q = q (.dat (.bl (!isNon d))) := rfl
end
theorem x_isii {U : String} {x : Int} {q : SV → Prop} (h : U ∈ kits := by decide) : dIsi [.int x, .ty U] q = q (.dat (.bl (isT "int" U))) := by show (([] : List D) = [] ∧ U ∈ kits ∧ _) = _; simp [h, clsD]
theorem x_isib {U : String} {x : Bool} {q : SV → Prop} (h : U ∈ kits := by decide) : dIsi [.bl x, .ty U] q = q (.dat (.bl (isT "bool" U))) := by show (([] : List D) = [] ∧ U ∈ kits ∧ _) = _; simp [h, clsD]
theorem x_isin {U : String} {q : SV → Prop} (h : U ∈ kits := by decide) : dIsi [.non, .ty U] q = q (.dat (.bl (isT "NoneType" U))) := by show (([] : List D) = [] ∧ U ∈ kits ∧ _) = _; simp [h, clsD]
theorem x_isis {U : String} {x : Str} {q : SV → Prop} (h : U ∈ kits := by decide) : dIsi [.str x, .ty U] q = q (.dat (.bl (isT "str" U))) := by show (([] : List D) = [] ∧ U ∈ kits ∧ _) = _; simp [h, clsD]
theorem x_isit {U : String} {x : List D} {q : SV → Prop} (h : U ∈ kits := by decide) : dIsi [.tup x, .ty U] q = q (.dat (.bl (isT "tuple" U))) := by show (([] : List D) = [] ∧ U ∈ kits ∧ _) = _; simp [h, clsD]
theorem x_isil {U : String} {x : List D} {q : SV → Prop} (h : U ∈ kits := by decide) : dIsi [.lst x, .ty U] q = q (.dat (.bl (isT "list" U))) := by show (([] : List D) = [] ∧ U ∈ kits ∧ _) = _; simp [h, clsD]
theorem k_int : ("int" : String) ∈ kits := by decide
theorem k_bool : ("bool" : String) ∈ kits := by decide
theorem k_tuple : ("tuple" : String) ∈ kits := by decide
theorem k_list : ("list" : String) ∈ kits := by decide
theorem k_str : ("str" : String) ∈ kits := by decide
theorem T_ii : isT "int" "int" = true := by decide
theorem T_ib : isT "int" "bool" = false := by decide
theorem T_it : isT "int" "tuple" = false := by decide
theorem T_il : isT "int" "list" = false := by decide
theorem T_bi : isT "bool" "int" = true := by decide
theorem T_bb : isT "bool" "bool" = true := by decide
theorem T_tt : isT "tuple" "tuple" = true := by decide
theorem T_ti : isT "tuple" "int" = false := by decide
theorem T_tl : isT "tuple" "list" = false := by decide
theorem T_ll : isT "list" "list" = true := by decide
theorem T_lt : isT "list" "tuple" = false := by decide
theorem T_li : isT "list" "int" = false := by decide
theorem T_ss : isT "str" "str" = true := by decide
theorem T_si : isT "str" "int" = false := by decide
theorem T_st : isT "str" "tuple" = false := by decide
theorem T_ni : isT "NoneType" "int" = false := by decide
theorem T_nt : isT "NoneType" "tuple" = false := by decide
theorem N_n : isNon .non = true := rfl
theorem N_i {x : Int} : isNon (.int x) = false := rfl
theorem N_b {x : Bool} : isNon (.bl x) = false := rfl
theorem N_t {x : List D} : isNon (.tup x) = false := rfl
theorem F_i {x : Int} : flatD (.int x) = true := rfl
theorem x_dert {Q : SV → Ct → Prop} {r : SV} {n : Ct} : (defE Q).rt r n = Q r n := rfl
theorem x_denx {Q : SV → Ct → Prop} {G : Gm} : (defE Q).nx G = Q (.dat .non) G.c := rfl
section
variable {n0 : Nat} {vs : List Nat} {g : DG} {c : DT} {e : DE} {Qe : List D → Gm → Prop} {d : D} {r acc : List D} {G : Gm}
def brL (_ : Nat) (b : Bool) (vs : List Nat) (g : DG) (c : DT) (e : DE) (Qe : List D → Gm → Prop) (r acc : List D) (G : Gm) : Prop :=
  if b = true then e G fun sv G3 => frz G3 sv fun y G4 => lcL vs g c e Qe r (acc ++ [y]) (wipeG vs G4) else lcL vs g c e Qe r acc (wipeG vs G)
theorem x_brl1 : brL n0 true vs g c e Qe r acc G = e G fun sv G3 => frz G3 sv fun y G4 => lcL vs g c e Qe r (acc ++ [y]) (wipeG vs G4) := by unfold brL; rw [if_pos rfl]
theorem x_brl0 : brL n0 false vs g c e Qe r acc G = lcL vs g c e Qe r acc (wipeG vs G) := by unfold brL; rw [if_neg Bool.false_ne_true]
theorem x_lcn : lcL vs g c e Qe [] acc G = Qe acc G := rfl
theorem x_lcc : lcL vs g c e Qe (d :: r) acc G = g (.dat d) G fun G1 => c G1 fun b G2 => brL (0 + 0) b vs g c e Qe r acc G2 := rfl
theorem x_yes {Qb : Bool → Gm → Prop} : dYes G Qb = Qb true G := rfl
def brK (_ : Nat) (b : Bool) (vs : List Nat) (e : DE) (k : D → Gm → Prop) (k' : Gm → Prop) (G : Gm) : Prop := if b = true then e G fun sv G3 => frz G3 sv fun y G4 => k y (wipeG vs G4) else k' (wipeG vs G)
theorem x_brk1 {k : D → Gm → Prop} {k' : Gm → Prop} : brK n0 true vs e k k' G = e G fun sv G3 => frz G3 sv fun y G4 => k y (wipeG vs G4) := by unfold brK; rw [if_pos rfl]
theorem x_brk0 {k : D → Gm → Prop} {k' : Gm → Prop} : brK n0 false vs e k k' G = k' (wipeG vs G) := by unfold brK; rw [if_neg Bool.false_ne_true]
def lcT (vs : List Nat) (g : DG) (c : DT) (e : DE) (d : D) (G : Gm) (k : D → Gm → Prop) (k' : Gm → Prop) : Prop := g (.dat d) G fun G1 => c G1 fun b G2 => brK (0 + 0) b vs e k k' G2
theorem x_lct {k : D → Gm → Prop} {k' : Gm → Prop} : lcT vs g c e d G k k' = g (.dat d) G fun G1 => c G1 fun b G2 => brK (0 + 0) b vs e k k' G2 := rfl
theorem lc_map {f : D → Option D} : ∀ {ds acc : List D}, (∀ d ∈ ds, ∀ (k : D → Gm → Prop) (k' : Gm → Prop), (match f d with | some y => k y G | none => k' G) → lcT vs g c e d G k k') → Qe (acc ++ ds.filterMap f) G → lcL vs g c e Qe ds acc G
  | [], acc, _, q => by rw [List.filterMap_nil, List.append_nil] at q; exact q
  | d :: r, acc, st, q => by
    refine st d List.mem_cons_self (fun y G' => lcL vs g c e Qe r (acc ++ [y]) G') (fun G' => lcL vs g c e Qe r acc G') ?_
    have tl : ∀ x ∈ r, ∀ (k : D → Gm → Prop) (k' : Gm → Prop), (match f x with | some y => k y G | none => k' G) → lcT vs g c e x G k k' := fun x hx => st x (List.mem_cons_of_mem _ hx)
    cases h : f d with
    | none => exact lc_map tl (by rw [List.filterMap_cons, h] at q; exact q)
    | some y => exact lc_map tl (by rw [List.filterMap_cons, h] at q; rw [List.append_assoc]; exact q)
theorem x_fon {g : DG} {t : DS} {E : DEnds} : forL g t E [] G = E.nx G := rfl
theorem for_inv {g : DG} {t : DS} {E : DEnds} (I : List D → Gm → Prop) (fin : ∀ G, I [] G → E.nx G) :
    ∀ (ds : List D) (_ : ∀ (d : D) (r : List D) (G : Gm) (N : Gm → Prop), (d :: r) <:+ ds → I (d :: r) G → (∀ G', I r G' → N G') → g (.dat d) G fun G1 => t { E with nx := N, ct := N, bk := E.nx } G1) (G : Gm), I ds G → forL g t E ds G
  | [], _, G, h => fin G h
  | d :: r, st, G, h => st d r G (forL g t E r) (List.suffix_refl _) h fun G' h' => for_inv I fin r (fun x s G N hs => st x s G N (List.IsSuffix.trans hs (List.suffix_cons _ _))) G' h'
end
theorem log2_lt {n : Nat} {k : Nat} (h : n < 2 ^ k) (hk : 0 < k) : n.log2 < k := by
  by_cases z : n = 0
  · subst z; simpa using hk
  · exact (Nat.log2_lt z).mpr h
theorem cm {x y : Int} (h1 : x.natAbs < 10 ^ 300) (h2 : y.natAbs < 10 ^ 300) : CMulW x y := by
  have a := log2_lt (n := x.natAbs) (k := 1000) (Nat.lt_of_lt_of_le h1 (by decide +kernel)) (by decide)
  have b := log2_lt (n := y.natAbs) (k := 1000) (Nat.lt_of_lt_of_le h2 (by decide +kernel)) (by decide)
  unfold CMulW; omega
theorem lg {x : Int} (h1 : x.natAbs < 10 ^ 300) : x.natAbs.log2 < 9000 :=
  Nat.lt_trans (log2_lt (k := 1000) (Nat.lt_of_lt_of_le h1 (by decide +kernel)) (by decide)) (by decide)
theorem szn {n : Nat} (h : n ≤ 1000) : n ≤ sizeLine := Nat.le_trans h (by decide)
theorem szt {n : Nat} (h : n ≤ 1000) : (n ≤ sizeLine) = True := eq_true (szn h)
section
variable {α : Type} {a b c d : α} {r : List α}
theorem A_0 : atI (a :: r) 0 = some a := atI_nat (j := 0) rfl
theorem A_1 : atI (a :: b :: r) 1 = some b := atI_nat (j := 1) rfl
theorem A_2 : atI (a :: b :: c :: r) 2 = some c := atI_nat (j := 2) rfl
theorem A_3 : atI (a :: b :: c :: d :: r) 3 = some d := atI_nat (j := 3) rfl
end
theorem e_ii {x y : Int} : eqD (.int x) (.int y) = decide (x = y) := by unfold eqD toPy PyData.eqv; rw [Bool.eq_iff_iff]; simp
theorem e_bb {x y : Bool} : eqD (.bl x) (.bl y) = decide (x = y) := by unfold eqD toPy PyData.eqv; rw [Bool.eq_iff_iff]; cases x <;> cases y <;> simp
def eqDs (as bs : List D) : Bool := PyData.eqvAll (toPys as) (toPys bs)
theorem e_tt {as bs : List D} : eqD (.tup as) (.tup bs) = eqDs as bs := by unfold eqD eqDs; rw [toPy, toPy, PyData.eqv]
theorem e_nn : eqDs [] [] = true := by unfold eqDs; rw [toPys, PyData.eqvAll]
theorem e_cc {a b : D} {as bs : List D} : eqDs (a :: as) (b :: bs) = (eqD a b && eqDs as bs) := by unfold eqDs eqD; rw [toPys, toPys, PyData.eqvAll]
theorem p_i {n : Nat} {x : Int} : Pl n (.int x) := by cases n <;> trivial
theorem p_t {n : Nat} {ds : List D} (h : ∀ d ∈ ds, Pl n d) : Pl (n + 1) (.tup ds) := h
theorem q_tt {as bs : List D} {f : Bool → Prop} (h1 : Pl 20 (.tup as)) (h2 : Pl 20 (.tup bs)) : eqQ (.tup as) (.tup bs) f = f (eqDs as bs) := by
  rw [x_eqD (d := .tup as) (e := .tup bs) rfl h1 h2, e_tt]
theorem q_pp {a b c d : Int} {f : Bool → Prop} : eqQ (.tup [.int a, .int b]) (.tup [.int c, .int d]) f = f (decide (a = c) && decide (b = d)) := by
  rw [q_tt (p_t (n := 19) (by intro d hd; simp at hd; rcases hd with rfl | rfl <;> exact p_i)) (p_t (n := 19) (by intro d hd; simp at hd; rcases hd with rfl | rfl <;> exact p_i)), e_cc, e_cc, e_nn, e_ii, e_ii, Bool.and_true]
theorem b_all {bs : List D} {ns : List Bool} {q : SV → Prop} (h : bs = ns.map D.bl) : dAll (.lst bs) q = q (.dat (.bl (ns.all fun b => b))) := by
  subst h
  have : blsOf (ns.map D.bl) = some ns := by
    induction ns with
    | nil => rfl
    | cons n ns ih => show (match blsOf (ns.map D.bl) with | some ns => some (n :: ns) | none => none) = _; rw [ih]
  show (match blsOf (ns.map D.bl) with | some ns => _ | none => False) = _
  rw [this]
theorem b_all2 {x y : Bool} {q : SV → Prop} : dAll (.lst [.bl x, .bl y]) q = q (.dat (.bl (x && y))) := (b_all (bs := [.bl x, .bl y]) (ns := [x, y]) rfl).trans (by simp)
theorem b_all3 {x y z : Bool} {q : SV → Prop} : dAll (.lst [.bl x, .bl y, .bl z]) q = q (.dat (.bl (x && (y && z)))) := (b_all (bs := [.bl x, .bl y, .bl z]) (ns := [x, y, z]) rfl).trans (by simp)
section
variable {a b c d e : D} {q : SV → Prop}
theorem L_t1 : dLen (.tup [a]) q = q (.dat (.int 1)) := rfl
theorem L_t2 : dLen (.tup [a, b]) q = q (.dat (.int 2)) := rfl
theorem L_t3 : dLen (.tup [a, b, c]) q = q (.dat (.int 3)) := rfl
theorem L_l0 : dLen (.lst []) q = q (.dat (.int 0)) := rfl
theorem L_l1 : dLen (.lst [a]) q = q (.dat (.int 1)) := rfl
theorem L_l2 : dLen (.lst [a, b]) q = q (.dat (.int 2)) := rfl
theorem L_l3 : dLen (.lst [a, b, c]) q = q (.dat (.int 3)) := rfl
end
theorem v0 {c : Ct} {r : List (Option SC)} {d : D} {Q : SV → Gm → Prop} : dVar 0 ⟨some (.dat d) :: r, c⟩ Q = Q (.dat d) ⟨some (.dat d) :: r, c⟩ := rfl
theorem w0 {c : Ct} {r : List (Option SC)} {d : D} {Q : SV → Gm → Prop} : dVar 0 ⟨some (.own d) :: r, c⟩ Q = Q (.bor 0) ⟨some (.own d) :: r, c⟩ := rfl
theorem n0 {c : Ct} {r : List (Option SC)} {d : D} {o : Option SC} {Q : Gm → Prop} : dgName 0 (.dat d) ⟨o :: r, c⟩ Q = Q ⟨some (.dat d) :: r, c⟩ := rfl
theorem m0 {c : Ct} {r : List (Option SC)} {d : D} {o : Option SC} {Q : Gm → Prop} : dgName 0 (.new d) ⟨o :: r, c⟩ Q = Q ⟨some (.own d) :: r, c⟩ := rfl
theorem sb0 {c : Ct} {r : List (Option SC)} {d : D} {f : D → Prop} : see ⟨some (.own d) :: r, c⟩ (.bor 0) f = f d := rfl
theorem fb0 {c : Ct} {r : List (Option SC)} {d : D} {f : D → Gm → Prop} : frz ⟨some (.own d) :: r, c⟩ (.bor 0) f = f d ⟨some (.dat d) :: r, c⟩ := rfl
theorem rb0 {c : Ct} {r : List (Option SC)} {d : D} {f : SV → Prop} : rtS ⟨some (.own d) :: r, c⟩ (.bor 0) f = f (.new d) := rfl
theorem v1 {c : Ct} {r : List (Option SC)} {d : D} {o0 : Option SC} {Q : SV → Gm → Prop} : dVar 1 ⟨o0 :: some (.dat d) :: r, c⟩ Q = Q (.dat d) ⟨o0 :: some (.dat d) :: r, c⟩ := rfl
theorem w1 {c : Ct} {r : List (Option SC)} {d : D} {o0 : Option SC} {Q : SV → Gm → Prop} : dVar 1 ⟨o0 :: some (.own d) :: r, c⟩ Q = Q (.bor 1) ⟨o0 :: some (.own d) :: r, c⟩ := rfl
theorem n1 {c : Ct} {r : List (Option SC)} {d : D} {o : Option SC} {o0 : Option SC} {Q : Gm → Prop} : dgName 1 (.dat d) ⟨o0 :: o :: r, c⟩ Q = Q ⟨o0 :: some (.dat d) :: r, c⟩ := rfl
theorem m1 {c : Ct} {r : List (Option SC)} {d : D} {o : Option SC} {o0 : Option SC} {Q : Gm → Prop} : dgName 1 (.new d) ⟨o0 :: o :: r, c⟩ Q = Q ⟨o0 :: some (.own d) :: r, c⟩ := rfl
theorem sb1 {c : Ct} {r : List (Option SC)} {d : D} {o0 : Option SC} {f : D → Prop} : see ⟨o0 :: some (.own d) :: r, c⟩ (.bor 1) f = f d := rfl
theorem fb1 {c : Ct} {r : List (Option SC)} {d : D} {o0 : Option SC} {f : D → Gm → Prop} : frz ⟨o0 :: some (.own d) :: r, c⟩ (.bor 1) f = f d ⟨o0 :: some (.dat d) :: r, c⟩ := rfl
theorem rb1 {c : Ct} {r : List (Option SC)} {d : D} {o0 : Option SC} {f : SV → Prop} : rtS ⟨o0 :: some (.own d) :: r, c⟩ (.bor 1) f = f (.new d) := rfl
theorem v2 {c : Ct} {r : List (Option SC)} {d : D} {o0 o1 : Option SC} {Q : SV → Gm → Prop} : dVar 2 ⟨o0 :: o1 :: some (.dat d) :: r, c⟩ Q = Q (.dat d) ⟨o0 :: o1 :: some (.dat d) :: r, c⟩ := rfl
theorem w2 {c : Ct} {r : List (Option SC)} {d : D} {o0 o1 : Option SC} {Q : SV → Gm → Prop} : dVar 2 ⟨o0 :: o1 :: some (.own d) :: r, c⟩ Q = Q (.bor 2) ⟨o0 :: o1 :: some (.own d) :: r, c⟩ := rfl
theorem n2 {c : Ct} {r : List (Option SC)} {d : D} {o : Option SC} {o0 o1 : Option SC} {Q : Gm → Prop} : dgName 2 (.dat d) ⟨o0 :: o1 :: o :: r, c⟩ Q = Q ⟨o0 :: o1 :: some (.dat d) :: r, c⟩ := rfl
theorem m2 {c : Ct} {r : List (Option SC)} {d : D} {o : Option SC} {o0 o1 : Option SC} {Q : Gm → Prop} : dgName 2 (.new d) ⟨o0 :: o1 :: o :: r, c⟩ Q = Q ⟨o0 :: o1 :: some (.own d) :: r, c⟩ := rfl
theorem sb2 {c : Ct} {r : List (Option SC)} {d : D} {o0 o1 : Option SC} {f : D → Prop} : see ⟨o0 :: o1 :: some (.own d) :: r, c⟩ (.bor 2) f = f d := rfl
theorem fb2 {c : Ct} {r : List (Option SC)} {d : D} {o0 o1 : Option SC} {f : D → Gm → Prop} : frz ⟨o0 :: o1 :: some (.own d) :: r, c⟩ (.bor 2) f = f d ⟨o0 :: o1 :: some (.dat d) :: r, c⟩ := rfl
theorem rb2 {c : Ct} {r : List (Option SC)} {d : D} {o0 o1 : Option SC} {f : SV → Prop} : rtS ⟨o0 :: o1 :: some (.own d) :: r, c⟩ (.bor 2) f = f (.new d) := rfl
theorem v3 {c : Ct} {r : List (Option SC)} {d : D} {o0 o1 o2 : Option SC} {Q : SV → Gm → Prop} : dVar 3 ⟨o0 :: o1 :: o2 :: some (.dat d) :: r, c⟩ Q = Q (.dat d) ⟨o0 :: o1 :: o2 :: some (.dat d) :: r, c⟩ := rfl
theorem w3 {c : Ct} {r : List (Option SC)} {d : D} {o0 o1 o2 : Option SC} {Q : SV → Gm → Prop} : dVar 3 ⟨o0 :: o1 :: o2 :: some (.own d) :: r, c⟩ Q = Q (.bor 3) ⟨o0 :: o1 :: o2 :: some (.own d) :: r, c⟩ := rfl
theorem n3 {c : Ct} {r : List (Option SC)} {d : D} {o : Option SC} {o0 o1 o2 : Option SC} {Q : Gm → Prop} : dgName 3 (.dat d) ⟨o0 :: o1 :: o2 :: o :: r, c⟩ Q = Q ⟨o0 :: o1 :: o2 :: some (.dat d) :: r, c⟩ := rfl
theorem m3 {c : Ct} {r : List (Option SC)} {d : D} {o : Option SC} {o0 o1 o2 : Option SC} {Q : Gm → Prop} : dgName 3 (.new d) ⟨o0 :: o1 :: o2 :: o :: r, c⟩ Q = Q ⟨o0 :: o1 :: o2 :: some (.own d) :: r, c⟩ := rfl
theorem sb3 {c : Ct} {r : List (Option SC)} {d : D} {o0 o1 o2 : Option SC} {f : D → Prop} : see ⟨o0 :: o1 :: o2 :: some (.own d) :: r, c⟩ (.bor 3) f = f d := rfl
theorem fb3 {c : Ct} {r : List (Option SC)} {d : D} {o0 o1 o2 : Option SC} {f : D → Gm → Prop} : frz ⟨o0 :: o1 :: o2 :: some (.own d) :: r, c⟩ (.bor 3) f = f d ⟨o0 :: o1 :: o2 :: some (.dat d) :: r, c⟩ := rfl
theorem rb3 {c : Ct} {r : List (Option SC)} {d : D} {o0 o1 o2 : Option SC} {f : SV → Prop} : rtS ⟨o0 :: o1 :: o2 :: some (.own d) :: r, c⟩ (.bor 3) f = f (.new d) := rfl
theorem v4 {c : Ct} {r : List (Option SC)} {d : D} {o0 o1 o2 o3 : Option SC} {Q : SV → Gm → Prop} : dVar 4 ⟨o0 :: o1 :: o2 :: o3 :: some (.dat d) :: r, c⟩ Q = Q (.dat d) ⟨o0 :: o1 :: o2 :: o3 :: some (.dat d) :: r, c⟩ := rfl
theorem w4 {c : Ct} {r : List (Option SC)} {d : D} {o0 o1 o2 o3 : Option SC} {Q : SV → Gm → Prop} : dVar 4 ⟨o0 :: o1 :: o2 :: o3 :: some (.own d) :: r, c⟩ Q = Q (.bor 4) ⟨o0 :: o1 :: o2 :: o3 :: some (.own d) :: r, c⟩ := rfl
theorem n4 {c : Ct} {r : List (Option SC)} {d : D} {o : Option SC} {o0 o1 o2 o3 : Option SC} {Q : Gm → Prop} : dgName 4 (.dat d) ⟨o0 :: o1 :: o2 :: o3 :: o :: r, c⟩ Q = Q ⟨o0 :: o1 :: o2 :: o3 :: some (.dat d) :: r, c⟩ := rfl
theorem m4 {c : Ct} {r : List (Option SC)} {d : D} {o : Option SC} {o0 o1 o2 o3 : Option SC} {Q : Gm → Prop} : dgName 4 (.new d) ⟨o0 :: o1 :: o2 :: o3 :: o :: r, c⟩ Q = Q ⟨o0 :: o1 :: o2 :: o3 :: some (.own d) :: r, c⟩ := rfl
theorem sb4 {c : Ct} {r : List (Option SC)} {d : D} {o0 o1 o2 o3 : Option SC} {f : D → Prop} : see ⟨o0 :: o1 :: o2 :: o3 :: some (.own d) :: r, c⟩ (.bor 4) f = f d := rfl
theorem fb4 {c : Ct} {r : List (Option SC)} {d : D} {o0 o1 o2 o3 : Option SC} {f : D → Gm → Prop} : frz ⟨o0 :: o1 :: o2 :: o3 :: some (.own d) :: r, c⟩ (.bor 4) f = f d ⟨o0 :: o1 :: o2 :: o3 :: some (.dat d) :: r, c⟩ := rfl
theorem rb4 {c : Ct} {r : List (Option SC)} {d : D} {o0 o1 o2 o3 : Option SC} {f : SV → Prop} : rtS ⟨o0 :: o1 :: o2 :: o3 :: some (.own d) :: r, c⟩ (.bor 4) f = f (.new d) := rfl
theorem v5 {c : Ct} {r : List (Option SC)} {d : D} {o0 o1 o2 o3 o4 : Option SC} {Q : SV → Gm → Prop} : dVar 5 ⟨o0 :: o1 :: o2 :: o3 :: o4 :: some (.dat d) :: r, c⟩ Q = Q (.dat d) ⟨o0 :: o1 :: o2 :: o3 :: o4 :: some (.dat d) :: r, c⟩ := rfl
theorem w5 {c : Ct} {r : List (Option SC)} {d : D} {o0 o1 o2 o3 o4 : Option SC} {Q : SV → Gm → Prop} : dVar 5 ⟨o0 :: o1 :: o2 :: o3 :: o4 :: some (.own d) :: r, c⟩ Q = Q (.bor 5) ⟨o0 :: o1 :: o2 :: o3 :: o4 :: some (.own d) :: r, c⟩ := rfl
theorem n5 {c : Ct} {r : List (Option SC)} {d : D} {o : Option SC} {o0 o1 o2 o3 o4 : Option SC} {Q : Gm → Prop} : dgName 5 (.dat d) ⟨o0 :: o1 :: o2 :: o3 :: o4 :: o :: r, c⟩ Q = Q ⟨o0 :: o1 :: o2 :: o3 :: o4 :: some (.dat d) :: r, c⟩ := rfl
theorem m5 {c : Ct} {r : List (Option SC)} {d : D} {o : Option SC} {o0 o1 o2 o3 o4 : Option SC} {Q : Gm → Prop} : dgName 5 (.new d) ⟨o0 :: o1 :: o2 :: o3 :: o4 :: o :: r, c⟩ Q = Q ⟨o0 :: o1 :: o2 :: o3 :: o4 :: some (.own d) :: r, c⟩ := rfl
theorem sb5 {c : Ct} {r : List (Option SC)} {d : D} {o0 o1 o2 o3 o4 : Option SC} {f : D → Prop} : see ⟨o0 :: o1 :: o2 :: o3 :: o4 :: some (.own d) :: r, c⟩ (.bor 5) f = f d := rfl
theorem fb5 {c : Ct} {r : List (Option SC)} {d : D} {o0 o1 o2 o3 o4 : Option SC} {f : D → Gm → Prop} : frz ⟨o0 :: o1 :: o2 :: o3 :: o4 :: some (.own d) :: r, c⟩ (.bor 5) f = f d ⟨o0 :: o1 :: o2 :: o3 :: o4 :: some (.dat d) :: r, c⟩ := rfl
theorem rb5 {c : Ct} {r : List (Option SC)} {d : D} {o0 o1 o2 o3 o4 : Option SC} {f : SV → Prop} : rtS ⟨o0 :: o1 :: o2 :: o3 :: o4 :: some (.own d) :: r, c⟩ (.bor 5) f = f (.new d) := rfl
theorem v6 {c : Ct} {r : List (Option SC)} {d : D} {o0 o1 o2 o3 o4 o5 : Option SC} {Q : SV → Gm → Prop} : dVar 6 ⟨o0 :: o1 :: o2 :: o3 :: o4 :: o5 :: some (.dat d) :: r, c⟩ Q = Q (.dat d) ⟨o0 :: o1 :: o2 :: o3 :: o4 :: o5 :: some (.dat d) :: r, c⟩ := rfl
theorem w6 {c : Ct} {r : List (Option SC)} {d : D} {o0 o1 o2 o3 o4 o5 : Option SC} {Q : SV → Gm → Prop} : dVar 6 ⟨o0 :: o1 :: o2 :: o3 :: o4 :: o5 :: some (.own d) :: r, c⟩ Q = Q (.bor 6) ⟨o0 :: o1 :: o2 :: o3 :: o4 :: o5 :: some (.own d) :: r, c⟩ := rfl
theorem n6 {c : Ct} {r : List (Option SC)} {d : D} {o : Option SC} {o0 o1 o2 o3 o4 o5 : Option SC} {Q : Gm → Prop} : dgName 6 (.dat d) ⟨o0 :: o1 :: o2 :: o3 :: o4 :: o5 :: o :: r, c⟩ Q = Q ⟨o0 :: o1 :: o2 :: o3 :: o4 :: o5 :: some (.dat d) :: r, c⟩ := rfl
theorem m6 {c : Ct} {r : List (Option SC)} {d : D} {o : Option SC} {o0 o1 o2 o3 o4 o5 : Option SC} {Q : Gm → Prop} : dgName 6 (.new d) ⟨o0 :: o1 :: o2 :: o3 :: o4 :: o5 :: o :: r, c⟩ Q = Q ⟨o0 :: o1 :: o2 :: o3 :: o4 :: o5 :: some (.own d) :: r, c⟩ := rfl
theorem sb6 {c : Ct} {r : List (Option SC)} {d : D} {o0 o1 o2 o3 o4 o5 : Option SC} {f : D → Prop} : see ⟨o0 :: o1 :: o2 :: o3 :: o4 :: o5 :: some (.own d) :: r, c⟩ (.bor 6) f = f d := rfl
theorem fb6 {c : Ct} {r : List (Option SC)} {d : D} {o0 o1 o2 o3 o4 o5 : Option SC} {f : D → Gm → Prop} : frz ⟨o0 :: o1 :: o2 :: o3 :: o4 :: o5 :: some (.own d) :: r, c⟩ (.bor 6) f = f d ⟨o0 :: o1 :: o2 :: o3 :: o4 :: o5 :: some (.dat d) :: r, c⟩ := rfl
theorem rb6 {c : Ct} {r : List (Option SC)} {d : D} {o0 o1 o2 o3 o4 o5 : Option SC} {f : SV → Prop} : rtS ⟨o0 :: o1 :: o2 :: o3 :: o4 :: o5 :: some (.own d) :: r, c⟩ (.bor 6) f = f (.new d) := rfl
theorem v7 {c : Ct} {r : List (Option SC)} {d : D} {o0 o1 o2 o3 o4 o5 o6 : Option SC} {Q : SV → Gm → Prop} : dVar 7 ⟨o0 :: o1 :: o2 :: o3 :: o4 :: o5 :: o6 :: some (.dat d) :: r, c⟩ Q = Q (.dat d) ⟨o0 :: o1 :: o2 :: o3 :: o4 :: o5 :: o6 :: some (.dat d) :: r, c⟩ := rfl
theorem w7 {c : Ct} {r : List (Option SC)} {d : D} {o0 o1 o2 o3 o4 o5 o6 : Option SC} {Q : SV → Gm → Prop} : dVar 7 ⟨o0 :: o1 :: o2 :: o3 :: o4 :: o5 :: o6 :: some (.own d) :: r, c⟩ Q = Q (.bor 7) ⟨o0 :: o1 :: o2 :: o3 :: o4 :: o5 :: o6 :: some (.own d) :: r, c⟩ := rfl
theorem n7 {c : Ct} {r : List (Option SC)} {d : D} {o : Option SC} {o0 o1 o2 o3 o4 o5 o6 : Option SC} {Q : Gm → Prop} : dgName 7 (.dat d) ⟨o0 :: o1 :: o2 :: o3 :: o4 :: o5 :: o6 :: o :: r, c⟩ Q = Q ⟨o0 :: o1 :: o2 :: o3 :: o4 :: o5 :: o6 :: some (.dat d) :: r, c⟩ := rfl
theorem m7 {c : Ct} {r : List (Option SC)} {d : D} {o : Option SC} {o0 o1 o2 o3 o4 o5 o6 : Option SC} {Q : Gm → Prop} : dgName 7 (.new d) ⟨o0 :: o1 :: o2 :: o3 :: o4 :: o5 :: o6 :: o :: r, c⟩ Q = Q ⟨o0 :: o1 :: o2 :: o3 :: o4 :: o5 :: o6 :: some (.own d) :: r, c⟩ := rfl
theorem sb7 {c : Ct} {r : List (Option SC)} {d : D} {o0 o1 o2 o3 o4 o5 o6 : Option SC} {f : D → Prop} : see ⟨o0 :: o1 :: o2 :: o3 :: o4 :: o5 :: o6 :: some (.own d) :: r, c⟩ (.bor 7) f = f d := rfl
theorem fb7 {c : Ct} {r : List (Option SC)} {d : D} {o0 o1 o2 o3 o4 o5 o6 : Option SC} {f : D → Gm → Prop} : frz ⟨o0 :: o1 :: o2 :: o3 :: o4 :: o5 :: o6 :: some (.own d) :: r, c⟩ (.bor 7) f = f d ⟨o0 :: o1 :: o2 :: o3 :: o4 :: o5 :: o6 :: some (.dat d) :: r, c⟩ := rfl
theorem rb7 {c : Ct} {r : List (Option SC)} {d : D} {o0 o1 o2 o3 o4 o5 o6 : Option SC} {f : SV → Prop} : rtS ⟨o0 :: o1 :: o2 :: o3 :: o4 :: o5 :: o6 :: some (.own d) :: r, c⟩ (.bor 7) f = f (.new d) := rfl
theorem v8 {c : Ct} {r : List (Option SC)} {d : D} {o0 o1 o2 o3 o4 o5 o6 o7 : Option SC} {Q : SV → Gm → Prop} : dVar 8 ⟨o0 :: o1 :: o2 :: o3 :: o4 :: o5 :: o6 :: o7 :: some (.dat d) :: r, c⟩ Q = Q (.dat d) ⟨o0 :: o1 :: o2 :: o3 :: o4 :: o5 :: o6 :: o7 :: some (.dat d) :: r, c⟩ := rfl
theorem w8 {c : Ct} {r : List (Option SC)} {d : D} {o0 o1 o2 o3 o4 o5 o6 o7 : Option SC} {Q : SV → Gm → Prop} : dVar 8 ⟨o0 :: o1 :: o2 :: o3 :: o4 :: o5 :: o6 :: o7 :: some (.own d) :: r, c⟩ Q = Q (.bor 8) ⟨o0 :: o1 :: o2 :: o3 :: o4 :: o5 :: o6 :: o7 :: some (.own d) :: r, c⟩ := rfl
theorem n8 {c : Ct} {r : List (Option SC)} {d : D} {o : Option SC} {o0 o1 o2 o3 o4 o5 o6 o7 : Option SC} {Q : Gm → Prop} : dgName 8 (.dat d) ⟨o0 :: o1 :: o2 :: o3 :: o4 :: o5 :: o6 :: o7 :: o :: r, c⟩ Q = Q ⟨o0 :: o1 :: o2 :: o3 :: o4 :: o5 :: o6 :: o7 :: some (.dat d) :: r, c⟩ := rfl
theorem m8 {c : Ct} {r : List (Option SC)} {d : D} {o : Option SC} {o0 o1 o2 o3 o4 o5 o6 o7 : Option SC} {Q : Gm → Prop} : dgName 8 (.new d) ⟨o0 :: o1 :: o2 :: o3 :: o4 :: o5 :: o6 :: o7 :: o :: r, c⟩ Q = Q ⟨o0 :: o1 :: o2 :: o3 :: o4 :: o5 :: o6 :: o7 :: some (.own d) :: r, c⟩ := rfl
theorem sb8 {c : Ct} {r : List (Option SC)} {d : D} {o0 o1 o2 o3 o4 o5 o6 o7 : Option SC} {f : D → Prop} : see ⟨o0 :: o1 :: o2 :: o3 :: o4 :: o5 :: o6 :: o7 :: some (.own d) :: r, c⟩ (.bor 8) f = f d := rfl
theorem fb8 {c : Ct} {r : List (Option SC)} {d : D} {o0 o1 o2 o3 o4 o5 o6 o7 : Option SC} {f : D → Gm → Prop} : frz ⟨o0 :: o1 :: o2 :: o3 :: o4 :: o5 :: o6 :: o7 :: some (.own d) :: r, c⟩ (.bor 8) f = f d ⟨o0 :: o1 :: o2 :: o3 :: o4 :: o5 :: o6 :: o7 :: some (.dat d) :: r, c⟩ := rfl
theorem rb8 {c : Ct} {r : List (Option SC)} {d : D} {o0 o1 o2 o3 o4 o5 o6 o7 : Option SC} {f : SV → Prop} : rtS ⟨o0 :: o1 :: o2 :: o3 :: o4 :: o5 :: o6 :: o7 :: some (.own d) :: r, c⟩ (.bor 8) f = f (.new d) := rfl
theorem v9 {c : Ct} {r : List (Option SC)} {d : D} {o0 o1 o2 o3 o4 o5 o6 o7 o8 : Option SC} {Q : SV → Gm → Prop} : dVar 9 ⟨o0 :: o1 :: o2 :: o3 :: o4 :: o5 :: o6 :: o7 :: o8 :: some (.dat d) :: r, c⟩ Q = Q (.dat d) ⟨o0 :: o1 :: o2 :: o3 :: o4 :: o5 :: o6 :: o7 :: o8 :: some (.dat d) :: r, c⟩ := rfl
theorem w9 {c : Ct} {r : List (Option SC)} {d : D} {o0 o1 o2 o3 o4 o5 o6 o7 o8 : Option SC} {Q : SV → Gm → Prop} : dVar 9 ⟨o0 :: o1 :: o2 :: o3 :: o4 :: o5 :: o6 :: o7 :: o8 :: some (.own d) :: r, c⟩ Q = Q (.bor 9) ⟨o0 :: o1 :: o2 :: o3 :: o4 :: o5 :: o6 :: o7 :: o8 :: some (.own d) :: r, c⟩ := rfl
theorem n9 {c : Ct} {r : List (Option SC)} {d : D} {o : Option SC} {o0 o1 o2 o3 o4 o5 o6 o7 o8 : Option SC} {Q : Gm → Prop} : dgName 9 (.dat d) ⟨o0 :: o1 :: o2 :: o3 :: o4 :: o5 :: o6 :: o7 :: o8 :: o :: r, c⟩ Q = Q ⟨o0 :: o1 :: o2 :: o3 :: o4 :: o5 :: o6 :: o7 :: o8 :: some (.dat d) :: r, c⟩ := rfl
theorem m9 {c : Ct} {r : List (Option SC)} {d : D} {o : Option SC} {o0 o1 o2 o3 o4 o5 o6 o7 o8 : Option SC} {Q : Gm → Prop} : dgName 9 (.new d) ⟨o0 :: o1 :: o2 :: o3 :: o4 :: o5 :: o6 :: o7 :: o8 :: o :: r, c⟩ Q = Q ⟨o0 :: o1 :: o2 :: o3 :: o4 :: o5 :: o6 :: o7 :: o8 :: some (.own d) :: r, c⟩ := rfl
theorem sb9 {c : Ct} {r : List (Option SC)} {d : D} {o0 o1 o2 o3 o4 o5 o6 o7 o8 : Option SC} {f : D → Prop} : see ⟨o0 :: o1 :: o2 :: o3 :: o4 :: o5 :: o6 :: o7 :: o8 :: some (.own d) :: r, c⟩ (.bor 9) f = f d := rfl
theorem fb9 {c : Ct} {r : List (Option SC)} {d : D} {o0 o1 o2 o3 o4 o5 o6 o7 o8 : Option SC} {f : D → Gm → Prop} : frz ⟨o0 :: o1 :: o2 :: o3 :: o4 :: o5 :: o6 :: o7 :: o8 :: some (.own d) :: r, c⟩ (.bor 9) f = f d ⟨o0 :: o1 :: o2 :: o3 :: o4 :: o5 :: o6 :: o7 :: o8 :: some (.dat d) :: r, c⟩ := rfl
theorem rb9 {c : Ct} {r : List (Option SC)} {d : D} {o0 o1 o2 o3 o4 o5 o6 o7 o8 : Option SC} {f : SV → Prop} : rtS ⟨o0 :: o1 :: o2 :: o3 :: o4 :: o5 :: o6 :: o7 :: o8 :: some (.own d) :: r, c⟩ (.bor 9) f = f (.new d) := rfl
theorem v10 {c : Ct} {r : List (Option SC)} {d : D} {o0 o1 o2 o3 o4 o5 o6 o7 o8 o9 : Option SC} {Q : SV → Gm → Prop} : dVar 10 ⟨o0 :: o1 :: o2 :: o3 :: o4 :: o5 :: o6 :: o7 :: o8 :: o9 :: some (.dat d) :: r, c⟩ Q = Q (.dat d) ⟨o0 :: o1 :: o2 :: o3 :: o4 :: o5 :: o6 :: o7 :: o8 :: o9 :: some (.dat d) :: r, c⟩ := rfl
theorem w10 {c : Ct} {r : List (Option SC)} {d : D} {o0 o1 o2 o3 o4 o5 o6 o7 o8 o9 : Option SC} {Q : SV → Gm → Prop} : dVar 10 ⟨o0 :: o1 :: o2 :: o3 :: o4 :: o5 :: o6 :: o7 :: o8 :: o9 :: some (.own d) :: r, c⟩ Q = Q (.bor 10) ⟨o0 :: o1 :: o2 :: o3 :: o4 :: o5 :: o6 :: o7 :: o8 :: o9 :: some (.own d) :: r, c⟩ := rfl
theorem n10 {c : Ct} {r : List (Option SC)} {d : D} {o : Option SC} {o0 o1 o2 o3 o4 o5 o6 o7 o8 o9 : Option SC} {Q : Gm → Prop} : dgName 10 (.dat d) ⟨o0 :: o1 :: o2 :: o3 :: o4 :: o5 :: o6 :: o7 :: o8 :: o9 :: o :: r, c⟩ Q = Q ⟨o0 :: o1 :: o2 :: o3 :: o4 :: o5 :: o6 :: o7 :: o8 :: o9 :: some (.dat d) :: r, c⟩ := rfl
theorem m10 {c : Ct} {r : List (Option SC)} {d : D} {o : Option SC} {o0 o1 o2 o3 o4 o5 o6 o7 o8 o9 : Option SC} {Q : Gm → Prop} : dgName 10 (.new d) ⟨o0 :: o1 :: o2 :: o3 :: o4 :: o5 :: o6 :: o7 :: o8 :: o9 :: o :: r, c⟩ Q = Q ⟨o0 :: o1 :: o2 :: o3 :: o4 :: o5 :: o6 :: o7 :: o8 :: o9 :: some (.own d) :: r, c⟩ := rfl
theorem sb10 {c : Ct} {r : List (Option SC)} {d : D} {o0 o1 o2 o3 o4 o5 o6 o7 o8 o9 : Option SC} {f : D → Prop} : see ⟨o0 :: o1 :: o2 :: o3 :: o4 :: o5 :: o6 :: o7 :: o8 :: o9 :: some (.own d) :: r, c⟩ (.bor 10) f = f d := rfl
theorem fb10 {c : Ct} {r : List (Option SC)} {d : D} {o0 o1 o2 o3 o4 o5 o6 o7 o8 o9 : Option SC} {f : D → Gm → Prop} : frz ⟨o0 :: o1 :: o2 :: o3 :: o4 :: o5 :: o6 :: o7 :: o8 :: o9 :: some (.own d) :: r, c⟩ (.bor 10) f = f d ⟨o0 :: o1 :: o2 :: o3 :: o4 :: o5 :: o6 :: o7 :: o8 :: o9 :: some (.dat d) :: r, c⟩ := rfl
theorem rb10 {c : Ct} {r : List (Option SC)} {d : D} {o0 o1 o2 o3 o4 o5 o6 o7 o8 o9 : Option SC} {f : SV → Prop} : rtS ⟨o0 :: o1 :: o2 :: o3 :: o4 :: o5 :: o6 :: o7 :: o8 :: o9 :: some (.own d) :: r, c⟩ (.bor 10) f = f (.new d) := rfl
theorem v11 {c : Ct} {r : List (Option SC)} {d : D} {o0 o1 o2 o3 o4 o5 o6 o7 o8 o9 o10 : Option SC} {Q : SV → Gm → Prop} : dVar 11 ⟨o0 :: o1 :: o2 :: o3 :: o4 :: o5 :: o6 :: o7 :: o8 :: o9 :: o10 :: some (.dat d) :: r, c⟩ Q = Q (.dat d) ⟨o0 :: o1 :: o2 :: o3 :: o4 :: o5 :: o6 :: o7 :: o8 :: o9 :: o10 :: some (.dat d) :: r, c⟩ := rfl
theorem w11 {c : Ct} {r : List (Option SC)} {d : D} {o0 o1 o2 o3 o4 o5 o6 o7 o8 o9 o10 : Option SC} {Q : SV → Gm → Prop} : dVar 11 ⟨o0 :: o1 :: o2 :: o3 :: o4 :: o5 :: o6 :: o7 :: o8 :: o9 :: o10 :: some (.own d) :: r, c⟩ Q = Q (.bor 11) ⟨o0 :: o1 :: o2 :: o3 :: o4 :: o5 :: o6 :: o7 :: o8 :: o9 :: o10 :: some (.own d) :: r, c⟩ := rfl
theorem n11 {c : Ct} {r : List (Option SC)} {d : D} {o : Option SC} {o0 o1 o2 o3 o4 o5 o6 o7 o8 o9 o10 : Option SC} {Q : Gm → Prop} : dgName 11 (.dat d) ⟨o0 :: o1 :: o2 :: o3 :: o4 :: o5 :: o6 :: o7 :: o8 :: o9 :: o10 :: o :: r, c⟩ Q = Q ⟨o0 :: o1 :: o2 :: o3 :: o4 :: o5 :: o6 :: o7 :: o8 :: o9 :: o10 :: some (.dat d) :: r, c⟩ := rfl
theorem m11 {c : Ct} {r : List (Option SC)} {d : D} {o : Option SC} {o0 o1 o2 o3 o4 o5 o6 o7 o8 o9 o10 : Option SC} {Q : Gm → Prop} : dgName 11 (.new d) ⟨o0 :: o1 :: o2 :: o3 :: o4 :: o5 :: o6 :: o7 :: o8 :: o9 :: o10 :: o :: r, c⟩ Q = Q ⟨o0 :: o1 :: o2 :: o3 :: o4 :: o5 :: o6 :: o7 :: o8 :: o9 :: o10 :: some (.own d) :: r, c⟩ := rfl
theorem sb11 {c : Ct} {r : List (Option SC)} {d : D} {o0 o1 o2 o3 o4 o5 o6 o7 o8 o9 o10 : Option SC} {f : D → Prop} : see ⟨o0 :: o1 :: o2 :: o3 :: o4 :: o5 :: o6 :: o7 :: o8 :: o9 :: o10 :: some (.own d) :: r, c⟩ (.bor 11) f = f d := rfl
theorem fb11 {c : Ct} {r : List (Option SC)} {d : D} {o0 o1 o2 o3 o4 o5 o6 o7 o8 o9 o10 : Option SC} {f : D → Gm → Prop} : frz ⟨o0 :: o1 :: o2 :: o3 :: o4 :: o5 :: o6 :: o7 :: o8 :: o9 :: o10 :: some (.own d) :: r, c⟩ (.bor 11) f = f d ⟨o0 :: o1 :: o2 :: o3 :: o4 :: o5 :: o6 :: o7 :: o8 :: o9 :: o10 :: some (.dat d) :: r, c⟩ := rfl
theorem rb11 {c : Ct} {r : List (Option SC)} {d : D} {o0 o1 o2 o3 o4 o5 o6 o7 o8 o9 o10 : Option SC} {f : SV → Prop} : rtS ⟨o0 :: o1 :: o2 :: o3 :: o4 :: o5 :: o6 :: o7 :: o8 :: o9 :: o10 :: some (.own d) :: r, c⟩ (.bor 11) f = f (.new d) := rfl
theorem v12 {c : Ct} {r : List (Option SC)} {d : D} {o0 o1 o2 o3 o4 o5 o6 o7 o8 o9 o10 o11 : Option SC} {Q : SV → Gm → Prop} : dVar 12 ⟨o0 :: o1 :: o2 :: o3 :: o4 :: o5 :: o6 :: o7 :: o8 :: o9 :: o10 :: o11 :: some (.dat d) :: r, c⟩ Q = Q (.dat d) ⟨o0 :: o1 :: o2 :: o3 :: o4 :: o5 :: o6 :: o7 :: o8 :: o9 :: o10 :: o11 :: some (.dat d) :: r, c⟩ := rfl
theorem w12 {c : Ct} {r : List (Option SC)} {d : D} {o0 o1 o2 o3 o4 o5 o6 o7 o8 o9 o10 o11 : Option SC} {Q : SV → Gm → Prop} : dVar 12 ⟨o0 :: o1 :: o2 :: o3 :: o4 :: o5 :: o6 :: o7 :: o8 :: o9 :: o10 :: o11 :: some (.own d) :: r, c⟩ Q = Q (.bor 12) ⟨o0 :: o1 :: o2 :: o3 :: o4 :: o5 :: o6 :: o7 :: o8 :: o9 :: o10 :: o11 :: some (.own d) :: r, c⟩ := rfl
theorem n12 {c : Ct} {r : List (Option SC)} {d : D} {o : Option SC} {o0 o1 o2 o3 o4 o5 o6 o7 o8 o9 o10 o11 : Option SC} {Q : Gm → Prop} : dgName 12 (.dat d) ⟨o0 :: o1 :: o2 :: o3 :: o4 :: o5 :: o6 :: o7 :: o8 :: o9 :: o10 :: o11 :: o :: r, c⟩ Q = Q ⟨o0 :: o1 :: o2 :: o3 :: o4 :: o5 :: o6 :: o7 :: o8 :: o9 :: o10 :: o11 :: some (.dat d) :: r, c⟩ := rfl
theorem m12 {c : Ct} {r : List (Option SC)} {d : D} {o : Option SC} {o0 o1 o2 o3 o4 o5 o6 o7 o8 o9 o10 o11 : Option SC} {Q : Gm → Prop} : dgName 12 (.new d) ⟨o0 :: o1 :: o2 :: o3 :: o4 :: o5 :: o6 :: o7 :: o8 :: o9 :: o10 :: o11 :: o :: r, c⟩ Q = Q ⟨o0 :: o1 :: o2 :: o3 :: o4 :: o5 :: o6 :: o7 :: o8 :: o9 :: o10 :: o11 :: some (.own d) :: r, c⟩ := rfl
theorem sb12 {c : Ct} {r : List (Option SC)} {d : D} {o0 o1 o2 o3 o4 o5 o6 o7 o8 o9 o10 o11 : Option SC} {f : D → Prop} : see ⟨o0 :: o1 :: o2 :: o3 :: o4 :: o5 :: o6 :: o7 :: o8 :: o9 :: o10 :: o11 :: some (.own d) :: r, c⟩ (.bor 12) f = f d := rfl
theorem fb12 {c : Ct} {r : List (Option SC)} {d : D} {o0 o1 o2 o3 o4 o5 o6 o7 o8 o9 o10 o11 : Option SC} {f : D → Gm → Prop} : frz ⟨o0 :: o1 :: o2 :: o3 :: o4 :: o5 :: o6 :: o7 :: o8 :: o9 :: o10 :: o11 :: some (.own d) :: r, c⟩ (.bor 12) f = f d ⟨o0 :: o1 :: o2 :: o3 :: o4 :: o5 :: o6 :: o7 :: o8 :: o9 :: o10 :: o11 :: some (.dat d) :: r, c⟩ := rfl
theorem rb12 {c : Ct} {r : List (Option SC)} {d : D} {o0 o1 o2 o3 o4 o5 o6 o7 o8 o9 o10 o11 : Option SC} {f : SV → Prop} : rtS ⟨o0 :: o1 :: o2 :: o3 :: o4 :: o5 :: o6 :: o7 :: o8 :: o9 :: o10 :: o11 :: some (.own d) :: r, c⟩ (.bor 12) f = f (.new d) := rfl
theorem v13 {c : Ct} {r : List (Option SC)} {d : D} {o0 o1 o2 o3 o4 o5 o6 o7 o8 o9 o10 o11 o12 : Option SC} {Q : SV → Gm → Prop} : dVar 13 ⟨o0 :: o1 :: o2 :: o3 :: o4 :: o5 :: o6 :: o7 :: o8 :: o9 :: o10 :: o11 :: o12 :: some (.dat d) :: r, c⟩ Q = Q (.dat d) ⟨o0 :: o1 :: o2 :: o3 :: o4 :: o5 :: o6 :: o7 :: o8 :: o9 :: o10 :: o11 :: o12 :: some (.dat d) :: r, c⟩ := rfl
theorem w13 {c : Ct} {r : List (Option SC)} {d : D} {o0 o1 o2 o3 o4 o5 o6 o7 o8 o9 o10 o11 o12 : Option SC} {Q : SV → Gm → Prop} : dVar 13 ⟨o0 :: o1 :: o2 :: o3 :: o4 :: o5 :: o6 :: o7 :: o8 :: o9 :: o10 :: o11 :: o12 :: some (.own d) :: r, c⟩ Q = Q (.bor 13) ⟨o0 :: o1 :: o2 :: o3 :: o4 :: o5 :: o6 :: o7 :: o8 :: o9 :: o10 :: o11 :: o12 :: some (.own d) :: r, c⟩ := rfl
theorem n13 {c : Ct} {r : List (Option SC)} {d : D} {o : Option SC} {o0 o1 o2 o3 o4 o5 o6 o7 o8 o9 o10 o11 o12 : Option SC} {Q : Gm → Prop} : dgName 13 (.dat d) ⟨o0 :: o1 :: o2 :: o3 :: o4 :: o5 :: o6 :: o7 :: o8 :: o9 :: o10 :: o11 :: o12 :: o :: r, c⟩ Q = Q ⟨o0 :: o1 :: o2 :: o3 :: o4 :: o5 :: o6 :: o7 :: o8 :: o9 :: o10 :: o11 :: o12 :: some (.dat d) :: r, c⟩ := rfl
theorem m13 {c : Ct} {r : List (Option SC)} {d : D} {o : Option SC} {o0 o1 o2 o3 o4 o5 o6 o7 o8 o9 o10 o11 o12 : Option SC} {Q : Gm → Prop} : dgName 13 (.new d) ⟨o0 :: o1 :: o2 :: o3 :: o4 :: o5 :: o6 :: o7 :: o8 :: o9 :: o10 :: o11 :: o12 :: o :: r, c⟩ Q = Q ⟨o0 :: o1 :: o2 :: o3 :: o4 :: o5 :: o6 :: o7 :: o8 :: o9 :: o10 :: o11 :: o12 :: some (.own d) :: r, c⟩ := rfl
theorem sb13 {c : Ct} {r : List (Option SC)} {d : D} {o0 o1 o2 o3 o4 o5 o6 o7 o8 o9 o10 o11 o12 : Option SC} {f : D → Prop} : see ⟨o0 :: o1 :: o2 :: o3 :: o4 :: o5 :: o6 :: o7 :: o8 :: o9 :: o10 :: o11 :: o12 :: some (.own d) :: r, c⟩ (.bor 13) f = f d := rfl
theorem fb13 {c : Ct} {r : List (Option SC)} {d : D} {o0 o1 o2 o3 o4 o5 o6 o7 o8 o9 o10 o11 o12 : Option SC} {f : D → Gm → Prop} : frz ⟨o0 :: o1 :: o2 :: o3 :: o4 :: o5 :: o6 :: o7 :: o8 :: o9 :: o10 :: o11 :: o12 :: some (.own d) :: r, c⟩ (.bor 13) f = f d ⟨o0 :: o1 :: o2 :: o3 :: o4 :: o5 :: o6 :: o7 :: o8 :: o9 :: o10 :: o11 :: o12 :: some (.dat d) :: r, c⟩ := rfl
theorem rb13 {c : Ct} {r : List (Option SC)} {d : D} {o0 o1 o2 o3 o4 o5 o6 o7 o8 o9 o10 o11 o12 : Option SC} {f : SV → Prop} : rtS ⟨o0 :: o1 :: o2 :: o3 :: o4 :: o5 :: o6 :: o7 :: o8 :: o9 :: o10 :: o11 :: o12 :: some (.own d) :: r, c⟩ (.bor 13) f = f (.new d) := rfl
theorem v14 {c : Ct} {r : List (Option SC)} {d : D} {o0 o1 o2 o3 o4 o5 o6 o7 o8 o9 o10 o11 o12 o13 : Option SC} {Q : SV → Gm → Prop} : dVar 14 ⟨o0 :: o1 :: o2 :: o3 :: o4 :: o5 :: o6 :: o7 :: o8 :: o9 :: o10 :: o11 :: o12 :: o13 :: some (.dat d) :: r, c⟩ Q = Q (.dat d) ⟨o0 :: o1 :: o2 :: o3 :: o4 :: o5 :: o6 :: o7 :: o8 :: o9 :: o10 :: o11 :: o12 :: o13 :: some (.dat d) :: r, c⟩ := rfl
theorem w14 {c : Ct} {r : List (Option SC)} {d : D} {o0 o1 o2 o3 o4 o5 o6 o7 o8 o9 o10 o11 o12 o13 : Option SC} {Q : SV → Gm → Prop} : dVar 14 ⟨o0 :: o1 :: o2 :: o3 :: o4 :: o5 :: o6 :: o7 :: o8 :: o9 :: o10 :: o11 :: o12 :: o13 :: some (.own d) :: r, c⟩ Q = Q (.bor 14) ⟨o0 :: o1 :: o2 :: o3 :: o4 :: o5 :: o6 :: o7 :: o8 :: o9 :: o10 :: o11 :: o12 :: o13 :: some (.own d) :: r, c⟩ := rfl
theorem n14 {c : Ct} {r : List (Option SC)} {d : D} {o : Option SC} {o0 o1 o2 o3 o4 o5 o6 o7 o8 o9 o10 o11 o12 o13 : Option SC} {Q : Gm → Prop} : dgName 14 (.dat d) ⟨o0 :: o1 :: o2 :: o3 :: o4 :: o5 :: o6 :: o7 :: o8 :: o9 :: o10 :: o11 :: o12 :: o13 :: o :: r, c⟩ Q = Q ⟨o0 :: o1 :: o2 :: o3 :: o4 :: o5 :: o6 :: o7 :: o8 :: o9 :: o10 :: o11 :: o12 :: o13 :: some (.dat d) :: r, c⟩ := rfl
theorem m14 {c : Ct} {r : List (Option SC)} {d : D} {o : Option SC} {o0 o1 o2 o3 o4 o5 o6 o7 o8 o9 o10 o11 o12 o13 : Option SC} {Q : Gm → Prop} : dgName 14 (.new d) ⟨o0 :: o1 :: o2 :: o3 :: o4 :: o5 :: o6 :: o7 :: o8 :: o9 :: o10 :: o11 :: o12 :: o13 :: o :: r, c⟩ Q = Q ⟨o0 :: o1 :: o2 :: o3 :: o4 :: o5 :: o6 :: o7 :: o8 :: o9 :: o10 :: o11 :: o12 :: o13 :: some (.own d) :: r, c⟩ := rfl
theorem sb14 {c : Ct} {r : List (Option SC)} {d : D} {o0 o1 o2 o3 o4 o5 o6 o7 o8 o9 o10 o11 o12 o13 : Option SC} {f : D → Prop} : see ⟨o0 :: o1 :: o2 :: o3 :: o4 :: o5 :: o6 :: o7 :: o8 :: o9 :: o10 :: o11 :: o12 :: o13 :: some (.own d) :: r, c⟩ (.bor 14) f = f d := rfl
theorem fb14 {c : Ct} {r : List (Option SC)} {d : D} {o0 o1 o2 o3 o4 o5 o6 o7 o8 o9 o10 o11 o12 o13 : Option SC} {f : D → Gm → Prop} : frz ⟨o0 :: o1 :: o2 :: o3 :: o4 :: o5 :: o6 :: o7 :: o8 :: o9 :: o10 :: o11 :: o12 :: o13 :: some (.own d) :: r, c⟩ (.bor 14) f = f d ⟨o0 :: o1 :: o2 :: o3 :: o4 :: o5 :: o6 :: o7 :: o8 :: o9 :: o10 :: o11 :: o12 :: o13 :: some (.dat d) :: r, c⟩ := rfl
theorem rb14 {c : Ct} {r : List (Option SC)} {d : D} {o0 o1 o2 o3 o4 o5 o6 o7 o8 o9 o10 o11 o12 o13 : Option SC} {f : SV → Prop} : rtS ⟨o0 :: o1 :: o2 :: o3 :: o4 :: o5 :: o6 :: o7 :: o8 :: o9 :: o10 :: o11 :: o12 :: o13 :: some (.own d) :: r, c⟩ (.bor 14) f = f (.new d) := rfl
theorem v15 {c : Ct} {r : List (Option SC)} {d : D} {o0 o1 o2 o3 o4 o5 o6 o7 o8 o9 o10 o11 o12 o13 o14 : Option SC} {Q : SV → Gm → Prop} : dVar 15 ⟨o0 :: o1 :: o2 :: o3 :: o4 :: o5 :: o6 :: o7 :: o8 :: o9 :: o10 :: o11 :: o12 :: o13 :: o14 :: some (.dat d) :: r, c⟩ Q = Q (.dat d) ⟨o0 :: o1 :: o2 :: o3 :: o4 :: o5 :: o6 :: o7 :: o8 :: o9 :: o10 :: o11 :: o12 :: o13 :: o14 :: some (.dat d) :: r, c⟩ := rfl
theorem w15 {c : Ct} {r : List (Option SC)} {d : D} {o0 o1 o2 o3 o4 o5 o6 o7 o8 o9 o10 o11 o12 o13 o14 : Option SC} {Q : SV → Gm → Prop} : dVar 15 ⟨o0 :: o1 :: o2 :: o3 :: o4 :: o5 :: o6 :: o7 :: o8 :: o9 :: o10 :: o11 :: o12 :: o13 :: o14 :: some (.own d) :: r, c⟩ Q = Q (.bor 15) ⟨o0 :: o1 :: o2 :: o3 :: o4 :: o5 :: o6 :: o7 :: o8 :: o9 :: o10 :: o11 :: o12 :: o13 :: o14 :: some (.own d) :: r, c⟩ := rfl
theorem n15 {c : Ct} {r : List (Option SC)} {d : D} {o : Option SC} {o0 o1 o2 o3 o4 o5 o6 o7 o8 o9 o10 o11 o12 o13 o14 : Option SC} {Q : Gm → Prop} : dgName 15 (.dat d) ⟨o0 :: o1 :: o2 :: o3 :: o4 :: o5 :: o6 :: o7 :: o8 :: o9 :: o10 :: o11 :: o12 :: o13 :: o14 :: o :: r, c⟩ Q = Q ⟨o0 :: o1 :: o2 :: o3 :: o4 :: o5 :: o6 :: o7 :: o8 :: o9 :: o10 :: o11 :: o12 :: o13 :: o14 :: some (.dat d) :: r, c⟩ := rfl
theorem m15 {c : Ct} {r : List (Option SC)} {d : D} {o : Option SC} {o0 o1 o2 o3 o4 o5 o6 o7 o8 o9 o10 o11 o12 o13 o14 : Option SC} {Q : Gm → Prop} : dgName 15 (.new d) ⟨o0 :: o1 :: o2 :: o3 :: o4 :: o5 :: o6 :: o7 :: o8 :: o9 :: o10 :: o11 :: o12 :: o13 :: o14 :: o :: r, c⟩ Q = Q ⟨o0 :: o1 :: o2 :: o3 :: o4 :: o5 :: o6 :: o7 :: o8 :: o9 :: o10 :: o11 :: o12 :: o13 :: o14 :: some (.own d) :: r, c⟩ := rfl
theorem sb15 {c : Ct} {r : List (Option SC)} {d : D} {o0 o1 o2 o3 o4 o5 o6 o7 o8 o9 o10 o11 o12 o13 o14 : Option SC} {f : D → Prop} : see ⟨o0 :: o1 :: o2 :: o3 :: o4 :: o5 :: o6 :: o7 :: o8 :: o9 :: o10 :: o11 :: o12 :: o13 :: o14 :: some (.own d) :: r, c⟩ (.bor 15) f = f d := rfl
theorem fb15 {c : Ct} {r : List (Option SC)} {d : D} {o0 o1 o2 o3 o4 o5 o6 o7 o8 o9 o10 o11 o12 o13 o14 : Option SC} {f : D → Gm → Prop} : frz ⟨o0 :: o1 :: o2 :: o3 :: o4 :: o5 :: o6 :: o7 :: o8 :: o9 :: o10 :: o11 :: o12 :: o13 :: o14 :: some (.own d) :: r, c⟩ (.bor 15) f = f d ⟨o0 :: o1 :: o2 :: o3 :: o4 :: o5 :: o6 :: o7 :: o8 :: o9 :: o10 :: o11 :: o12 :: o13 :: o14 :: some (.dat d) :: r, c⟩ := rfl
theorem rb15 {c : Ct} {r : List (Option SC)} {d : D} {o0 o1 o2 o3 o4 o5 o6 o7 o8 o9 o10 o11 o12 o13 o14 : Option SC} {f : SV → Prop} : rtS ⟨o0 :: o1 :: o2 :: o3 :: o4 :: o5 :: o6 :: o7 :: o8 :: o9 :: o10 :: o11 :: o12 :: o13 :: o14 :: some (.own d) :: r, c⟩ (.bor 15) f = f (.new d) := rfl
theorem v16 {c : Ct} {r : List (Option SC)} {d : D} {o0 o1 o2 o3 o4 o5 o6 o7 o8 o9 o10 o11 o12 o13 o14 o15 : Option SC} {Q : SV → Gm → Prop} : dVar 16 ⟨o0 :: o1 :: o2 :: o3 :: o4 :: o5 :: o6 :: o7 :: o8 :: o9 :: o10 :: o11 :: o12 :: o13 :: o14 :: o15 :: some (.dat d) :: r, c⟩ Q = Q (.dat d) ⟨o0 :: o1 :: o2 :: o3 :: o4 :: o5 :: o6 :: o7 :: o8 :: o9 :: o10 :: o11 :: o12 :: o13 :: o14 :: o15 :: some (.dat d) :: r, c⟩ := rfl
theorem w16 {c : Ct} {r : List (Option SC)} {d : D} {o0 o1 o2 o3 o4 o5 o6 o7 o8 o9 o10 o11 o12 o13 o14 o15 : Option SC} {Q : SV → Gm → Prop} : dVar 16 ⟨o0 :: o1 :: o2 :: o3 :: o4 :: o5 :: o6 :: o7 :: o8 :: o9 :: o10 :: o11 :: o12 :: o13 :: o14 :: o15 :: some (.own d) :: r, c⟩ Q = Q (.bor 16) ⟨o0 :: o1 :: o2 :: o3 :: o4 :: o5 :: o6 :: o7 :: o8 :: o9 :: o10 :: o11 :: o12 :: o13 :: o14 :: o15 :: some (.own d) :: r, c⟩ := rfl
theorem n16 {c : Ct} {r : List (Option SC)} {d : D} {o : Option SC} {o0 o1 o2 o3 o4 o5 o6 o7 o8 o9 o10 o11 o12 o13 o14 o15 : Option SC} {Q : Gm → Prop} : dgName 16 (.dat d) ⟨o0 :: o1 :: o2 :: o3 :: o4 :: o5 :: o6 :: o7 :: o8 :: o9 :: o10 :: o11 :: o12 :: o13 :: o14 :: o15 :: o :: r, c⟩ Q = Q ⟨o0 :: o1 :: o2 :: o3 :: o4 :: o5 :: o6 :: o7 :: o8 :: o9 :: o10 :: o11 :: o12 :: o13 :: o14 :: o15 :: some (.dat d) :: r, c⟩ := rfl
theorem m16 {c : Ct} {r : List (Option SC)} {d : D} {o : Option SC} {o0 o1 o2 o3 o4 o5 o6 o7 o8 o9 o10 o11 o12 o13 o14 o15 : Option SC} {Q : Gm → Prop} : dgName 16 (.new d) ⟨o0 :: o1 :: o2 :: o3 :: o4 :: o5 :: o6 :: o7 :: o8 :: o9 :: o10 :: o11 :: o12 :: o13 :: o14 :: o15 :: o :: r, c⟩ Q = Q ⟨o0 :: o1 :: o2 :: o3 :: o4 :: o5 :: o6 :: o7 :: o8 :: o9 :: o10 :: o11 :: o12 :: o13 :: o14 :: o15 :: some (.own d) :: r, c⟩ := rfl
theorem sb16 {c : Ct} {r : List (Option SC)} {d : D} {o0 o1 o2 o3 o4 o5 o6 o7 o8 o9 o10 o11 o12 o13 o14 o15 : Option SC} {f : D → Prop} : see ⟨o0 :: o1 :: o2 :: o3 :: o4 :: o5 :: o6 :: o7 :: o8 :: o9 :: o10 :: o11 :: o12 :: o13 :: o14 :: o15 :: some (.own d) :: r, c⟩ (.bor 16) f = f d := rfl
theorem fb16 {c : Ct} {r : List (Option SC)} {d : D} {o0 o1 o2 o3 o4 o5 o6 o7 o8 o9 o10 o11 o12 o13 o14 o15 : Option SC} {f : D → Gm → Prop} : frz ⟨o0 :: o1 :: o2 :: o3 :: o4 :: o5 :: o6 :: o7 :: o8 :: o9 :: o10 :: o11 :: o12 :: o13 :: o14 :: o15 :: some (.own d) :: r, c⟩ (.bor 16) f = f d ⟨o0 :: o1 :: o2 :: o3 :: o4 :: o5 :: o6 :: o7 :: o8 :: o9 :: o10 :: o11 :: o12 :: o13 :: o14 :: o15 :: some (.dat d) :: r, c⟩ := rfl
theorem rb16 {c : Ct} {r : List (Option SC)} {d : D} {o0 o1 o2 o3 o4 o5 o6 o7 o8 o9 o10 o11 o12 o13 o14 o15 : Option SC} {f : SV → Prop} : rtS ⟨o0 :: o1 :: o2 :: o3 :: o4 :: o5 :: o6 :: o7 :: o8 :: o9 :: o10 :: o11 :: o12 :: o13 :: o14 :: o15 :: some (.own d) :: r, c⟩ (.bor 16) f = f (.new d) := rfl
theorem v17 {c : Ct} {r : List (Option SC)} {d : D} {o0 o1 o2 o3 o4 o5 o6 o7 o8 o9 o10 o11 o12 o13 o14 o15 o16 : Option SC} {Q : SV → Gm → Prop} : dVar 17 ⟨o0 :: o1 :: o2 :: o3 :: o4 :: o5 :: o6 :: o7 :: o8 :: o9 :: o10 :: o11 :: o12 :: o13 :: o14 :: o15 :: o16 :: some (.dat d) :: r, c⟩ Q = Q (.dat d) ⟨o0 :: o1 :: o2 :: o3 :: o4 :: o5 :: o6 :: o7 :: o8 :: o9 :: o10 :: o11 :: o12 :: o13 :: o14 :: o15 :: o16 :: some (.dat d) :: r, c⟩ := rfl
theorem w17 {c : Ct} {r : List (Option SC)} {d : D} {o0 o1 o2 o3 o4 o5 o6 o7 o8 o9 o10 o11 o12 o13 o14 o15 o16 : Option SC} {Q : SV → Gm → Prop} : dVar 17 ⟨o0 :: o1 :: o2 :: o3 :: o4 :: o5 :: o6 :: o7 :: o8 :: o9 :: o10 :: o11 :: o12 :: o13 :: o14 :: o15 :: o16 :: some (.own d) :: r, c⟩ Q = Q (.bor 17) ⟨o0 :: o1 :: o2 :: o3 :: o4 :: o5 :: o6 :: o7 :: o8 :: o9 :: o10 :: o11 :: o12 :: o13 :: o14 :: o15 :: o16 :: some (.own d) :: r, c⟩ := rfl
theorem n17 {c : Ct} {r : List (Option SC)} {d : D} {o : Option SC} {o0 o1 o2 o3 o4 o5 o6 o7 o8 o9 o10 o11 o12 o13 o14 o15 o16 : Option SC} {Q : Gm → Prop} : dgName 17 (.dat d) ⟨o0 :: o1 :: o2 :: o3 :: o4 :: o5 :: o6 :: o7 :: o8 :: o9 :: o10 :: o11 :: o12 :: o13 :: o14 :: o15 :: o16 :: o :: r, c⟩ Q = Q ⟨o0 :: o1 :: o2 :: o3 :: o4 :: o5 :: o6 :: o7 :: o8 :: o9 :: o10 :: o11 :: o12 :: o13 :: o14 :: o15 :: o16 :: some (.dat d) :: r, c⟩ := rfl
theorem m17 {c : Ct} {r : List (Option SC)} {d : D} {o : Option SC} {o0 o1 o2 o3 o4 o5 o6 o7 o8 o9 o10 o11 o12 o13 o14 o15 o16 : Option SC} {Q : Gm → Prop} : dgName 17 (.new d) ⟨o0 :: o1 :: o2 :: o3 :: o4 :: o5 :: o6 :: o7 :: o8 :: o9 :: o10 :: o11 :: o12 :: o13 :: o14 :: o15 :: o16 :: o :: r, c⟩ Q = Q ⟨o0 :: o1 :: o2 :: o3 :: o4 :: o5 :: o6 :: o7 :: o8 :: o9 :: o10 :: o11 :: o12 :: o13 :: o14 :: o15 :: o16 :: some (.own d) :: r, c⟩ := rfl
theorem sb17 {c : Ct} {r : List (Option SC)} {d : D} {o0 o1 o2 o3 o4 o5 o6 o7 o8 o9 o10 o11 o12 o13 o14 o15 o16 : Option SC} {f : D → Prop} : see ⟨o0 :: o1 :: o2 :: o3 :: o4 :: o5 :: o6 :: o7 :: o8 :: o9 :: o10 :: o11 :: o12 :: o13 :: o14 :: o15 :: o16 :: some (.own d) :: r, c⟩ (.bor 17) f = f d := rfl
theorem fb17 {c : Ct} {r : List (Option SC)} {d : D} {o0 o1 o2 o3 o4 o5 o6 o7 o8 o9 o10 o11 o12 o13 o14 o15 o16 : Option SC} {f : D → Gm → Prop} : frz ⟨o0 :: o1 :: o2 :: o3 :: o4 :: o5 :: o6 :: o7 :: o8 :: o9 :: o10 :: o11 :: o12 :: o13 :: o14 :: o15 :: o16 :: some (.own d) :: r, c⟩ (.bor 17) f = f d ⟨o0 :: o1 :: o2 :: o3 :: o4 :: o5 :: o6 :: o7 :: o8 :: o9 :: o10 :: o11 :: o12 :: o13 :: o14 :: o15 :: o16 :: some (.dat d) :: r, c⟩ := rfl
theorem rb17 {c : Ct} {r : List (Option SC)} {d : D} {o0 o1 o2 o3 o4 o5 o6 o7 o8 o9 o10 o11 o12 o13 o14 o15 o16 : Option SC} {f : SV → Prop} : rtS ⟨o0 :: o1 :: o2 :: o3 :: o4 :: o5 :: o6 :: o7 :: o8 :: o9 :: o10 :: o11 :: o12 :: o13 :: o14 :: o15 :: o16 :: some (.own d) :: r, c⟩ (.bor 17) f = f (.new d) := rfl
theorem v18 {c : Ct} {r : List (Option SC)} {d : D} {o0 o1 o2 o3 o4 o5 o6 o7 o8 o9 o10 o11 o12 o13 o14 o15 o16 o17 : Option SC} {Q : SV → Gm → Prop} : dVar 18 ⟨o0 :: o1 :: o2 :: o3 :: o4 :: o5 :: o6 :: o7 :: o8 :: o9 :: o10 :: o11 :: o12 :: o13 :: o14 :: o15 :: o16 :: o17 :: some (.dat d) :: r, c⟩ Q = Q (.dat d) ⟨o0 :: o1 :: o2 :: o3 :: o4 :: o5 :: o6 :: o7 :: o8 :: o9 :: o10 :: o11 :: o12 :: o13 :: o14 :: o15 :: o16 :: o17 :: some (.dat d) :: r, c⟩ := rfl
theorem w18 {c : Ct} {r : List (Option SC)} {d : D} {o0 o1 o2 o3 o4 o5 o6 o7 o8 o9 o10 o11 o12 o13 o14 o15 o16 o17 : Option SC} {Q : SV → Gm → Prop} : dVar 18 ⟨o0 :: o1 :: o2 :: o3 :: o4 :: o5 :: o6 :: o7 :: o8 :: o9 :: o10 :: o11 :: o12 :: o13 :: o14 :: o15 :: o16 :: o17 :: some (.own d) :: r, c⟩ Q = Q (.bor 18) ⟨o0 :: o1 :: o2 :: o3 :: o4 :: o5 :: o6 :: o7 :: o8 :: o9 :: o10 :: o11 :: o12 :: o13 :: o14 :: o15 :: o16 :: o17 :: some (.own d) :: r, c⟩ := rfl
theorem n18 {c : Ct} {r : List (Option SC)} {d : D} {o : Option SC} {o0 o1 o2 o3 o4 o5 o6 o7 o8 o9 o10 o11 o12 o13 o14 o15 o16 o17 : Option SC} {Q : Gm → Prop} : dgName 18 (.dat d) ⟨o0 :: o1 :: o2 :: o3 :: o4 :: o5 :: o6 :: o7 :: o8 :: o9 :: o10 :: o11 :: o12 :: o13 :: o14 :: o15 :: o16 :: o17 :: o :: r, c⟩ Q = Q ⟨o0 :: o1 :: o2 :: o3 :: o4 :: o5 :: o6 :: o7 :: o8 :: o9 :: o10 :: o11 :: o12 :: o13 :: o14 :: o15 :: o16 :: o17 :: some (.dat d) :: r, c⟩ := rfl
theorem m18 {c : Ct} {r : List (Option SC)} {d : D} {o : Option SC} {o0 o1 o2 o3 o4 o5 o6 o7 o8 o9 o10 o11 o12 o13 o14 o15 o16 o17 : Option SC} {Q : Gm → Prop} : dgName 18 (.new d) ⟨o0 :: o1 :: o2 :: o3 :: o4 :: o5 :: o6 :: o7 :: o8 :: o9 :: o10 :: o11 :: o12 :: o13 :: o14 :: o15 :: o16 :: o17 :: o :: r, c⟩ Q = Q ⟨o0 :: o1 :: o2 :: o3 :: o4 :: o5 :: o6 :: o7 :: o8 :: o9 :: o10 :: o11 :: o12 :: o13 :: o14 :: o15 :: o16 :: o17 :: some (.own d) :: r, c⟩ := rfl
theorem sb18 {c : Ct} {r : List (Option SC)} {d : D} {o0 o1 o2 o3 o4 o5 o6 o7 o8 o9 o10 o11 o12 o13 o14 o15 o16 o17 : Option SC} {f : D → Prop} : see ⟨o0 :: o1 :: o2 :: o3 :: o4 :: o5 :: o6 :: o7 :: o8 :: o9 :: o10 :: o11 :: o12 :: o13 :: o14 :: o15 :: o16 :: o17 :: some (.own d) :: r, c⟩ (.bor 18) f = f d := rfl
theorem fb18 {c : Ct} {r : List (Option SC)} {d : D} {o0 o1 o2 o3 o4 o5 o6 o7 o8 o9 o10 o11 o12 o13 o14 o15 o16 o17 : Option SC} {f : D → Gm → Prop} : frz ⟨o0 :: o1 :: o2 :: o3 :: o4 :: o5 :: o6 :: o7 :: o8 :: o9 :: o10 :: o11 :: o12 :: o13 :: o14 :: o15 :: o16 :: o17 :: some (.own d) :: r, c⟩ (.bor 18) f = f d ⟨o0 :: o1 :: o2 :: o3 :: o4 :: o5 :: o6 :: o7 :: o8 :: o9 :: o10 :: o11 :: o12 :: o13 :: o14 :: o15 :: o16 :: o17 :: some (.dat d) :: r, c⟩ := rfl
theorem rb18 {c : Ct} {r : List (Option SC)} {d : D} {o0 o1 o2 o3 o4 o5 o6 o7 o8 o9 o10 o11 o12 o13 o14 o15 o16 o17 : Option SC} {f : SV → Prop} : rtS ⟨o0 :: o1 :: o2 :: o3 :: o4 :: o5 :: o6 :: o7 :: o8 :: o9 :: o10 :: o11 :: o12 :: o13 :: o14 :: o15 :: o16 :: o17 :: some (.own d) :: r, c⟩ (.bor 18) f = f (.new d) := rfl
theorem v19 {c : Ct} {r : List (Option SC)} {d : D} {o0 o1 o2 o3 o4 o5 o6 o7 o8 o9 o10 o11 o12 o13 o14 o15 o16 o17 o18 : Option SC} {Q : SV → Gm → Prop} : dVar 19 ⟨o0 :: o1 :: o2 :: o3 :: o4 :: o5 :: o6 :: o7 :: o8 :: o9 :: o10 :: o11 :: o12 :: o13 :: o14 :: o15 :: o16 :: o17 :: o18 :: some (.dat d) :: r, c⟩ Q = Q (.dat d) ⟨o0 :: o1 :: o2 :: o3 :: o4 :: o5 :: o6 :: o7 :: o8 :: o9 :: o10 :: o11 :: o12 :: o13 :: o14 :: o15 :: o16 :: o17 :: o18 :: some (.dat d) :: r, c⟩ := rfl
theorem w19 {c : Ct} {r : List (Option SC)} {d : D} {o0 o1 o2 o3 o4 o5 o6 o7 o8 o9 o10 o11 o12 o13 o14 o15 o16 o17 o18 : Option SC} {Q : SV → Gm → Prop} : dVar 19 ⟨o0 :: o1 :: o2 :: o3 :: o4 :: o5 :: o6 :: o7 :: o8 :: o9 :: o10 :: o11 :: o12 :: o13 :: o14 :: o15 :: o16 :: o17 :: o18 :: some (.own d) :: r, c⟩ Q = Q (.bor 19) ⟨o0 :: o1 :: o2 :: o3 :: o4 :: o5 :: o6 :: o7 :: o8 :: o9 :: o10 :: o11 :: o12 :: o13 :: o14 :: o15 :: o16 :: o17 :: o18 :: some (.own d) :: r, c⟩ := rfl
theorem n19 {c : Ct} {r : List (Option SC)} {d : D} {o : Option SC} {o0 o1 o2 o3 o4 o5 o6 o7 o8 o9 o10 o11 o12 o13 o14 o15 o16 o17 o18 : Option SC} {Q : Gm → Prop} : dgName 19 (.dat d) ⟨o0 :: o1 :: o2 :: o3 :: o4 :: o5 :: o6 :: o7 :: o8 :: o9 :: o10 :: o11 :: o12 :: o13 :: o14 :: o15 :: o16 :: o17 :: o18 :: o :: r, c⟩ Q = Q ⟨o0 :: o1 :: o2 :: o3 :: o4 :: o5 :: o6 :: o7 :: o8 :: o9 :: o10 :: o11 :: o12 :: o13 :: o14 :: o15 :: o16 :: o17 :: o18 :: some (.dat d) :: r, c⟩ := rfl
theorem m19 {c : Ct} {r : List (Option SC)} {d : D} {o : Option SC} {o0 o1 o2 o3 o4 o5 o6 o7 o8 o9 o10 o11 o12 o13 o14 o15 o16 o17 o18 : Option SC} {Q : Gm → Prop} : dgName 19 (.new d) ⟨o0 :: o1 :: o2 :: o3 :: o4 :: o5 :: o6 :: o7 :: o8 :: o9 :: o10 :: o11 :: o12 :: o13 :: o14 :: o15 :: o16 :: o17 :: o18 :: o :: r, c⟩ Q = Q ⟨o0 :: o1 :: o2 :: o3 :: o4 :: o5 :: o6 :: o7 :: o8 :: o9 :: o10 :: o11 :: o12 :: o13 :: o14 :: o15 :: o16 :: o17 :: o18 :: some (.own d) :: r, c⟩ := rfl
theorem sb19 {c : Ct} {r : List (Option SC)} {d : D} {o0 o1 o2 o3 o4 o5 o6 o7 o8 o9 o10 o11 o12 o13 o14 o15 o16 o17 o18 : Option SC} {f : D → Prop} : see ⟨o0 :: o1 :: o2 :: o3 :: o4 :: o5 :: o6 :: o7 :: o8 :: o9 :: o10 :: o11 :: o12 :: o13 :: o14 :: o15 :: o16 :: o17 :: o18 :: some (.own d) :: r, c⟩ (.bor 19) f = f d := rfl
theorem fb19 {c : Ct} {r : List (Option SC)} {d : D} {o0 o1 o2 o3 o4 o5 o6 o7 o8 o9 o10 o11 o12 o13 o14 o15 o16 o17 o18 : Option SC} {f : D → Gm → Prop} : frz ⟨o0 :: o1 :: o2 :: o3 :: o4 :: o5 :: o6 :: o7 :: o8 :: o9 :: o10 :: o11 :: o12 :: o13 :: o14 :: o15 :: o16 :: o17 :: o18 :: some (.own d) :: r, c⟩ (.bor 19) f = f d ⟨o0 :: o1 :: o2 :: o3 :: o4 :: o5 :: o6 :: o7 :: o8 :: o9 :: o10 :: o11 :: o12 :: o13 :: o14 :: o15 :: o16 :: o17 :: o18 :: some (.dat d) :: r, c⟩ := rfl
theorem rb19 {c : Ct} {r : List (Option SC)} {d : D} {o0 o1 o2 o3 o4 o5 o6 o7 o8 o9 o10 o11 o12 o13 o14 o15 o16 o17 o18 : Option SC} {f : SV → Prop} : rtS ⟨o0 :: o1 :: o2 :: o3 :: o4 :: o5 :: o6 :: o7 :: o8 :: o9 :: o10 :: o11 :: o12 :: o13 :: o14 :: o15 :: o16 :: o17 :: o18 :: some (.own d) :: r, c⟩ (.bor 19) f = f (.new d) := rfl
theorem v20 {c : Ct} {r : List (Option SC)} {d : D} {o0 o1 o2 o3 o4 o5 o6 o7 o8 o9 o10 o11 o12 o13 o14 o15 o16 o17 o18 o19 : Option SC} {Q : SV → Gm → Prop} : dVar 20 ⟨o0 :: o1 :: o2 :: o3 :: o4 :: o5 :: o6 :: o7 :: o8 :: o9 :: o10 :: o11 :: o12 :: o13 :: o14 :: o15 :: o16 :: o17 :: o18 :: o19 :: some (.dat d) :: r, c⟩ Q = Q (.dat d) ⟨o0 :: o1 :: o2 :: o3 :: o4 :: o5 :: o6 :: o7 :: o8 :: o9 :: o10 :: o11 :: o12 :: o13 :: o14 :: o15 :: o16 :: o17 :: o18 :: o19 :: some (.dat d) :: r, c⟩ := rfl
theorem w20 {c : Ct} {r : List (Option SC)} {d : D} {o0 o1 o2 o3 o4 o5 o6 o7 o8 o9 o10 o11 o12 o13 o14 o15 o16 o17 o18 o19 : Option SC} {Q : SV → Gm → Prop} : dVar 20 ⟨o0 :: o1 :: o2 :: o3 :: o4 :: o5 :: o6 :: o7 :: o8 :: o9 :: o10 :: o11 :: o12 :: o13 :: o14 :: o15 :: o16 :: o17 :: o18 :: o19 :: some (.own d) :: r, c⟩ Q = Q (.bor 20) ⟨o0 :: o1 :: o2 :: o3 :: o4 :: o5 :: o6 :: o7 :: o8 :: o9 :: o10 :: o11 :: o12 :: o13 :: o14 :: o15 :: o16 :: o17 :: o18 :: o19 :: some (.own d) :: r, c⟩ := rfl
theorem n20 {c : Ct} {r : List (Option SC)} {d : D} {o : Option SC} {o0 o1 o2 o3 o4 o5 o6 o7 o8 o9 o10 o11 o12 o13 o14 o15 o16 o17 o18 o19 : Option SC} {Q : Gm → Prop} : dgName 20 (.dat d) ⟨o0 :: o1 :: o2 :: o3 :: o4 :: o5 :: o6 :: o7 :: o8 :: o9 :: o10 :: o11 :: o12 :: o13 :: o14 :: o15 :: o16 :: o17 :: o18 :: o19 :: o :: r, c⟩ Q = Q ⟨o0 :: o1 :: o2 :: o3 :: o4 :: o5 :: o6 :: o7 :: o8 :: o9 :: o10 :: o11 :: o12 :: o13 :: o14 :: o15 :: o16 :: o17 :: o18 :: o19 :: some (.dat d) :: r, c⟩ := rfl
theorem m20 {c : Ct} {r : List (Option SC)} {d : D} {o : Option SC} {o0 o1 o2 o3 o4 o5 o6 o7 o8 o9 o10 o11 o12 o13 o14 o15 o16 o17 o18 o19 : Option SC} {Q : Gm → Prop} : dgName 20 (.new d) ⟨o0 :: o1 :: o2 :: o3 :: o4 :: o5 :: o6 :: o7 :: o8 :: o9 :: o10 :: o11 :: o12 :: o13 :: o14 :: o15 :: o16 :: o17 :: o18 :: o19 :: o :: r, c⟩ Q = Q ⟨o0 :: o1 :: o2 :: o3 :: o4 :: o5 :: o6 :: o7 :: o8 :: o9 :: o10 :: o11 :: o12 :: o13 :: o14 :: o15 :: o16 :: o17 :: o18 :: o19 :: some (.own d) :: r, c⟩ := rfl
theorem sb20 {c : Ct} {r : List (Option SC)} {d : D} {o0 o1 o2 o3 o4 o5 o6 o7 o8 o9 o10 o11 o12 o13 o14 o15 o16 o17 o18 o19 : Option SC} {f : D → Prop} : see ⟨o0 :: o1 :: o2 :: o3 :: o4 :: o5 :: o6 :: o7 :: o8 :: o9 :: o10 :: o11 :: o12 :: o13 :: o14 :: o15 :: o16 :: o17 :: o18 :: o19 :: some (.own d) :: r, c⟩ (.bor 20) f = f d := rfl
theorem fb20 {c : Ct} {r : List (Option SC)} {d : D} {o0 o1 o2 o3 o4 o5 o6 o7 o8 o9 o10 o11 o12 o13 o14 o15 o16 o17 o18 o19 : Option SC} {f : D → Gm → Prop} : frz ⟨o0 :: o1 :: o2 :: o3 :: o4 :: o5 :: o6 :: o7 :: o8 :: o9 :: o10 :: o11 :: o12 :: o13 :: o14 :: o15 :: o16 :: o17 :: o18 :: o19 :: some (.own d) :: r, c⟩ (.bor 20) f = f d ⟨o0 :: o1 :: o2 :: o3 :: o4 :: o5 :: o6 :: o7 :: o8 :: o9 :: o10 :: o11 :: o12 :: o13 :: o14 :: o15 :: o16 :: o17 :: o18 :: o19 :: some (.dat d) :: r, c⟩ := rfl
theorem rb20 {c : Ct} {r : List (Option SC)} {d : D} {o0 o1 o2 o3 o4 o5 o6 o7 o8 o9 o10 o11 o12 o13 o14 o15 o16 o17 o18 o19 : Option SC} {f : SV → Prop} : rtS ⟨o0 :: o1 :: o2 :: o3 :: o4 :: o5 :: o6 :: o7 :: o8 :: o9 :: o10 :: o11 :: o12 :: o13 :: o14 :: o15 :: o16 :: o17 :: o18 :: o19 :: some (.own d) :: r, c⟩ (.bor 20) f = f (.new d) := rfl
theorem v21 {c : Ct} {r : List (Option SC)} {d : D} {o0 o1 o2 o3 o4 o5 o6 o7 o8 o9 o10 o11 o12 o13 o14 o15 o16 o17 o18 o19 o20 : Option SC} {Q : SV → Gm → Prop} : dVar 21 ⟨o0 :: o1 :: o2 :: o3 :: o4 :: o5 :: o6 :: o7 :: o8 :: o9 :: o10 :: o11 :: o12 :: o13 :: o14 :: o15 :: o16 :: o17 :: o18 :: o19 :: o20 :: some (.dat d) :: r, c⟩ Q = Q (.dat d) ⟨o0 :: o1 :: o2 :: o3 :: o4 :: o5 :: o6 :: o7 :: o8 :: o9 :: o10 :: o11 :: o12 :: o13 :: o14 :: o15 :: o16 :: o17 :: o18 :: o19 :: o20 :: some (.dat d) :: r, c⟩ := rfl
theorem w21 {c : Ct} {r : List (Option SC)} {d : D} {o0 o1 o2 o3 o4 o5 o6 o7 o8 o9 o10 o11 o12 o13 o14 o15 o16 o17 o18 o19 o20 : Option SC} {Q : SV → Gm → Prop} : dVar 21 ⟨o0 :: o1 :: o2 :: o3 :: o4 :: o5 :: o6 :: o7 :: o8 :: o9 :: o10 :: o11 :: o12 :: o13 :: o14 :: o15 :: o16 :: o17 :: o18 :: o19 :: o20 :: some (.own d) :: r, c⟩ Q = Q (.bor 21) ⟨o0 :: o1 :: o2 :: o3 :: o4 :: o5 :: o6 :: o7 :: o8 :: o9 :: o10 :: o11 :: o12 :: o13 :: o14 :: o15 :: o16 :: o17 :: o18 :: o19 :: o20 :: some (.own d) :: r, c⟩ := rfl
theorem n21 {c : Ct} {r : List (Option SC)} {d : D} {o : Option SC} {o0 o1 o2 o3 o4 o5 o6 o7 o8 o9 o10 o11 o12 o13 o14 o15 o16 o17 o18 o19 o20 : Option SC} {Q : Gm → Prop} : dgName 21 (.dat d) ⟨o0 :: o1 :: o2 :: o3 :: o4 :: o5 :: o6 :: o7 :: o8 :: o9 :: o10 :: o11 :: o12 :: o13 :: o14 :: o15 :: o16 :: o17 :: o18 :: o19 :: o20 :: o :: r, c⟩ Q = Q ⟨o0 :: o1 :: o2 :: o3 :: o4 :: o5 :: o6 :: o7 :: o8 :: o9 :: o10 :: o11 :: o12 :: o13 :: o14 :: o15 :: o16 :: o17 :: o18 :: o19 :: o20 :: some (.dat d) :: r, c⟩ := rfl
theorem m21 {c : Ct} {r : List (Option SC)} {d : D} {o : Option SC} {o0 o1 o2 o3 o4 o5 o6 o7 o8 o9 o10 o11 o12 o13 o14 o15 o16 o17 o18 o19 o20 : Option SC} {Q : Gm → Prop} : dgName 21 (.new d) ⟨o0 :: o1 :: o2 :: o3 :: o4 :: o5 :: o6 :: o7 :: o8 :: o9 :: o10 :: o11 :: o12 :: o13 :: o14 :: o15 :: o16 :: o17 :: o18 :: o19 :: o20 :: o :: r, c⟩ Q = Q ⟨o0 :: o1 :: o2 :: o3 :: o4 :: o5 :: o6 :: o7 :: o8 :: o9 :: o10 :: o11 :: o12 :: o13 :: o14 :: o15 :: o16 :: o17 :: o18 :: o19 :: o20 :: some (.own d) :: r, c⟩ := rfl
theorem sb21 {c : Ct} {r : List (Option SC)} {d : D} {o0 o1 o2 o3 o4 o5 o6 o7 o8 o9 o10 o11 o12 o13 o14 o15 o16 o17 o18 o19 o20 : Option SC} {f : D → Prop} : see ⟨o0 :: o1 :: o2 :: o3 :: o4 :: o5 :: o6 :: o7 :: o8 :: o9 :: o10 :: o11 :: o12 :: o13 :: o14 :: o15 :: o16 :: o17 :: o18 :: o19 :: o20 :: some (.own d) :: r, c⟩ (.bor 21) f = f d := rfl
theorem fb21 {c : Ct} {r : List (Option SC)} {d : D} {o0 o1 o2 o3 o4 o5 o6 o7 o8 o9 o10 o11 o12 o13 o14 o15 o16 o17 o18 o19 o20 : Option SC} {f : D → Gm → Prop} : frz ⟨o0 :: o1 :: o2 :: o3 :: o4 :: o5 :: o6 :: o7 :: o8 :: o9 :: o10 :: o11 :: o12 :: o13 :: o14 :: o15 :: o16 :: o17 :: o18 :: o19 :: o20 :: some (.own d) :: r, c⟩ (.bor 21) f = f d ⟨o0 :: o1 :: o2 :: o3 :: o4 :: o5 :: o6 :: o7 :: o8 :: o9 :: o10 :: o11 :: o12 :: o13 :: o14 :: o15 :: o16 :: o17 :: o18 :: o19 :: o20 :: some (.dat d) :: r, c⟩ := rfl
theorem rb21 {c : Ct} {r : List (Option SC)} {d : D} {o0 o1 o2 o3 o4 o5 o6 o7 o8 o9 o10 o11 o12 o13 o14 o15 o16 o17 o18 o19 o20 : Option SC} {f : SV → Prop} : rtS ⟨o0 :: o1 :: o2 :: o3 :: o4 :: o5 :: o6 :: o7 :: o8 :: o9 :: o10 :: o11 :: o12 :: o13 :: o14 :: o15 :: o16 :: o17 :: o18 :: o19 :: o20 :: some (.own d) :: r, c⟩ (.bor 21) f = f (.new d) := rfl
theorem v22 {c : Ct} {r : List (Option SC)} {d : D} {o0 o1 o2 o3 o4 o5 o6 o7 o8 o9 o10 o11 o12 o13 o14 o15 o16 o17 o18 o19 o20 o21 : Option SC} {Q : SV → Gm → Prop} : dVar 22 ⟨o0 :: o1 :: o2 :: o3 :: o4 :: o5 :: o6 :: o7 :: o8 :: o9 :: o10 :: o11 :: o12 :: o13 :: o14 :: o15 :: o16 :: o17 :: o18 :: o19 :: o20 :: o21 :: some (.dat d) :: r, c⟩ Q = Q (.dat d) ⟨o0 :: o1 :: o2 :: o3 :: o4 :: o5 :: o6 :: o7 :: o8 :: o9 :: o10 :: o11 :: o12 :: o13 :: o14 :: o15 :: o16 :: o17 :: o18 :: o19 :: o20 :: o21 :: some (.dat d) :: r, c⟩ := rfl
theorem w22 {c : Ct} {r : List (Option SC)} {d : D} {o0 o1 o2 o3 o4 o5 o6 o7 o8 o9 o10 o11 o12 o13 o14 o15 o16 o17 o18 o19 o20 o21 : Option SC} {Q : SV → Gm → Prop} : dVar 22 ⟨o0 :: o1 :: o2 :: o3 :: o4 :: o5 :: o6 :: o7 :: o8 :: o9 :: o10 :: o11 :: o12 :: o13 :: o14 :: o15 :: o16 :: o17 :: o18 :: o19 :: o20 :: o21 :: some (.own d) :: r, c⟩ Q = Q (.bor 22) ⟨o0 :: o1 :: o2 :: o3 :: o4 :: o5 :: o6 :: o7 :: o8 :: o9 :: o10 :: o11 :: o12 :: o13 :: o14 :: o15 :: o16 :: o17 :: o18 :: o19 :: o20 :: o21 :: some (.own d) :: r, c⟩ := rfl
theorem n22 {c : Ct} {r : List (Option SC)} {d : D} {o : Option SC} {o0 o1 o2 o3 o4 o5 o6 o7 o8 o9 o10 o11 o12 o13 o14 o15 o16 o17 o18 o19 o20 o21 : Option SC} {Q : Gm → Prop} : dgName 22 (.dat d) ⟨o0 :: o1 :: o2 :: o3 :: o4 :: o5 :: o6 :: o7 :: o8 :: o9 :: o10 :: o11 :: o12 :: o13 :: o14 :: o15 :: o16 :: o17 :: o18 :: o19 :: o20 :: o21 :: o :: r, c⟩ Q = Q ⟨o0 :: o1 :: o2 :: o3 :: o4 :: o5 :: o6 :: o7 :: o8 :: o9 :: o10 :: o11 :: o12 :: o13 :: o14 :: o15 :: o16 :: o17 :: o18 :: o19 :: o20 :: o21 :: some (.dat d) :: r, c⟩ := rfl
theorem m22 {c : Ct} {r : List (Option SC)} {d : D} {o : Option SC} {o0 o1 o2 o3 o4 o5 o6 o7 o8 o9 o10 o11 o12 o13 o14 o15 o16 o17 o18 o19 o20 o21 : Option SC} {Q : Gm → Prop} : dgName 22 (.new d) ⟨o0 :: o1 :: o2 :: o3 :: o4 :: o5 :: o6 :: o7 :: o8 :: o9 :: o10 :: o11 :: o12 :: o13 :: o14 :: o15 :: o16 :: o17 :: o18 :: o19 :: o20 :: o21 :: o :: r, c⟩ Q = Q ⟨o0 :: o1 :: o2 :: o3 :: o4 :: o5 :: o6 :: o7 :: o8 :: o9 :: o10 :: o11 :: o12 :: o13 :: o14 :: o15 :: o16 :: o17 :: o18 :: o19 :: o20 :: o21 :: some (.own d) :: r, c⟩ := rfl
theorem sb22 {c : Ct} {r : List (Option SC)} {d : D} {o0 o1 o2 o3 o4 o5 o6 o7 o8 o9 o10 o11 o12 o13 o14 o15 o16 o17 o18 o19 o20 o21 : Option SC} {f : D → Prop} : see ⟨o0 :: o1 :: o2 :: o3 :: o4 :: o5 :: o6 :: o7 :: o8 :: o9 :: o10 :: o11 :: o12 :: o13 :: o14 :: o15 :: o16 :: o17 :: o18 :: o19 :: o20 :: o21 :: some (.own d) :: r, c⟩ (.bor 22) f = f d := rfl
theorem fb22 {c : Ct} {r : List (Option SC)} {d : D} {o0 o1 o2 o3 o4 o5 o6 o7 o8 o9 o10 o11 o12 o13 o14 o15 o16 o17 o18 o19 o20 o21 : Option SC} {f : D → Gm → Prop} : frz ⟨o0 :: o1 :: o2 :: o3 :: o4 :: o5 :: o6 :: o7 :: o8 :: o9 :: o10 :: o11 :: o12 :: o13 :: o14 :: o15 :: o16 :: o17 :: o18 :: o19 :: o20 :: o21 :: some (.own d) :: r, c⟩ (.bor 22) f = f d ⟨o0 :: o1 :: o2 :: o3 :: o4 :: o5 :: o6 :: o7 :: o8 :: o9 :: o10 :: o11 :: o12 :: o13 :: o14 :: o15 :: o16 :: o17 :: o18 :: o19 :: o20 :: o21 :: some (.dat d) :: r, c⟩ := rfl
theorem rb22 {c : Ct} {r : List (Option SC)} {d : D} {o0 o1 o2 o3 o4 o5 o6 o7 o8 o9 o10 o11 o12 o13 o14 o15 o16 o17 o18 o19 o20 o21 : Option SC} {f : SV → Prop} : rtS ⟨o0 :: o1 :: o2 :: o3 :: o4 :: o5 :: o6 :: o7 :: o8 :: o9 :: o10 :: o11 :: o12 :: o13 :: o14 :: o15 :: o16 :: o17 :: o18 :: o19 :: o20 :: o21 :: some (.own d) :: r, c⟩ (.bor 22) f = f (.new d) := rfl
theorem v23 {c : Ct} {r : List (Option SC)} {d : D} {o0 o1 o2 o3 o4 o5 o6 o7 o8 o9 o10 o11 o12 o13 o14 o15 o16 o17 o18 o19 o20 o21 o22 : Option SC} {Q : SV → Gm → Prop} : dVar 23 ⟨o0 :: o1 :: o2 :: o3 :: o4 :: o5 :: o6 :: o7 :: o8 :: o9 :: o10 :: o11 :: o12 :: o13 :: o14 :: o15 :: o16 :: o17 :: o18 :: o19 :: o20 :: o21 :: o22 :: some (.dat d) :: r, c⟩ Q = Q (.dat d) ⟨o0 :: o1 :: o2 :: o3 :: o4 :: o5 :: o6 :: o7 :: o8 :: o9 :: o10 :: o11 :: o12 :: o13 :: o14 :: o15 :: o16 :: o17 :: o18 :: o19 :: o20 :: o21 :: o22 :: some (.dat d) :: r, c⟩ := rfl
theorem w23 {c : Ct} {r : List (Option SC)} {d : D} {o0 o1 o2 o3 o4 o5 o6 o7 o8 o9 o10 o11 o12 o13 o14 o15 o16 o17 o18 o19 o20 o21 o22 : Option SC} {Q : SV → Gm → Prop} : dVar 23 ⟨o0 :: o1 :: o2 :: o3 :: o4 :: o5 :: o6 :: o7 :: o8 :: o9 :: o10 :: o11 :: o12 :: o13 :: o14 :: o15 :: o16 :: o17 :: o18 :: o19 :: o20 :: o21 :: o22 :: some (.own d) :: r, c⟩ Q = Q (.bor 23) ⟨o0 :: o1 :: o2 :: o3 :: o4 :: o5 :: o6 :: o7 :: o8 :: o9 :: o10 :: o11 :: o12 :: o13 :: o14 :: o15 :: o16 :: o17 :: o18 :: o19 :: o20 :: o21 :: o22 :: some (.own d) :: r, c⟩ := rfl
theorem n23 {c : Ct} {r : List (Option SC)} {d : D} {o : Option SC} {o0 o1 o2 o3 o4 o5 o6 o7 o8 o9 o10 o11 o12 o13 o14 o15 o16 o17 o18 o19 o20 o21 o22 : Option SC} {Q : Gm → Prop} : dgName 23 (.dat d) ⟨o0 :: o1 :: o2 :: o3 :: o4 :: o5 :: o6 :: o7 :: o8 :: o9 :: o10 :: o11 :: o12 :: o13 :: o14 :: o15 :: o16 :: o17 :: o18 :: o19 :: o20 :: o21 :: o22 :: o :: r, c⟩ Q = Q ⟨o0 :: o1 :: o2 :: o3 :: o4 :: o5 :: o6 :: o7 :: o8 :: o9 :: o10 :: o11 :: o12 :: o13 :: o14 :: o15 :: o16 :: o17 :: o18 :: o19 :: o20 :: o21 :: o22 :: some (.dat d) :: r, c⟩ := rfl
theorem m23 {c : Ct} {r : List (Option SC)} {d : D} {o : Option SC} {o0 o1 o2 o3 o4 o5 o6 o7 o8 o9 o10 o11 o12 o13 o14 o15 o16 o17 o18 o19 o20 o21 o22 : Option SC} {Q : Gm → Prop} : dgName 23 (.new d) ⟨o0 :: o1 :: o2 :: o3 :: o4 :: o5 :: o6 :: o7 :: o8 :: o9 :: o10 :: o11 :: o12 :: o13 :: o14 :: o15 :: o16 :: o17 :: o18 :: o19 :: o20 :: o21 :: o22 :: o :: r, c⟩ Q = Q ⟨o0 :: o1 :: o2 :: o3 :: o4 :: o5 :: o6 :: o7 :: o8 :: o9 :: o10 :: o11 :: o12 :: o13 :: o14 :: o15 :: o16 :: o17 :: o18 :: o19 :: o20 :: o21 :: o22 :: some (.own d) :: r, c⟩ := rfl
theorem sb23 {c : Ct} {r : List (Option SC)} {d : D} {o0 o1 o2 o3 o4 o5 o6 o7 o8 o9 o10 o11 o12 o13 o14 o15 o16 o17 o18 o19 o20 o21 o22 : Option SC} {f : D → Prop} : see ⟨o0 :: o1 :: o2 :: o3 :: o4 :: o5 :: o6 :: o7 :: o8 :: o9 :: o10 :: o11 :: o12 :: o13 :: o14 :: o15 :: o16 :: o17 :: o18 :: o19 :: o20 :: o21 :: o22 :: some (.own d) :: r, c⟩ (.bor 23) f = f d := rfl
theorem fb23 {c : Ct} {r : List (Option SC)} {d : D} {o0 o1 o2 o3 o4 o5 o6 o7 o8 o9 o10 o11 o12 o13 o14 o15 o16 o17 o18 o19 o20 o21 o22 : Option SC} {f : D → Gm → Prop} : frz ⟨o0 :: o1 :: o2 :: o3 :: o4 :: o5 :: o6 :: o7 :: o8 :: o9 :: o10 :: o11 :: o12 :: o13 :: o14 :: o15 :: o16 :: o17 :: o18 :: o19 :: o20 :: o21 :: o22 :: some (.own d) :: r, c⟩ (.bor 23) f = f d ⟨o0 :: o1 :: o2 :: o3 :: o4 :: o5 :: o6 :: o7 :: o8 :: o9 :: o10 :: o11 :: o12 :: o13 :: o14 :: o15 :: o16 :: o17 :: o18 :: o19 :: o20 :: o21 :: o22 :: some (.dat d) :: r, c⟩ := rfl
theorem rb23 {c : Ct} {r : List (Option SC)} {d : D} {o0 o1 o2 o3 o4 o5 o6 o7 o8 o9 o10 o11 o12 o13 o14 o15 o16 o17 o18 o19 o20 o21 o22 : Option SC} {f : SV → Prop} : rtS ⟨o0 :: o1 :: o2 :: o3 :: o4 :: o5 :: o6 :: o7 :: o8 :: o9 :: o10 :: o11 :: o12 :: o13 :: o14 :: o15 :: o16 :: o17 :: o18 :: o19 :: o20 :: o21 :: o22 :: some (.own d) :: r, c⟩ (.bor 23) f = f (.new d) := rfl
theorem v24 {c : Ct} {r : List (Option SC)} {d : D} {o0 o1 o2 o3 o4 o5 o6 o7 o8 o9 o10 o11 o12 o13 o14 o15 o16 o17 o18 o19 o20 o21 o22 o23 : Option SC} {Q : SV → Gm → Prop} : dVar 24 ⟨o0 :: o1 :: o2 :: o3 :: o4 :: o5 :: o6 :: o7 :: o8 :: o9 :: o10 :: o11 :: o12 :: o13 :: o14 :: o15 :: o16 :: o17 :: o18 :: o19 :: o20 :: o21 :: o22 :: o23 :: some (.dat d) :: r, c⟩ Q = Q (.dat d) ⟨o0 :: o1 :: o2 :: o3 :: o4 :: o5 :: o6 :: o7 :: o8 :: o9 :: o10 :: o11 :: o12 :: o13 :: o14 :: o15 :: o16 :: o17 :: o18 :: o19 :: o20 :: o21 :: o22 :: o23 :: some (.dat d) :: r, c⟩ := rfl
theorem w24 {c : Ct} {r : List (Option SC)} {d : D} {o0 o1 o2 o3 o4 o5 o6 o7 o8 o9 o10 o11 o12 o13 o14 o15 o16 o17 o18 o19 o20 o21 o22 o23 : Option SC} {Q : SV → Gm → Prop} : dVar 24 ⟨o0 :: o1 :: o2 :: o3 :: o4 :: o5 :: o6 :: o7 :: o8 :: o9 :: o10 :: o11 :: o12 :: o13 :: o14 :: o15 :: o16 :: o17 :: o18 :: o19 :: o20 :: o21 :: o22 :: o23 :: some (.own d) :: r, c⟩ Q = Q (.bor 24) ⟨o0 :: o1 :: o2 :: o3 :: o4 :: o5 :: o6 :: o7 :: o8 :: o9 :: o10 :: o11 :: o12 :: o13 :: o14 :: o15 :: o16 :: o17 :: o18 :: o19 :: o20 :: o21 :: o22 :: o23 :: some (.own d) :: r, c⟩ := rfl
theorem n24 {c : Ct} {r : List (Option SC)} {d : D} {o : Option SC} {o0 o1 o2 o3 o4 o5 o6 o7 o8 o9 o10 o11 o12 o13 o14 o15 o16 o17 o18 o19 o20 o21 o22 o23 : Option SC} {Q : Gm → Prop} : dgName 24 (.dat d) ⟨o0 :: o1 :: o2 :: o3 :: o4 :: o5 :: o6 :: o7 :: o8 :: o9 :: o10 :: o11 :: o12 :: o13 :: o14 :: o15 :: o16 :: o17 :: o18 :: o19 :: o20 :: o21 :: o22 :: o23 :: o :: r, c⟩ Q = Q ⟨o0 :: o1 :: o2 :: o3 :: o4 :: o5 :: o6 :: o7 :: o8 :: o9 :: o10 :: o11 :: o12 :: o13 :: o14 :: o15 :: o16 :: o17 :: o18 :: o19 :: o20 :: o21 :: o22 :: o23 :: some (.dat d) :: r, c⟩ := rfl
theorem m24 {c : Ct} {r : List (Option SC)} {d : D} {o : Option SC} {o0 o1 o2 o3 o4 o5 o6 o7 o8 o9 o10 o11 o12 o13 o14 o15 o16 o17 o18 o19 o20 o21 o22 o23 : Option SC} {Q : Gm → Prop} : dgName 24 (.new d) ⟨o0 :: o1 :: o2 :: o3 :: o4 :: o5 :: o6 :: o7 :: o8 :: o9 :: o10 :: o11 :: o12 :: o13 :: o14 :: o15 :: o16 :: o17 :: o18 :: o19 :: o20 :: o21 :: o22 :: o23 :: o :: r, c⟩ Q = Q ⟨o0 :: o1 :: o2 :: o3 :: o4 :: o5 :: o6 :: o7 :: o8 :: o9 :: o10 :: o11 :: o12 :: o13 :: o14 :: o15 :: o16 :: o17 :: o18 :: o19 :: o20 :: o21 :: o22 :: o23 :: some (.own d) :: r, c⟩ := rfl
theorem sb24 {c : Ct} {r : List (Option SC)} {d : D} {o0 o1 o2 o3 o4 o5 o6 o7 o8 o9 o10 o11 o12 o13 o14 o15 o16 o17 o18 o19 o20 o21 o22 o23 : Option SC} {f : D → Prop} : see ⟨o0 :: o1 :: o2 :: o3 :: o4 :: o5 :: o6 :: o7 :: o8 :: o9 :: o10 :: o11 :: o12 :: o13 :: o14 :: o15 :: o16 :: o17 :: o18 :: o19 :: o20 :: o21 :: o22 :: o23 :: some (.own d) :: r, c⟩ (.bor 24) f = f d := rfl
theorem fb24 {c : Ct} {r : List (Option SC)} {d : D} {o0 o1 o2 o3 o4 o5 o6 o7 o8 o9 o10 o11 o12 o13 o14 o15 o16 o17 o18 o19 o20 o21 o22 o23 : Option SC} {f : D → Gm → Prop} : frz ⟨o0 :: o1 :: o2 :: o3 :: o4 :: o5 :: o6 :: o7 :: o8 :: o9 :: o10 :: o11 :: o12 :: o13 :: o14 :: o15 :: o16 :: o17 :: o18 :: o19 :: o20 :: o21 :: o22 :: o23 :: some (.own d) :: r, c⟩ (.bor 24) f = f d ⟨o0 :: o1 :: o2 :: o3 :: o4 :: o5 :: o6 :: o7 :: o8 :: o9 :: o10 :: o11 :: o12 :: o13 :: o14 :: o15 :: o16 :: o17 :: o18 :: o19 :: o20 :: o21 :: o22 :: o23 :: some (.dat d) :: r, c⟩ := rfl
theorem rb24 {c : Ct} {r : List (Option SC)} {d : D} {o0 o1 o2 o3 o4 o5 o6 o7 o8 o9 o10 o11 o12 o13 o14 o15 o16 o17 o18 o19 o20 o21 o22 o23 : Option SC} {f : SV → Prop} : rtS ⟨o0 :: o1 :: o2 :: o3 :: o4 :: o5 :: o6 :: o7 :: o8 :: o9 :: o10 :: o11 :: o12 :: o13 :: o14 :: o15 :: o16 :: o17 :: o18 :: o19 :: o20 :: o21 :: o22 :: o23 :: some (.own d) :: r, c⟩ (.bor 24) f = f (.new d) := rfl
theorem v25 {c : Ct} {r : List (Option SC)} {d : D} {o0 o1 o2 o3 o4 o5 o6 o7 o8 o9 o10 o11 o12 o13 o14 o15 o16 o17 o18 o19 o20 o21 o22 o23 o24 : Option SC} {Q : SV → Gm → Prop} : dVar 25 ⟨o0 :: o1 :: o2 :: o3 :: o4 :: o5 :: o6 :: o7 :: o8 :: o9 :: o10 :: o11 :: o12 :: o13 :: o14 :: o15 :: o16 :: o17 :: o18 :: o19 :: o20 :: o21 :: o22 :: o23 :: o24 :: some (.dat d) :: r, c⟩ Q = Q (.dat d) ⟨o0 :: o1 :: o2 :: o3 :: o4 :: o5 :: o6 :: o7 :: o8 :: o9 :: o10 :: o11 :: o12 :: o13 :: o14 :: o15 :: o16 :: o17 :: o18 :: o19 :: o20 :: o21 :: o22 :: o23 :: o24 :: some (.dat d) :: r, c⟩ := rfl
theorem w25 {c : Ct} {r : List (Option SC)} {d : D} {o0 o1 o2 o3 o4 o5 o6 o7 o8 o9 o10 o11 o12 o13 o14 o15 o16 o17 o18 o19 o20 o21 o22 o23 o24 : Option SC} {Q : SV → Gm → Prop} : dVar 25 ⟨o0 :: o1 :: o2 :: o3 :: o4 :: o5 :: o6 :: o7 :: o8 :: o9 :: o10 :: o11 :: o12 :: o13 :: o14 :: o15 :: o16 :: o17 :: o18 :: o19 :: o20 :: o21 :: o22 :: o23 :: o24 :: some (.own d) :: r, c⟩ Q = Q (.bor 25) ⟨o0 :: o1 :: o2 :: o3 :: o4 :: o5 :: o6 :: o7 :: o8 :: o9 :: o10 :: o11 :: o12 :: o13 :: o14 :: o15 :: o16 :: o17 :: o18 :: o19 :: o20 :: o21 :: o22 :: o23 :: o24 :: some (.own d) :: r, c⟩ := rfl
theorem n25 {c : Ct} {r : List (Option SC)} {d : D} {o : Option SC} {o0 o1 o2 o3 o4 o5 o6 o7 o8 o9 o10 o11 o12 o13 o14 o15 o16 o17 o18 o19 o20 o21 o22 o23 o24 : Option SC} {Q : Gm → Prop} : dgName 25 (.dat d) ⟨o0 :: o1 :: o2 :: o3 :: o4 :: o5 :: o6 :: o7 :: o8 :: o9 :: o10 :: o11 :: o12 :: o13 :: o14 :: o15 :: o16 :: o17 :: o18 :: o19 :: o20 :: o21 :: o22 :: o23 :: o24 :: o :: r, c⟩ Q = Q ⟨o0 :: o1 :: o2 :: o3 :: o4 :: o5 :: o6 :: o7 :: o8 :: o9 :: o10 :: o11 :: o12 :: o13 :: o14 :: o15 :: o16 :: o17 :: o18 :: o19 :: o20 :: o21 :: o22 :: o23 :: o24 :: some (.dat d) :: r, c⟩ := rfl
theorem m25 {c : Ct} {r : List (Option SC)} {d : D} {o : Option SC} {o0 o1 o2 o3 o4 o5 o6 o7 o8 o9 o10 o11 o12 o13 o14 o15 o16 o17 o18 o19 o20 o21 o22 o23 o24 : Option SC} {Q : Gm → Prop} : dgName 25 (.new d) ⟨o0 :: o1 :: o2 :: o3 :: o4 :: o5 :: o6 :: o7 :: o8 :: o9 :: o10 :: o11 :: o12 :: o13 :: o14 :: o15 :: o16 :: o17 :: o18 :: o19 :: o20 :: o21 :: o22 :: o23 :: o24 :: o :: r, c⟩ Q = Q ⟨o0 :: o1 :: o2 :: o3 :: o4 :: o5 :: o6 :: o7 :: o8 :: o9 :: o10 :: o11 :: o12 :: o13 :: o14 :: o15 :: o16 :: o17 :: o18 :: o19 :: o20 :: o21 :: o22 :: o23 :: o24 :: some (.own d) :: r, c⟩ := rfl
theorem sb25 {c : Ct} {r : List (Option SC)} {d : D} {o0 o1 o2 o3 o4 o5 o6 o7 o8 o9 o10 o11 o12 o13 o14 o15 o16 o17 o18 o19 o20 o21 o22 o23 o24 : Option SC} {f : D → Prop} : see ⟨o0 :: o1 :: o2 :: o3 :: o4 :: o5 :: o6 :: o7 :: o8 :: o9 :: o10 :: o11 :: o12 :: o13 :: o14 :: o15 :: o16 :: o17 :: o18 :: o19 :: o20 :: o21 :: o22 :: o23 :: o24 :: some (.own d) :: r, c⟩ (.bor 25) f = f d := rfl
theorem fb25 {c : Ct} {r : List (Option SC)} {d : D} {o0 o1 o2 o3 o4 o5 o6 o7 o8 o9 o10 o11 o12 o13 o14 o15 o16 o17 o18 o19 o20 o21 o22 o23 o24 : Option SC} {f : D → Gm → Prop} : frz ⟨o0 :: o1 :: o2 :: o3 :: o4 :: o5 :: o6 :: o7 :: o8 :: o9 :: o10 :: o11 :: o12 :: o13 :: o14 :: o15 :: o16 :: o17 :: o18 :: o19 :: o20 :: o21 :: o22 :: o23 :: o24 :: some (.own d) :: r, c⟩ (.bor 25) f = f d ⟨o0 :: o1 :: o2 :: o3 :: o4 :: o5 :: o6 :: o7 :: o8 :: o9 :: o10 :: o11 :: o12 :: o13 :: o14 :: o15 :: o16 :: o17 :: o18 :: o19 :: o20 :: o21 :: o22 :: o23 :: o24 :: some (.dat d) :: r, c⟩ := rfl
theorem rb25 {c : Ct} {r : List (Option SC)} {d : D} {o0 o1 o2 o3 o4 o5 o6 o7 o8 o9 o10 o11 o12 o13 o14 o15 o16 o17 o18 o19 o20 o21 o22 o23 o24 : Option SC} {f : SV → Prop} : rtS ⟨o0 :: o1 :: o2 :: o3 :: o4 :: o5 :: o6 :: o7 :: o8 :: o9 :: o10 :: o11 :: o12 :: o13 :: o14 :: o15 :: o16 :: o17 :: o18 :: o19 :: o20 :: o21 :: o22 :: o23 :: o24 :: some (.own d) :: r, c⟩ (.bor 25) f = f (.new d) := rfl
section
variable {r : List (Option SC)} {c : Ct} {Q : SV → Gm → Prop} {E : DEnds} {e : DE} {i k : Nat} {G : Gm} {v y z : Int} {L : List (Option SC)}
theorem s_0 : dSrcIx 0 0 ⟨some (.dat .src) :: r, c⟩ Q = ∀ v : Int, Q (.dat (.int v)) ⟨some (.dat .src) :: r, c⟩ := by
  refine propext ⟨fun h v => h.2.2 v (fun h => by cases h) (fun h => by cases h), fun h => ⟨rfl, by decide, fun v _ _ => h v⟩⟩
theorem s_1 : dSrcIx 0 1 ⟨some (.dat .src) :: r, c⟩ Q = ∀ v : Int, 0 ≤ v → v < 10 ^ 50 → Q (.dat (.int v)) ⟨some (.dat .src) :: r, c⟩ := by
  refine propext ⟨fun h v a b => h.2.2 v (fun _ => ⟨a, b⟩) (fun h => by cases h), fun h => ⟨rfl, by decide, fun v a _ => h v (a rfl).1 (a rfl).2⟩⟩
theorem s_2 : dSrcIx 0 2 ⟨some (.dat .src) :: r, c⟩ Q = ∀ v : Int, 0 ≤ v → v ≤ c.num → Q (.dat (.int v)) ⟨some (.dat .src) :: r, c⟩ := by
  refine propext ⟨fun h v a b => h.2.2 v (fun h => by cases h) (fun _ => ⟨a, b⟩), fun h => ⟨rfl, by decide, fun v _ a => h v (a rfl).1 (a rfl).2⟩⟩
def srcW (i k : Nat) (E : DEnds) (G1 : Gm) (d : D) : Prop := gg G1 i = some (.dat .src) ∧ match d with
  | .int v => (k = 0 ∧ E.nx G1) ∨ (k = 2 ∧ 0 ≤ v ∧ v ≤ G1.c.num + 1 ∧ E.nx (G1.at G1.c.up))
  | _ => False
theorem s_s : dSrcSet i k e E G = e G fun sv G1 => see G1 sv (srcW i k E G1) := rfl
theorem s_w0 : srcW 0 0 E ⟨some (.dat .src) :: r, c⟩ (.int v) = E.nx ⟨some (.dat .src) :: r, c⟩ := by
  refine propext ⟨fun h => ?_, fun h => ⟨rfl, .inl ⟨rfl, h⟩⟩⟩
  rcases h.2 with h | h
  · exact h.2
  · exact absurd h.1 (by decide)
theorem s_w2 : srcW 0 2 E ⟨some (.dat .src) :: r, c⟩ (.int v) = (0 ≤ v ∧ v ≤ c.num + 1 ∧ E.nx ⟨some (.dat .src) :: r, c.up⟩) := by
  refine propext ⟨fun h => ?_, fun h => ⟨rfl, .inr ⟨rfl, h⟩⟩⟩
  rcases h.2 with h | h
  · exact absurd h.1 (by decide)
  · exact h.2
def srcK (Q : SV → Gm → Prop) (sv : SV) (G1 : Gm) : Prop := ∃ x y z : Int, sv = .new (.lst [.int x, .int y, .int z]) ∧ 0 ≤ y ∧ y < 10 ^ 50 ∧ 0 ≤ z ∧ z ≤ G1.c.num ∧ Q (.dat .src) G1
theorem s_e : dSrcE e G Q = e G (srcK Q) := rfl
theorem s_k {x : Int} (h : 0 ≤ y ∧ y < 10 ^ 50 ∧ Q (.dat .src) ⟨L, c⟩) : srcK Q (.new (.lst [.int x, .int y, .int 0])) ⟨L, c⟩ := ⟨x, y, 0, rfl, h.1, h.2.1, Int.le_refl _, by simp, h.2.2⟩
end
section
variable {as : DA} {G : Gm} {Qa : List D → Gm → Prop} {x y : Int} {d : D} {ds : List D}
def rng1K (Qa : List D → Gm → Prop) (ds : List D) (G1 : Gm) : Prop := (dRng1 (fun G Q => Q ds G)) G1 Qa
theorem x_rng1 : dRng1 as G Qa = as G (rng1K Qa) := rfl
def rng2K (Qa : List D → Gm → Prop) (ds : List D) (G1 : Gm) : Prop := (dRng2 (fun G Q => Q ds G)) G1 Qa
theorem x_rng2 : dRng2 as G Qa = as G (rng2K Qa) := rfl
def enuK (Qa : List D → Gm → Prop) (ds : List D) (G1 : Gm) : Prop := (dEnum (fun G Q => Q ds G)) G1 Qa
theorem x_enu : dEnum as G Qa = as G (enuK Qa) := rfl
theorem x_aslsl {f : List D → Prop} : dEnum.asLs (.lst ds) f = f ds := rfl
end
section
variable {G : Gm} {Qa : List D → Gm → Prop} {x y : Int} {ds : List D}
theorem x_r1 : rng1K Qa [.int x] G = ((-(2 ^ 62) ≤ x ∧ x < 2 ^ 62) ∧ Qa (rangeD 0 x.toNat) G) := by
  show ((-(2 ^ 62) ≤ x ∧ x < 2 ^ 62) ∧ ([D.int x]).length = 1 ∧ _) = _
  simp
theorem x_r2 : rng2K Qa [.int x, .int y] G = ((-(2 ^ 62) ≤ x ∧ x < 2 ^ 62 ∧ -(2 ^ 62) ≤ y ∧ y < 2 ^ 62) ∧ Qa (rangeD x (y - x).toNat) G) := by
  show ((-(2 ^ 62) ≤ x ∧ x < 2 ^ 62 ∧ -(2 ^ 62) ≤ y ∧ y < 2 ^ 62) ∧ ([D.int x, D.int y]).length = 2 ∧ _) = _
  simp
theorem x_e1 : enuK Qa [.lst ds] G = Qa (enumD 0 ds) G := by
  show (([] : List D) = [] ∧ _) = _
  simp [dEnum.asLs]
end
theorem rg_1 : rangeD 0 1 = [.int 0] := rfl
theorem rg_2 : rangeD 0 2 = [.int 0, .int 1] := rfl
theorem rg_3 : rangeD 0 3 = [.int 0, .int 1, .int 2] := rfl
def keyD : Key → D
  | .inl i => .int i
  | .inr x => .str x
theorem rpl_keys {K : PySem.W.Frag} {W : Wd} : ∀ ks : List Key, RpL K W (ks.map keyD) (ks.map kV)
  | [] => rfl
  | k :: ks => ⟨kV k, ks.map kV, rfl, by cases k <;> rfl, rpl_keys ks⟩
structure Wd.le2 (K : PySem.W.Frag) (W W' : Wd) : Prop where
  t : ∀ a xs, W.F a = some (.tup xs) → W'.F a = some (.tup xs)
  l : ∀ a xs, W.F a = some (.lst xs) → W'.F a = some (.lst xs)
  i : ∀ a C dx gs, W.F a = some (.ins C dx gs) → W'.F a = some (.ins C dx gs)
  x : ∀ a gs, W.F a = some (.xd gs) → W'.F a = some (.xd gs)
  e : ∀ a φ, W.F a = some (.ext φ) → W'.F a = some (.ext φ)
  q : ∀ a xs, SqL K W.F a xs → SqL K W'.F a xs
  dt : ∀ a kvs, Rd W.F a (.dT kvs) → Rd W'.F a (.dT kvs)
  dk : ∀ a kvs, Rd W.F a (.dK kvs) → Rd W'.F a (.dK kvs)
  s : ∀ a, W.S a → W'.S a
  k : ∀ a, W.S a → (W'.T a ↔ W.T a)
section
variable {K : PySem.W.Frag} {W W' : Wd}
mutual
theorem Rp.mono2 (l : W.le2 K W') : ∀ (d : D) (v : V), Rp K W d v → Rp K W' d v
  | .non, _, h => h
  | .bl _, _, h => h
  | .int _, _, h => h
  | .str _, _, h => h
  | .ty _, _, h => h
  | .ref _, _, h => h
  | .src, _, h => by obtain ⟨a, e, h, t⟩ := h; exact ⟨a, e, l.s a h, (l.k a h).mpr t⟩
  | .mob _, _, h => by obtain ⟨e, h, t⟩ := h; exact ⟨e, l.s _ h, fun z => t ((l.k _ h).mp z)⟩
  | .lkd _ _, _, h => h
  | .err _ _, _, h => by obtain ⟨e, C, n, h⟩ := h; exact ⟨e, C, n, h.mono l.e⟩
  | .tup ds, _, h => by obtain ⟨a, xs, e, s, r⟩ := h; exact ⟨a, xs, e, l.t _ _ s, RpL.mono2 l ds xs r⟩
  | .scr ns, _, h => by obtain ⟨a, e, s⟩ := h; exact ⟨a, e, l.q _ _ s⟩
  | .lst ds, _, h => by obtain ⟨a, xs, e, s, r⟩ := h; exact ⟨a, xs, e, l.l _ _ s, RpL.mono2 l ds xs r⟩
  | .dT ds, _, h => by obtain ⟨a, xs, e, s, r⟩ := h; exact ⟨a, xs, e, l.dt _ _ s, RpT.mono2 l ds xs r⟩
  | .dK ds, _, h => by obtain ⟨a, xs, e, s, r⟩ := h; exact ⟨a, xs, e, l.dk _ _ s, RpK.mono2 l ds xs r⟩
  | .ins a c fs, _, h => by obtain ⟨e, C, dx, xs, n, s, r⟩ := h; exact ⟨e, C, dx, xs, n, l.i _ _ _ _ s, RpF.mono2 l fs xs r⟩
  | .exc a c dd fs, _, h => by
    obtain ⟨e, h⟩ := h
    exact ⟨e, h.imp id fun ⟨d, gs, e1, s, r⟩ => ⟨d, gs, e1, l.x _ _ s, RpF.mono2 l fs gs r⟩⟩
theorem RpL.mono2 (l : W.le2 K W') : ∀ (d : List D) (v : List V), RpL K W d v → RpL K W' d v
  | [], _, h => h
  | d :: ds, _, h => by obtain ⟨v, r, e, h, t⟩ := h; exact ⟨v, r, e, Rp.mono2 l d v h, RpL.mono2 l ds r t⟩
theorem RpT.mono2 (l : W.le2 K W') : ∀ (d : List (List Key × D)) (v : List (List Key × V)), RpT K W d v → RpT K W' d v
  | [], _, h => h
  | (_, d) :: ds, _, h => by obtain ⟨v, r, e, h, t⟩ := h; exact ⟨v, r, e, Rp.mono2 l d v h, RpT.mono2 l ds r t⟩
theorem RpK.mono2 (l : W.le2 K W') : ∀ (d : List (Key × D)) (v : List (Key × V)), RpK K W d v → RpK K W' d v
  | [], _, h => h
  | (_, d) :: ds, _, h => by obtain ⟨v, r, e, h, t⟩ := h; exact ⟨v, r, e, Rp.mono2 l d v h, RpK.mono2 l ds r t⟩
theorem RpF.mono2 (l : W.le2 K W') : ∀ (d : List (Str × D)) (v : List (Str × V)), RpF K W d v → RpF K W' d v
  | [], _, h => h
  | (_, d) :: ds, _, h => by obtain ⟨v, r, e, h, t⟩ := h; exact ⟨v, r, e, Rp.mono2 l d v h, RpF.mono2 l ds r t⟩
end
theorem RO.mono2 (l : W.le2 K W') {p : Addr} {o : HO} {d : D} (h : RO K W p o d) : RO K W' p o d := by
  cases o <;> cases d <;> first | exact False.elim h | exact RpL.mono2 l _ _ h | exact RpT.mono2 l _ _ h | exact RpK.mono2 l _ _ h | exact ⟨h.1, h.2.1, RpF.mono2 l _ _ h.2.2⟩
def DicO : HO → Prop
  | .dT _ => True
  | .dK _ => True
  | _ => False
def Lck (u o : HO) : Prop := o = u ∨ ∃ od, o = .frz od u
def lckW (W : Wd) (a : Addr) (o : HO) : Wd := ⟨upd W.F a o, W.S, W.T⟩
theorem lck_le2 {a : Addr} {u o o' : HO} (du : DicO u) (e : W.F a = some o) (h : Lck u o) (h' : Lck u o') : W.le2 K (lckW W a o') := by
  have ne : ∀ {b v}, W.F b = some v → ¬ Lck u v → b ≠ a := fun {b v} q n z => by subst z; rw [e] at q; cases q; exact n h
  have keep : ∀ {b v}, W.F b = some v → ¬ Lck u v → (lckW W a o').F b = some v := fun {b v} q n => by
    show upd W.F a o' b = _
    rw [upd_ne (ne q n)]; exact q
  have nl : ∀ {v}, (∀ od u', v ≠ HO.frz od u') → ¬ DicO v → ¬ Lck u v := fun {v} n1 n2 z => by
    rcases z with rfl | ⟨od, rfl⟩
    · exact n2 du
    · exact n1 _ _ rfl
  have rdd : ∀ b v, DicO v → Rd W.F b v → Rd (lckW W a o').F b v := fun b v dv q => by
    by_cases hb : b = a
    · subst hb
      have hu : v = u := by
        rcases q with q | ⟨od, q⟩
        · rw [e] at q; cases q
          rcases h with rfl | ⟨od, rfl⟩
          · rfl
          · exact dv.elim
        · rw [e] at q; cases q
          rcases h with rfl | ⟨od, z⟩
          · exact du.elim
          · cases z; rfl
      subst hu
      rcases h' with rfl | ⟨od, rfl⟩
      · exact .inl upd_same
      · exact .inr ⟨od, upd_same⟩
    · exact q.imp (fun q => by show upd W.F a o' b = _; rw [upd_ne hb]; exact q) fun ⟨od, q⟩ => ⟨od, by show upd W.F a o' b = _; rw [upd_ne hb]; exact q⟩
  refine ⟨fun b xs q => keep q (nl (fun _ _ z => nomatch z) id), fun b xs q => keep q (nl (fun _ _ z => nomatch z) id), fun b C dx gs q => keep q (nl (fun _ _ z => nomatch z) id), fun b gs q => keep q (nl (fun _ _ z => nomatch z) id), fun b gs q => keep q (nl (fun _ _ z => nomatch z) id), fun b xs q => ?_, fun b kvs q => rdd b _ trivial q, fun b kvs q => rdd b _ trivial q, fun _ h => h, fun _ _ => Iff.rfl⟩
  refine q.imp (fun q => q.imp (fun q => keep q (nl (fun _ _ z => nomatch z) id)) fun ⟨od, q⟩ => ⟨od, keep q ?_⟩) id
  rintro (z | ⟨od', z⟩)
  · subst z; exact du
  · cases z; exact du
variable {P : Hp} {G : Gm} {σ : St} {H : Hp}
theorem Rl.lck (R : Rl K W P G σ H) {a : Addr} {u o o' : HO} (du : DicO u) (e : W.F a = some o) (h : Lck u o) (h' : Lck u o') : Rl K (lckW W a o') P G σ (upd H a o') := by
  have l := lck_le2 (K := K) du e h h'
  have nF : ∀ {p}, W.F p = none → p ≠ a := fun {p} q z => by subst z; rw [e] at q; cases q
  have kF : ∀ {p}, W.F p = none → (lckW W a o').F p = none := fun {p} q => by show upd W.F a o' p = none; rw [upd_ne (nF q)]; exact q
  refine ⟨R.len, fun b v q => ?_, fun b hb => ?_, fun p v q => ?_, fun i d q => ?_, fun i d q => ?_, R.sep, R.pnt, R.ext⟩
  · have q : upd W.F a o' b = some v := q
    by_cases hb : b = a
    · subst hb; rw [upd_same] at q ⊢; exact q
    · rw [upd_ne hb] at q ⊢; exact R.le b v q
  · obtain ⟨h1, h2, h3⟩ := R.src b hb
    exact ⟨kF h1, h2, h3.to (fun _ _ r => r.mono2 l) Iff.rfl fun o e => by rw [upd_ne (nF h1)]; exact e⟩
  · obtain ⟨h1, h2⟩ := R.prot p v q
    exact ⟨by rw [upd_ne (nF h2)]; exact h1, kF h2⟩
  · obtain ⟨v, h1, h2⟩ := R.dat i d q
    exact ⟨v, h1, Rp.mono2 l _ _ h2⟩
  · obtain ⟨p, v, h1, h2, h3⟩ := R.own i d q
    exact ⟨p, v, h1, ⟨by rw [upd_ne (nF h2.f)]; exact h2.at_, kF h2.f, h2.s, h2.n⟩, h3.mono2 l⟩
theorem RV.lck {a : Addr} {u o o' : HO} (du : DicO u) (e : W.F a = some o) (h : Lck u o) (h' : Lck u o') {sv : SV} {v : V} (r : RV K W P G σ H sv v) : RV K (lckW W a o') P G σ (upd H a o') sv v := by
  have l := lck_le2 (K := K) du e h h'
  have nF : ∀ {p}, W.F p = none → p ≠ a := fun {p} q z => by subst z; rw [e] at q; cases q
  cases sv with
  | dat d => exact Rp.mono2 l _ _ r
  | bor i => exact r
  | new d =>
    obtain ⟨p, v, e1, h2, h3, h4⟩ := r
    exact ⟨p, v, e1, ⟨by rw [upd_ne (nF h2.f)]; exact h2.at_, by show upd W.F a o' p = none; rw [upd_ne (nF h2.f)]; exact h2.f, h2.s, h2.n⟩, h3.mono2 l, h4⟩
theorem Rl.tupAt (R : Rl K W P G σ H) {q : Addr} {xs : List V} {ds : List D} (e : H q = some (.tup xs)) (r : RpL K W ds xs) : ∃ W', W.le W' ∧ Rl K W' P G σ H ∧ Rp K W' (.tup ds) (.ref q) := by
  cases f : W.F q with
  | some o =>
    have := R.le _ _ f
    rw [e] at this; cases this
    exact ⟨W, .refl W, R, q, xs, rfl, f, r⟩
  | none =>
    have l : W.le ⟨upd W.F q (.tup xs), W.S, W.T⟩ := ⟨fun b u z => by
      show upd W.F q _ b = _
      rw [upd_ne (ne_of_none z f)]; exact z, fun _ h => h, fun _ _ => Iff.rfl⟩
    have nq : ∀ {p o}, H p = some o → (∀ xs, o ≠ .tup xs) → W.F p = none → upd W.F q (.tup xs) p = none := fun {p o} h n z => by
      rw [upd_ne fun y => by subst y; rw [e] at h; cases h; exact n _ rfl]; exact z
    refine ⟨⟨upd W.F q (.tup xs), W.S, W.T⟩, l, ⟨R.len, fun b u z => ?_, fun a h => ?_, fun p u z => ?_, fun i d z => ?_, fun i d z => ?_, R.sep, R.pnt, R.ext⟩, q, xs, rfl, upd_same, RpL.mono l _ _ r⟩
    · have z : upd W.F q (.tup xs) b = some u := z
      by_cases hb : b = q
      · subst hb; rw [upd_same] at z; cases z; exact e
      · rw [upd_ne hb] at z; exact R.le b u z
    · obtain ⟨h1, h2, h3⟩ := R.src a h
      obtain ⟨o2, e2, n2⟩ := h3.obj
      exact ⟨nq e2 n2 h1, h2, h3.same l h fun _ e => e⟩
    · obtain ⟨h1, h2⟩ := R.prot p u z
      exact ⟨h1, nq h1 (fun xs y => R.pnt p xs (by rw [z, y])) h2⟩
    · obtain ⟨v, h1, h2⟩ := R.dat i d z
      exact ⟨v, h1, Rp.mono l _ _ h2⟩
    · obtain ⟨p, o, h1, h2, h3⟩ := R.own i d z
      exact ⟨p, o, h1, ⟨h2.at_, nq h2.at_ h3.nt h2.f, h2.s, h2.n⟩, h3.mono l⟩
def keysT (es : List (List Key × D)) : List D := es.map fun kv => .tup (kv.1.map keyD)
def keysK (es : List (Key × D)) : List D := es.map fun kv => keyD kv.1
theorem RpT.at : ∀ {es : List (List Key × D)} {kvs : List (List Key × V)} {i : Nat} {k : List Key} {d : D}, RpT K W es kvs → es[i]? = some (k, d) → ∃ v, kvs[i]? = some (k, v) ∧ Rp K W d v
  | (k', d') :: es, _, 0, _, _, h, e => by obtain ⟨v, r, rfl, h1, _⟩ := h; cases e; exact ⟨v, rfl, h1⟩
  | (k', d') :: es, _, i + 1, _, _, h, e => by obtain ⟨v, r, rfl, _, h2⟩ := h; exact RpT.at (i := i) h2 e
theorem RpK.at : ∀ {es : List (Key × D)} {kvs : List (Key × V)} {i : Nat} {k : Key} {d : D}, RpK K W es kvs → es[i]? = some (k, d) → ∃ v, kvs[i]? = some (k, v) ∧ Rp K W d v
  | (k', d') :: es, _, 0, _, _, h, e => by obtain ⟨v, r, rfl, h1, _⟩ := h; cases e; exact ⟨v, rfl, h1⟩
  | (k', d') :: es, _, i + 1, _, _, h, e => by obtain ⟨v, r, rfl, _, h2⟩ := h; exact RpK.at (i := i) h2 e
theorem walks_keysT {p : Addr} {od : Obj} {kvs : List (List Key × V)} {es : List (List Key × D)} (e : W.F p = some (.frz od (.dT kvs))) (r : RpT K W es kvs) : Walks K W (Itkt p od kvs) (keysT es) := by
  intro W' P G σ H i l R
  have e' : H p = some (.frz od (.dT kvs)) := R.le _ _ (l.f _ _ e)
  have hlen := r.len
  refine ⟨fun d hd => ?_, fun hi => ⟨e', by unfold keysT at hi; rw [List.length_map] at hi; omega⟩⟩
  unfold keysT at hd
  rw [List.getElem?_map] at hd
  obtain ⟨⟨k, d0⟩, hk, rfl⟩ := Option.map_eq_some_iff.mp hd
  have hi : i < es.length := (List.getElem?_eq_some_iff.mp hk).1
  obtain ⟨v0, hv0, _⟩ := r.at hk
  refine ⟨⟨e', by omega⟩, fun x H' ⟨h1, k', v, q, h2, h3, h4⟩ => ?_⟩
  subst h1 h3
  rw [hv0] at h2; cases h2
  exact R.tupAt h4 (rpl_keys k)
theorem walks_keysK {p : Addr} {od : Obj} {kvs : List (Key × V)} {es : List (Key × D)} (e : W.F p = some (.frz od (.dK kvs))) (r : RpK K W es kvs) : Walks K W (Itk p od kvs) (keysK es) := by
  intro W' P G σ H i l R
  have e' : H p = some (.frz od (.dK kvs)) := R.le _ _ (l.f _ _ e)
  have hlen := r.len
  refine ⟨fun d hd => ?_, fun hi => ⟨e', by unfold keysK at hi; rw [List.length_map] at hi; omega⟩⟩
  unfold keysK at hd
  rw [List.getElem?_map] at hd
  obtain ⟨⟨k, d0⟩, hk, rfl⟩ := Option.map_eq_some_iff.mp hd
  have hi : i < es.length := (List.getElem?_eq_some_iff.mp hk).1
  obtain ⟨v0, hv0, _⟩ := r.at hk
  refine ⟨⟨e', by omega⟩, fun x H' ⟨h1, k', v, h2, h3⟩ => ?_⟩
  subst h1 h3
  rw [hv0] at h2; cases h2
  exact ⟨W', .refl W', R, by cases k <;> rfl⟩
def keysD (d : D) (k : List D → Prop) : Prop := match d with
  | .dT es => k (keysT es)
  | .dK es => k (keysK es)
  | _ => False
def dKeys (i : Nat) : DI := fun G Q => frz G (.bor i) fun d G1 => keysD d fun ds => Q ds G1
theorem Rl.frzAt (R : Rl K W P G σ H) {i : Nat} {k : D → Gm → Prop} (t : LD.frz G (.bor i) k) : ∃ v W' d G', σ[i]? = some (some v) ∧ W.le W' ∧ Rl K W' P G' σ H ∧ Rp K W' d v ∧ k d G' := by
  cases e : gg G i with
  | none => unfold LD.frz at t; simp only [e] at t
  | some x =>
    cases x with
    | dat d =>
      unfold LD.frz at t; simp only [e] at t
      obtain ⟨v, h1, h2⟩ := R.dat i d e
      exact ⟨v, W, d, G, h1, .refl W, R, h2, t⟩
    | own d =>
      obtain ⟨p, o, h1, _⟩ := R.own i d e
      obtain ⟨W', d', G', l, R', r', q⟩ := R.frz (sv := .bor i) (v := .ref p) ⟨h1, d, e⟩ t
      exact ⟨_, W', d', G', h1, l, R', r', q⟩
theorem lck_back {W0 : Wd} {a : Addr} {u o : HO} (l : W0.le W) (f : W.F a = some u) (l2 : (lckW W a o).le W') : W0.le (lckW W' a u) := ⟨fun b v q => by
  show upd W'.F a u b = some v
  have q := l.f b v q
  by_cases hb : b = a
  · subst hb; rw [upd_same, ← f, q]
  · rw [upd_ne hb]
    exact l2.f b v (by show upd W.F a o b = some v; rw [upd_ne hb]; exact q), fun b h => l2.s b (l.s b h), fun b h => (l2.t b (l.s b h)).trans (l.t b h)⟩
end
theorem PE.or {X : Cx} {e : Expr} {t u : TE} (h : PE X e t) (g : PE X e u) : PE X e (fun σ H Q => t σ H Q ∨ u σ H Q) := ⟨fun pins s σ H Q I q => q.elim (h.run pins s σ H Q I) (g.run pins s σ H Q I)⟩
theorem PS.or {X : Cx} {e : Stmt} {t u : TS} (h : PS X e t) (g : PS X e u) : PS X e (fun D σ H => t D σ H ∨ u D σ H) := ⟨fun pins s σ H Q I q => q.elim (h.run pins s σ H Q I) (g.run pins s σ H Q I)⟩
section
variable {X : Cx} {K : PySem.W.Frag} {W : Wd} {P : Hp} {G : Gm} {σ : St} {H : Hp} {tg elt : Expr} {pos : Pos}
theorem lck_E {i : Nat} {B : (Qv : VK) → It → Hp → Prop} {Qv : VK} {f : List D → Gm → Prop} {Q : DQ}
    (h : ∃ G, ∃ R0 : ∃ W P, Rl K W P G σ H ∧ (∀ W' sv G' v H', W.le W' → Rl K W' P G' σ H' → RV K W' P G' σ H' sv v → Q sv G' → Qv v H') ∧
        (∀ (Qv : VK) W1 G1 H1 J ds, Rl K W1 P G1 σ H1 → Walks K W1 J ds → f ds G1 → (∀ W' sv G' v H', W1.le W' → Rl K W' P G' σ H' → RV K W' P G' σ H' sv v → Q sv G' → Qv v H') → B Qv J H1), dKeys i G f) :
    tLockE (fun σ H Qv => iKeys (tVar i) σ H fun J H1 => B Qv J H1) σ H Qv ∨ iKeys (tVar i) σ H fun J H1 => B Qv J H1 := by
  obtain ⟨G, ⟨W, P, R, k, b⟩, t⟩ := h
  obtain ⟨v, W1, d, G1, e, l1, R1, r1, q1⟩ := R.frzAt t
  cases d <;> first | exact False.elim q1 | skip
  · obtain ⟨a, kvs, rfl, f1 | ⟨od, f1⟩, r⟩ := r1
    · refine .inl ⟨a, .dT kvs, R1.le _ _ f1, trivial, fun od => ?_⟩
      have RL := R1.lck (u := .dT kvs) (o' := .frz od (.dT kvs)) trivial f1 (.inl rfl) (.inr ⟨od, rfl⟩)
      refine ⟨.ref a, e, a, od, rfl, .inr ⟨kvs, upd_same, b _ _ _ _ _ _ RL (walks_keysT upd_same (RpT.mono2 (lck_le2 (u := .dT kvs) trivial f1 (.inl rfl) (.inr ⟨od, rfl⟩)) _ _ r)) q1 fun W' sv G' v H' l' R' r' q' => ?_⟩⟩
      have fa := l'.f _ _ upd_same
      exact ⟨R'.le _ _ fa, k _ sv G' v _ (lck_back l1 f1 l') (R'.lck (u := .dT kvs) trivial fa (.inr ⟨od, rfl⟩) (.inl rfl)) (RV.lck (u := .dT kvs) trivial fa (.inr ⟨od, rfl⟩) (.inl rfl) r') q'⟩
    · exact .inr ⟨.ref a, e, a, od, rfl, .inr ⟨kvs, R1.le _ _ f1, b _ _ _ _ _ _ R1 (walks_keysT f1 r) q1 fun W' sv G' v H' l' => k W' sv G' v H' (l1.trans l')⟩⟩
  · obtain ⟨a, kvs, rfl, f1 | ⟨od, f1⟩, r⟩ := r1
    · refine .inl ⟨a, .dK kvs, R1.le _ _ f1, trivial, fun od => ?_⟩
      have RL := R1.lck (u := .dK kvs) (o' := .frz od (.dK kvs)) trivial f1 (.inl rfl) (.inr ⟨od, rfl⟩)
      refine ⟨.ref a, e, a, od, rfl, .inl ⟨kvs, upd_same, b _ _ _ _ _ _ RL (walks_keysK upd_same (RpK.mono2 (lck_le2 (u := .dK kvs) trivial f1 (.inl rfl) (.inr ⟨od, rfl⟩)) _ _ r)) q1 fun W' sv G' v H' l' R' r' q' => ?_⟩⟩
      have fa := l'.f _ _ upd_same
      exact ⟨R'.le _ _ fa, k _ sv G' v _ (lck_back l1 f1 l') (R'.lck (u := .dK kvs) trivial fa (.inr ⟨od, rfl⟩) (.inl rfl)) (RV.lck (u := .dK kvs) trivial fa (.inr ⟨od, rfl⟩) (.inl rfl) r') q'⟩
    · exact .inr ⟨.ref a, e, a, od, rfl, .inl ⟨kvs, R1.le _ _ f1, b _ _ _ _ _ _ R1 (walks_keysK f1 r) q1 fun W' sv G' v H' l' => k W' sv G' v H' (l1.trans l')⟩⟩
theorem de_lcK {x : Str} {px : Pos} {i : Nat} {ifs : List Expr} {scope : Scope} {own : List (Str × Nat)} {g : DG} {tt : DT} {te : DE} (hN : X.N.Nodup) (ok : BlkOk X.N X.env.scope scope own)
    (hg : ∀ (s : Shared) (H : Hp) (C : Addr) (cl : List (Str × Addr)) (fp : List Addr), PG (X.blk s H scope (compEnvC scope cl C X.env) fp) tg (canG X.K (own.map (·.2)) g))
    (ht : ∀ (s : Shared) (H : Hp) (C : Addr) (cl : List (Str × Addr)) (fp : List Addr), PTs (X.blk s H scope (compEnvC scope cl C X.env) fp) ifs (canT X.K tt))
    (he : ∀ (s : Shared) (H : Hp) (C : Addr) (cl : List (Str × Addr)) (fp : List Addr), PE (X.blk s H scope (compEnvC scope cl C X.env) fp) elt (can X.K te)) (hi : X.N[i]? = some x := by rfl) (hv : Vis X.env.scope x := by first | exact Or.inl rfl | exact Or.inr (Or.inl rfl) | exact Or.inr (Or.inr rfl))
    (hd : (x == ("__debug__" : Str)) = false := by decide) (hcd : (x == ("__classdict__" : Str)) = false := by decide) (hc : X.calm = true := by rfl) (hs : ∀ y, foldedSetIterable (.Name x px) X.env y = pure y := by intro _; rfl) :
    PE X (.ListComp elt [⟨tg, .Name x px, ifs, 0⟩] scope pos) (can X.K (dLc (own.map (·.2)) (dKeys i) g tt te)) := by
  have h0 := pe_lc (pos := pos) hc hN (pi_keys (tg := tg) (pe_var (pos := px) hi hv hd hcd)) ok hg ht he hs
  refine PE.imp (PE.or (pe_lock h0) h0) ?_
  rintro σ H Qv ⟨W, P, G, Q, R, t, k⟩
  exact lck_E (B := fun Qv J H1 => LcB (canG X.K (own.map (·.2)) g) (canT X.K tt) (can X.K te) (own.map (·.2)) σ Qv J H1) ⟨G, ⟨W, P, R, k, fun Qv W1 G1 H1 J ds R1 w q k' => lc_J R1 w q.1 q.2 k'⟩, t⟩
theorem ds_forK {x : Str} {px : Pos} {i : Nat} {body : List Stmt} {g : DG} {tb : DS} {ws : List Nat} (hp : PassesOwn (model X.prog X.w) X.A X.env X.xe) (hg : PG X tg (canG X.K ws g)) (hb : PSs X body (canS X.K tb)) (hi : X.N[i]? = some x := by rfl) (hv : Vis X.env.scope x := by first | exact Or.inl rfl | exact Or.inr (Or.inl rfl) | exact Or.inr (Or.inr rfl))
    (hd : (x == ("__debug__" : Str)) = false := by decide) (hcd : (x == ("__classdict__" : Str)) = false := by decide) (hc : X.calm = true := by rfl) (hs : ∀ y, foldedSetIterable (.Name x px) X.env y = pure y := by intro _; rfl) :
    PS X (.For tg (.Name x px) body [] pos) (canS X.K (dFor (dKeys i) g tb)) := by
  have h0 := ps_for (pos := pos) hp hc (pi_keys (tg := tg) (pe_var (pos := px) hi hv hd hcd)) hg hb hs
  refine PS.imp (PS.or (ps_lock h0) h0) ?_
  rintro D σ H ⟨W, P, G, E, R, t, k⟩
  have t : LD.frz G (.bor i) fun d G1 => keysD d fun ds => forL g tb E ds G1 := t
  obtain ⟨v, W1, d, G1, e, l1, R1, r1, q1⟩ := R.frzAt t
  have ends : ∀ {a : Addr} {u : HO} {od : Obj}, DicO u → W1.F a = some u → EndsOk X.K (lckW W1 a (.frz od u)) P E ⟨fun σ' H' => H' a = some (.frz od u) ∧ D.nx σ' (upd H' a u), fun v H' => H' a = some (.frz od u) ∧ D.rt v (upd H' a u), fun σ' H' => H' a = some (.frz od u) ∧ D.bk σ' (upd H' a u), fun σ' H' => H' a = some (.frz od u) ∧ D.ct σ' (upd H' a u)⟩ := fun {a u od} du f1 => by
    have go : ∀ {W' : Wd}, (lckW W1 a (.frz od u)).le W' → W'.F a = some (.frz od u) := fun {W'} l => l.f _ _ upd_same
    exact ⟨fun W' G' σ' H' l' R' q' => ⟨R'.le _ _ (go l'), k.nx _ G' σ' _ (lck_back l1 f1 l') (R'.lck du (go l') (.inr ⟨od, rfl⟩) (.inl rfl)) q'⟩,
      fun W' G' σ' H' l' R' q' => ⟨R'.le _ _ (go l'), k.bk _ G' σ' _ (lck_back l1 f1 l') (R'.lck du (go l') (.inr ⟨od, rfl⟩) (.inl rfl)) q'⟩,
      fun W' G' σ' H' l' R' q' => ⟨R'.le _ _ (go l'), k.ct _ G' σ' _ (lck_back l1 f1 l') (R'.lck du (go l') (.inr ⟨od, rfl⟩) (.inl rfl)) q'⟩,
      fun W' sv n v H' l' R' r' q' => ⟨R'.le _ _ (go l'), k.rt _ sv n v _ (lck_back l1 f1 l') (R'.lck du (go l') (.inr ⟨od, rfl⟩) (.inl rfl)) (RV.lck du (go l') (.inr ⟨od, rfl⟩) (.inl rfl) r') q'⟩⟩
  cases d <;> first | exact False.elim q1 | skip
  · obtain ⟨a, kvs, rfl, f1 | ⟨od, f1⟩, r⟩ := r1
    · refine .inl ⟨a, .dT kvs, R1.le _ _ f1, trivial, fun od => ?_⟩
      have RL := R1.lck (u := .dT kvs) (o' := .frz od (.dT kvs)) trivial f1 (.inl rfl) (.inr ⟨od, rfl⟩)
      exact ⟨.ref a, e, a, od, rfl, .inr ⟨kvs, upd_same, for_J RL (walks_keysT upd_same (RpT.mono2 (lck_le2 (u := .dT kvs) trivial f1 (.inl rfl) (.inr ⟨od, rfl⟩)) _ _ r)) q1 (ends trivial f1)⟩⟩
    · exact .inr ⟨.ref a, e, a, od, rfl, .inr ⟨kvs, R1.le _ _ f1, for_J R1 (walks_keysT f1 r) q1 (k.le l1)⟩⟩
  · obtain ⟨a, kvs, rfl, f1 | ⟨od, f1⟩, r⟩ := r1
    · refine .inl ⟨a, .dK kvs, R1.le _ _ f1, trivial, fun od => ?_⟩
      have RL := R1.lck (u := .dK kvs) (o' := .frz od (.dK kvs)) trivial f1 (.inl rfl) (.inr ⟨od, rfl⟩)
      exact ⟨.ref a, e, a, od, rfl, .inl ⟨kvs, upd_same, for_J RL (walks_keysK upd_same (RpK.mono2 (lck_le2 (u := .dK kvs) trivial f1 (.inl rfl) (.inr ⟨od, rfl⟩)) _ _ r)) q1 (ends trivial f1)⟩⟩
    · exact .inr ⟨.ref a, e, a, od, rfl, .inl ⟨kvs, R1.le _ _ f1, for_J R1 (walks_keysK f1 r) q1 (k.le l1)⟩⟩
end
section
variable {X : Cx} {K : PySem.W.Frag} {W W' : Wd} {P : Hp} {G : Gm} {σ : St} {H : Hp} {e f : Expr} {es : List Expr} {pos : Pos}
theorem RpL.erase : ∀ {a : List D} {x : List V} (n : Nat), RpL K W a x → RpL K W (a.eraseIdx n) (x.eraseIdx n)
  | [], _, n, h => by obtain rfl : _ = [] := h; exact rfl
  | d :: ds, _, 0, h => by obtain ⟨v, r, rfl, h1, h2⟩ := h; exact h2
  | d :: ds, _, n + 1, h => by obtain ⟨v, r, rfl, h1, h2⟩ := h; exact ⟨v, _, rfl, h1, RpL.erase n h2⟩
def itemsD (d : D) (k : List D → Prop) : Prop := match d with
  | .lst ds => k ds
  | .tup ds => k ds
  | .scr ns => k (ns.map D.int)
  | _ => False
def dStar (t : DE) (u : DA) : DA := fun G Q => t G fun s G1 => frz G1 s fun d G2 => itemsD d fun xs => u G2 fun ds G3 => Q (xs ++ ds) G3
def dicM (o : Option SC) (b : D) (k : Option D → Prop) : Prop := match o with
  | some (.own d) => dAt b d k
  | some (.dat d) => dAt b d k
  | none => False
def isDic (o : Option SC) : Prop := match o with
  | some (.own d) => isD d = true
  | some (.dat d) => isD d = true
  | none => False
def dGetN (i : Nat) (tk tx : DE) : DE := fun G Q => isDic (gg G i) ∧ tk G fun sk G1 => frz G1 sk fun b G2 => tx G2 fun sx G3 => frz G3 sx fun z G4 => dicM (gg G4 i) b fun od => Q (.dat (od.getD z)) G4
def dGetN1 (i : Nat) (tk : DE) : DE := fun G Q => isDic (gg G i) ∧ tk G fun sk G1 => frz G1 sk fun b G2 => dicM (gg G2 i) b fun od => Q (.dat (od.getD .non)) G2
def putL (o : Option SC) (j : Int) (dv : D) (k : D → Prop) : Prop := match o with
  | some (.own (.lst ds)) => (0 ≤ j ∧ j < ds.length) ∧ k (.lst (ds.set j.toNat dv))
  | _ => False
def intM (d : D) (k : Int → Prop) : Prop := match d with
  | .int j => k j
  | _ => False
def dPutL (i : Nat) (tv tk : DE) : DS := fun E G => tv G fun sv G1 => frz G1 sv fun dv G2 => isOwn G2 i ∧ tk G2 fun sk G3 => frz G3 sk fun b G4 => intM b fun j => putL (gg G4 i) j dv fun d' => E.nx (gset G4 i (some (.own d')))
theorem RpL.set {d : D} {v : V} (h : Rp K W d v) : ∀ {a : List D} {x : List V} (n : Nat), RpL K W a x → RpL K W (a.set n d) (x.set n v)
  | [], _, n, h => by obtain rfl : _ = [] := h; exact rfl
  | d :: ds, _, 0, h => by obtain ⟨v, r, rfl, h1, h2⟩ := h; exact ⟨_, _, rfl, by assumption, h2⟩
  | d :: ds, _, n + 1, h => by obtain ⟨v, r, rfl, h1, h2⟩ := h; exact ⟨v, _, rfl, h1, RpL.set (by assumption) n h2⟩
end
section
variable {X : Cx} {K : PySem.W.Frag} {W W' : Wd} {P : Hp} {G : Gm} {σ : St} {H : Hp} {e f : Expr} {es : List Expr} {pos : Pos}
def keepS : SV → SV
  | .new d => .dat d
  | sv => sv
abbrev DAT := Gm → (List SV → Gm → Prop) → Prop
def dNilT : DAT := fun G Q => Q [] G
def dConsT (t : DE) (u : DAT) : DAT := fun G Q => t G fun s G1 => u G1 fun ss G2 => Q (keepS s :: ss) G2
def RSL (K : PySem.W.Frag) (W : Wd) (σ : St) : List SV → List V → Prop
  | [], vs => vs = []
  | s :: ss, vs => ∃ v r, vs = v :: r ∧ RS K W σ s v ∧ RSL K W σ ss r
def seeAll (G : Gm) : List SV → (List D → Prop) → Prop
  | [], k => k []
  | s :: ss, k => see G s fun d => seeAll G ss fun ds => k (d :: ds)
theorem Rl.seeN (R : Rl K W P G σ H) {sv : SV} {v : V} (h : RS K W σ sv v) {k : D → Prop} (hk : LD.see G sv k) : ∃ d, Rp K (nowW W H) d v ∧ k d := by
  obtain ⟨d, n, q⟩ := R.see h hk
  exact ⟨d, R.rnow n, q⟩
theorem Rl.seeAll (R : Rl K W P G σ H) : ∀ {ss : List SV} {vs : List V} {k : List D → Prop}, RSL K W σ ss vs → LD.seeAll G ss k → ∃ ds, RpL K (nowW W H) ds vs ∧ k ds
  | [], _, k, h, q => by obtain rfl : _ = [] := h; exact ⟨[], rfl, q⟩
  | s :: ss, _, k, h, q => by
    obtain ⟨v, r, rfl, h1, h2⟩ := h
    obtain ⟨d, r1, q⟩ := R.seeN h1 q
    obtain ⟨ds, r2, q⟩ := Rl.seeAll R h2 q
    exact ⟨d :: ds, ⟨v, r, rfl, r1, r2⟩, q⟩
theorem RSL.length : ∀ {ss : List SV} {vs : List V}, RSL K W σ ss vs → vs.length = ss.length
  | [], _, h => by obtain rfl : _ = [] := h; rfl
  | s :: ss, _, h => by obtain ⟨v, r, rfl, _, h2⟩ := h; exact congrArg Nat.succ (RSL.length h2)
def dReprL (u : DAT) : DE := fun G Q => u G fun ss G1 => ss.length ≤ sizeLine ∧ seeAll G1 ss fun ds => dRepr (.lst ds) fun r => Q r G1
def Pk (K : PySem.W.Frag) (W : Wd) (P P' : Hp) (c : SC) (v : V) : Prop := match c with
  | .dat d => P' = P ∧ Rp K W d v
  | .own d => ∃ p o, v = .ref p ∧ P p = none ∧ P' = upd P p o ∧ RO K W p o d
theorem Pk.mono {P' : Hp} {c : SC} {v : V} (l : W.le W') (h : Pk K W P P' c v) : Pk K W' P P' c v := by
  cases c with
  | dat d => exact ⟨h.1, Rp.mono l _ _ h.2⟩
  | own d => obtain ⟨p, o, e, n, q, r⟩ := h; exact ⟨p, o, e, n, q, r.mono l⟩
theorem Rl.park (R : Rl K W P G σ H) {sv : SV} {v : V} {k : SC → Gm → Prop} (r : RV K W P G σ H sv v) (t : rest1 G sv k) : ∃ W' c G' P', W.le W' ∧ Rl K W' P' G' σ H ∧ Pk K W' P P' c v ∧ k c G' := by
  cases sv with
  | dat d => exact ⟨W, .dat d, G, P, .refl W, R, ⟨rfl, r⟩, t⟩
  | new d =>
    obtain ⟨p, o, rfl, pr, ro, hn⟩ := r
    exact ⟨W, .own d, G, upd P p o, .refl W, R.guardP pr hn ro.nt, ⟨p, o, rfl, pr.n, rfl, ro⟩, t⟩
  | bor j =>
    have t : LD.frz G (SV.bor j) fun d G1 => k (.dat d) G1 := t
    obtain ⟨W', d, G', l, R', r', q⟩ := R.frz r t
    exact ⟨W', .dat d, G', P, l, R', ⟨rfl, r'⟩, q⟩
theorem Rl.unpark {P' : Hp} (R : Rl K W P' G σ H) {c : SC} {v : V} (h : Pk K W P P' c v) (i : Nat) : Rl K W P (gset G i (some c)) (σ.set i (some v)) H := by
  cases c with
  | dat d => obtain ⟨rfl, h⟩ := h; exact R.setDat i h
  | own d =>
    obtain ⟨p, o, rfl, n, rfl, ro⟩ := h
    obtain ⟨R', p', o', e, pr, ro', hn⟩ := R.unguard (d := d) n ro
    cases e
    exact R'.setOwn i pr ro' hn
def dPar3 (i j l : Nat) (ta tb tc : DE) : DS := fun E G => ta G fun sa G1 => rest1 G1 sa fun ca G2 => tb G2 fun sb G3 => rest1 G3 sb fun cb G4 => tc G4 fun sc G5 => rest1 G5 sc fun cc G6 => E.nx (gset (gset (gset G6 l (some cc)) j (some cb)) i (some ca))
mutual
def noMob : D → Prop
  | .mob _ => False
  | .lkd _ _ => False
  | .tup ds => noMobL ds
  | .lst ds => noMobL ds
  | .dT es => noMobT es
  | .dK es => noMobK es
  | .ins _ _ fs => noMobF fs
  | .exc _ _ _ fs => noMobF fs
  | _ => True
def noMobL : List D → Prop
  | [] => True
  | d :: ds => noMob d ∧ noMobL ds
def noMobT : List (List Key × D) → Prop
  | [] => True
  | (_, d) :: ds => noMob d ∧ noMobT ds
def noMobK : List (Key × D) → Prop
  | [] => True
  | (_, d) :: ds => noMob d ∧ noMobK ds
def noMobF : List (Str × D) → Prop
  | [] => True
  | (_, d) :: ds => noMob d ∧ noMobF ds
end
theorem noMobL_iff : ∀ {ds : List D}, noMobL ds ↔ ∀ d ∈ ds, noMob d
  | [] => ⟨fun _ d h => (by cases h), fun _ => trivial⟩
  | d :: ds => ⟨fun ⟨a, b⟩ e h => (List.mem_cons.mp h).elim (fun z => z ▸ a) (noMobL_iff.mp b e), fun h => ⟨h d List.mem_cons_self, noMobL_iff.mpr fun e he => h e (List.mem_cons_of_mem _ he)⟩⟩
section
variable {W2 : Wd}
mutual
theorem noMob.to (lf : ∀ b o, W.F b = some o → W2.F b = some o) (ls : ∀ a, W.S a → W.T a → W2.S a ∧ W2.T a) : ∀ (d : D) (v : V), noMob d → Rp K W d v → Rp K W2 d v
  | .non, _, _, h => h
  | .bl _, _, _, h => h
  | .int _, _, _, h => h
  | .str _, _, _, h => h
  | .ty _, _, _, h => h
  | .ref _, _, _, h => h
  | .mob _, _, n, _ => n.elim
  | .lkd _ _, _, n, _ => n.elim
  | .err _ _, _, _, h => by obtain ⟨e, C, n, h⟩ := h; exact ⟨e, C, n, h.mono fun _ _ => lf _ _⟩
  | .src, _, _, h => by obtain ⟨a, e, h, t⟩ := h; exact ⟨a, e, ls a h t⟩
  | .tup ds, _, n, h => by obtain ⟨a, xs, e, s, r⟩ := h; exact ⟨a, xs, e, lf _ _ s, noMob.toL lf ls ds xs n r⟩
  | .scr ns, _, _, h => by obtain ⟨a, e, s⟩ := h; exact ⟨a, e, s.imp (fun q => q.imp (lf _ _) fun ⟨o, q⟩ => ⟨o, lf _ _ q⟩) id⟩
  | .lst ds, _, n, h => by obtain ⟨a, xs, e, s, r⟩ := h; exact ⟨a, xs, e, lf _ _ s, noMob.toL lf ls ds xs n r⟩
  | .dT ds, _, n, h => by obtain ⟨a, xs, e, s, r⟩ := h; exact ⟨a, xs, e, s.imp (lf _ _) fun ⟨o, q⟩ => ⟨o, lf _ _ q⟩, noMob.toT lf ls ds xs n r⟩
  | .dK ds, _, n, h => by obtain ⟨a, xs, e, s, r⟩ := h; exact ⟨a, xs, e, s.imp (lf _ _) fun ⟨o, q⟩ => ⟨o, lf _ _ q⟩, noMob.toK lf ls ds xs n r⟩
  | .ins a c fs, _, n, h => by obtain ⟨e, C, dx, xs, m, s, r⟩ := h; exact ⟨e, C, dx, xs, m, lf _ _ s, noMob.toF lf ls fs xs n r⟩
  | .exc a c dd fs, _, n, h => by
    obtain ⟨e, h⟩ := h
    exact ⟨e, h.imp id fun ⟨d, gs, e1, s, r⟩ => ⟨d, gs, e1, lf _ _ s, noMob.toF lf ls fs gs n r⟩⟩
theorem noMob.toL (lf : ∀ b o, W.F b = some o → W2.F b = some o) (ls : ∀ a, W.S a → W.T a → W2.S a ∧ W2.T a) : ∀ (d : List D) (v : List V), noMobL d → RpL K W d v → RpL K W2 d v
  | [], _, _, h => h
  | d :: ds, _, n, h => by obtain ⟨v, r, e, h, t⟩ := h; exact ⟨v, r, e, noMob.to lf ls d v n.1 h, noMob.toL lf ls ds r n.2 t⟩
theorem noMob.toT (lf : ∀ b o, W.F b = some o → W2.F b = some o) (ls : ∀ a, W.S a → W.T a → W2.S a ∧ W2.T a) : ∀ (d : List (List Key × D)) (v : List (List Key × V)), noMobT d → RpT K W d v → RpT K W2 d v
  | [], _, _, h => h
  | (_, d) :: ds, _, n, h => by obtain ⟨v, r, e, h, t⟩ := h; exact ⟨v, r, e, noMob.to lf ls d v n.1 h, noMob.toT lf ls ds r n.2 t⟩
theorem noMob.toK (lf : ∀ b o, W.F b = some o → W2.F b = some o) (ls : ∀ a, W.S a → W.T a → W2.S a ∧ W2.T a) : ∀ (d : List (Key × D)) (v : List (Key × V)), noMobK d → RpK K W d v → RpK K W2 d v
  | [], _, _, h => h
  | (_, d) :: ds, _, n, h => by obtain ⟨v, r, e, h, t⟩ := h; exact ⟨v, r, e, noMob.to lf ls d v n.1 h, noMob.toK lf ls ds r n.2 t⟩
theorem noMob.toF (lf : ∀ b o, W.F b = some o → W2.F b = some o) (ls : ∀ a, W.S a → W.T a → W2.S a ∧ W2.T a) : ∀ (d : List (Str × D)) (v : List (Str × V)), noMobF d → RpF K W d v → RpF K W2 d v
  | [], _, _, h => h
  | (_, d) :: ds, _, n, h => by obtain ⟨v, r, e, h, t⟩ := h; exact ⟨v, r, e, noMob.to lf ls d v n.1 h, noMob.toF lf ls ds r n.2 t⟩
end
theorem noMob.toO (lf : ∀ b o, W.F b = some o → W2.F b = some o) (ls : ∀ a, W.S a → W.T a → W2.S a ∧ W2.T a) {p : Addr} {o : HO} {d : D} (n : noMob d) (r : RO K W p o d) : RO K W2 p o d := by
  cases o <;> cases d <;> first
    | exact False.elim r
    | exact noMob.toL lf ls _ _ n r
    | exact noMob.toT lf ls _ _ n r
    | exact noMob.toK lf ls _ _ n r
    | exact ⟨r.1, r.2.1, noMob.toF lf ls _ _ n r.2.2⟩
end
theorem Rl.nown (R : Rl K W P G σ H) {p : Addr} (h : W.F p ≠ none ∨ W.S p ∨ P p ≠ none) : ¬ ∃ i d, gg G i = some (.own d) ∧ σ[i]? = some (some (.ref p)) := by
  rintro ⟨i, d, h1, h2⟩
  obtain ⟨q, o, e, pr, _⟩ := R.own i d h1
  rw [h2] at e; cases e
  rcases h with h | h | h
  · exact h pr.f
  · exact pr.s h
  · exact h pr.n
def flatS : SV → Bool
  | .dat (.tup ds) => ds.all flatD
  | .dat d => flatD d
  | _ => false
def dCallB (n : Nat) (S : DSp) (gD : List D → List D → List D) (u : DAT) : DE := fun G Q => u G fun ss G1 => ss.length = n ∧ seeAll G1 ss fun ds => noMobL (gD ds []) ∧ noMobL ds ∧ S G1.c.bare (gD ds []) fun r j => flatS r = true ∧ Q r (G1.at (G1.c.put j))
end
section
variable {prog : Program} {w : World} {A : Around} {E : Value → Shared → Prop} {s : Shared}
end
section
variable {X : Cx} {K : PySem.W.Frag} {W : Wd} {P : Hp} {G : Gm} {σ : St} {H : Hp}
theorem Rl.junk (R : Rl K W P G σ H) {p : Addr} {o : HO} (hp : H p = none) : Rl K W P G σ (upd H p o) := by
  have old : ∀ b u, H b = some u → upd H p o b = some u := fun b u e => by rw [upd_ne (ne_of_none e hp)]; exact e
  exact ⟨R.len, fun b u e => old b u (R.le b u e), fun a h => (by obtain ⟨h1, h2, h3⟩ := R.src a h; exact ⟨h1, h2, h3.same (.refl _) h (old _)⟩), fun q u e => (by obtain ⟨h1, h2⟩ := R.prot q u e; exact ⟨old _ _ h1, h2⟩), R.dat,
    fun i d e => (by obtain ⟨q, u, h1, h2, h3⟩ := R.own i d e; exact ⟨q, u, h1, ⟨old _ _ h2.at_, h2.f, h2.s, h2.n⟩, h3⟩), R.sep, R.pnt, R.ext⟩
variable {pos : Pos}
theorem ds_parC {x y : Str} {a b : Expr} (i j : Nat) {ta tb : DE} {px py pt : Pos} {kt k2 pt2} (hN : X.N.Nodup) (ha : PE X a (can X.K ta)) (hb : PE X b (can X.K tb)) (hc : X.calm = true := by rfl) (hi : X.N[i]? = some x := by rfl) (hj : X.N[j]? = some y := by rfl) (hij : i ≠ j := by decide)
    (hx : Loc X.env.scope x := by first | exact Or.inl rfl | exact Or.inr rfl) (hfx : X.fn x = true ∨ X.env.scope.names.lookup x = some .local := by first | exact .inl rfl | exact .inr rfl)
    (hy : Loc X.env.scope y := by first | exact Or.inl rfl | exact Or.inr rfl) (hfy : X.fn y = true ∨ X.env.scope.names.lookup y = some .local := by first | exact .inl rfl | exact .inr rfl)
    (hs : swapsWithSole [.Tuple [.Name x px, .Name y py] kt pt] (.Tuple [a, b] k2 pt2) pos.line X.env = pure false := by rfl) (hw : swappedStores [.Tuple [.Name x px, .Name y py] kt pt] (.Tuple [a, b] k2 pt2) X.env = pure none := by rfl)
    (h1 : (assignEach [.Tuple [.Name x px, .Name y py] kt pt] X.env).map (·.2) = [assign (.Tuple [.Name x px, .Name y py] kt pt) X.env] := by rfl)
    (s1 : starEach [a, b] X.env = (false, eval a X.env) :: starEach [b] X.env := by rfl) (s2 : starEach [b] X.env = (false, eval b X.env) :: starEach [] X.env := by rfl)
    (g1 : (assignEach [.Name x px, .Name y py] X.env).map (·.2) = assign (.Name x px) X.env :: (assignEach [.Name y py] X.env).map (·.2) := by rfl) (g2 : (assignEach [.Name y py] X.env).map (·.2) = assign (.Name y py) X.env :: (assignEach [] X.env).map (·.2) := by rfl)
    (hn : (assignEach [.Name x px, .Name y py] X.env).length = 2 := by rfl) (hst : (assignEach [.Name x px, .Name y py] X.env).findIdx? (·.1) = none := by rfl) :
    PS X (.Assign [.Tuple [.Name x px, .Name y py] kt pt] (.Tuple [a, b] k2 pt2) pos) (canS X.K (dPar2 i j ta tb)) := by
  refine PS.imp (ps_asg (pe_tup (pa_cons ha (pa_cons hb pa_nil s2) s1)) (pg_tup hc (pgs_cons (pg_name hN hi hx hfx) (pgs_cons (pg_name hN hj hy hfy) pgs_nil g2) g1) hn hst) hs hw h1) ?_
  rintro D σ H ⟨W, P, G, E, R, t, k⟩
  refine ⟨W, P, G, _, R, t, fun W1 sa G1 u H1 l1 R1 r1 q1 => ?_⟩
  obtain ⟨W2, ca, G2, P2, l2, R2, k2', q2⟩ := R1.park r1 q1
  refine ⟨W2, P2, G2, _, R2, q2, fun W3 sb G3 v H3 l3 R3 r3 q3 => ⟨by show 2 ≤ sizeLine; decide, fun p hp => ?_⟩⟩
  obtain ⟨W4, cb, G4, P4, l4, R4, k4, q4⟩ := R3.park r3 q3
  refine ⟨p, [u, v], rfl, .of upd_same, rfl, u, [v], rfl, v, [], rfl, rfl, ?_⟩
  have R5 := (R4.junk (o := .tup [u, v]) hp).unpark k4 j
  have R6 := R5.unpark (k2'.mono (l3.trans l4)) i
  rw [List.set_comm _ _ hij]
  exact k.nx W4 _ _ _ (((l1.trans l2).trans l3).trans l4) R6 q4
end
variable {X : Cx} {P : Hp} {pos : Pos}
def dDspS (tk tv : DE) : DE := fun G Q => tk G fun sk G1 => frz G1 sk fun b G2 => tv G2 fun sv G3 => frz G3 sv fun dv G4 => match b with
  | .str x => Q (.new (.dK [(.inr x, dv)])) G4
  | _ => False
section
variable {K : PySem.W.Frag} {j k n : Nat} {st : Stmt} {dd : List D} {ps ks : List Str} {S : DSp} {x : Str} {p : Pos} {e : Expr} {kws : List Keyword} {gD : List D → List D → List D} {u : DAT}
def dCallKB (m : Nat) (S : DSp) (gD : List D → List D → List D) (u : DAT) : DE := fun G Q => u G fun ss G1 => ss.length = m ∧ seeAll G1 ss fun ds => noMobL ds ∧ S G1.c.bare (gD [] ds) fun r j => flatS r = true ∧ Q r (G1.at (G1.c.put j))
end
def sortSetK (d : D) (k : List (Int × Int) → Prop) : Prop := match d with
  | .lst ds => match prsOf ds with
    | some ps => ps.length < 64 ∧ (∀ p ∈ ps, (0 ≤ p.1 ∧ p.1 < 10 ^ 40) ∧ (0 ≤ p.2 ∧ p.2 < 10 ^ 40)) ∧ ∀ qs : List (Int × Int), qs.Pairwise (fun p q => p.1 < q.1 ∨ (p.1 = q.1 ∧ p.2 < q.2)) → (∀ p, p ∈ qs ↔ p ∈ ps) → k qs
    | none => False
  | _ => False
def dSortSet (ta : DE) : DE := fun G Q => ta G fun sv G1 => frz G1 sv fun d G2 => sortSetK d fun qs => Q (.new (.lst (qs.map prD))) G2
def dDivmodF : List D → (SV → Prop) → Prop := fun ds Q => on2 (fun i j => (j ≠ 0 ∧ j.natAbs.log2 < 9000) ∧ Q (.dat (.tup [.int (i.fdiv j), .int (i.fmod j)]))) ds
section
variable {prog : Program} {w : World} {A : Around} {E : Value → Shared → Prop} {s : Shared}
end
section
variable {X : Cx} {K : PySem.W.Frag} {W : Wd} {P : Hp} {G : Gm} {σ : St} {H : Hp}
end
section
variable {X : Cx} {K : PySem.W.Frag} {W : Wd} {P : Hp} {G : Gm} {σ : St} {H : Hp}
end
section
variable {K : PySem.W.Frag} {W W' : Wd}
theorem RpF.lookup : ∀ {fs : List (Str × D)} {gs : List (Str × V)} {f : Str} {d : D}, RpF K W fs gs → fs.lookup f = some d → ∃ v, gs.lookup f = some v ∧ Rp K W d v
  | [], _, _, _, _, e => by cases e
  | (g, x) :: fs, _, f, d, h, e => by
    obtain ⟨v, r, rfl, h1, h2⟩ := h
    rw [List.lookup_cons] at e ⊢
    split at e
    · cases e; exact ⟨v, rfl, h1⟩
    · exact RpF.lookup h2 e
theorem RpF.length : ∀ {fs : List (Str × D)} {gs : List (Str × V)}, RpF K W fs gs → gs.length = fs.length
  | [], _, h => by obtain rfl : _ = [] := h; rfl
  | (g, x) :: fs, _, h => by obtain ⟨v, r, rfl, h1, h2⟩ := h; exact congrArg Nat.succ (RpF.length h2)
def putFD (f : Str) (d : D) : List (Str × D) → List (Str × D)
  | [] => [(f, d)]
  | (g, x) :: r => if g = f then (g, d) :: r else (g, x) :: putFD f d r
theorem RpF.put {f : Str} {d : D} {v : V} (rv : Rp K W d v) : ∀ {fs : List (Str × D)} {gs : List (Str × V)}, RpF K W fs gs → RpF K W (putFD f d fs) (putF f v gs)
  | [], _, h => by obtain rfl : _ = [] := h; exact ⟨v, [], rfl, rv, rfl⟩
  | (g, x) :: fs, _, h => by
    obtain ⟨u, r, rfl, h1, h2⟩ := h
    unfold putFD putF
    by_cases e : g = f
    · rw [if_pos e, if_pos e]; exact ⟨v, r, rfl, rv, h2⟩
    · rw [if_neg e, if_neg e]; exact ⟨u, _, rfl, h1, RpF.put rv h2⟩
def ClsH (K : PySem.W.Frag) (c : Str) : Prop := ∃ C, PySem.W.nsIn K mainGlobals c = some (some (.ref C)) ∧ Cls K C
theorem ClsH.at {c : Str} (h : ClsH K c) {C : Addr} (e : PySem.W.nsIn K mainGlobals c = some (some (.ref C))) : Cls K C := by
  obtain ⟨C', e', cl⟩ := h
  rw [e] at e'; cases e'; exact cl
end
section
variable {X : Cx} {K : PySem.W.Frag} {W W' : Wd} {P : Hp} {G : Gm} {σ : St} {H : Hp} {e o : Expr} {es : List Expr} {pos : Pos}
def insM (c : Str) (d : D) (k : Addr → List (Str × D) → Prop) : Prop := match d with
  | .ins a c' fs => c' = c ∧ k a fs
  | _ => False
def fldM (f : Str) (fs : List (Str × D)) (k : D → Prop) : Prop := match fs.lookup f with
  | some d => k d
  | none => False
def dFld (c f : Str) (t : DE) : DE := fun G Q => t G fun sv G1 => see G1 sv fun d => insM c d fun _ fs => fldM f fs fun x => Q (.dat x) G1
def ownI (c : Str) (o : Option SC) (k : Addr → List (Str × D) → Prop) : Prop := match o with
  | some (.own d) => insM c d k
  | _ => False
def dSetF (i : Nat) (c f : Str) (t : DE) : DS := fun E G => t G fun sv G1 => frz G1 sv fun d G2 => ownI c (gg G2 i) fun a fs => fs.length < 1000 ∧ E.nx (gset G2 i (some (.own (.ins a c (putFD f d fs)))))
def dgFld (i : Nat) (c f : Str) : DG := fun sv G Q => frz G sv fun d G2 => ownI c (gg G2 i) fun a fs => fs.length < 1000 ∧ Q (gset G2 i (some (.own (.ins a c (putFD f d fs)))))
end
section
variable {X : Cx} {K : PySem.W.Frag} {W W' : Wd} {P : Hp} {G : Gm} {σ : St} {H : Hp} {e o : Expr} {es : List Expr} {pos apos : Pos} {j k n : Nat} {f C : Addr} {fd : FuncData} {ps : List Str} {m c qual : Str} {st : Stmt} {dd : List D} {S : DSp} {gD : List D → List D → List D}
def dMeth (n : Nat) (c m : Str) (S : DSp) (gD : List D → List D → List D) (ta : DE) (t : DA) : DE := fun G Q => ta G fun sv G1 => frz G1 sv fun d G2 => insM c d fun _ fs => fs.lookup m = none ∧ t G2 fun ds G3 => ds.length + 1 = n ∧ S G3.c (gD (d :: ds) []) fun r j => Q r (G3.at j)
end
abbrev ISp := Ct → List D → (List (Str × D) → Ct → Prop) → Prop
section
variable {K : PySem.W.Frag} {W W' : Wd} {P P0 : Hp} {G : Gm} {σ : St} {H H' : Hp}
end
section
variable {X : Cx} {K : PySem.W.Frag} {W W' : Wd} {P : Hp} {G : Gm} {σ : St} {H : Hp} {e : Expr} {es : List Expr} {kws : List Keyword} {p pos : Pos} {j k n : Nat} {f C : Addr} {fd : FuncData} {ps ks : List Str} {c qual : Str} {st : Stmt} {dd : List D} {S : ISp} {gD : List D → List D → List D} {g2 : List D → List D}
def dMake (n m : Nat) (c : Str) (S : ISp) (g2 : List D → List D → List D) (t tk : DA) : DE := fun G Q => t G fun ds G1 => tk G1 fun es G2 => ds.length + 1 = n ∧ es.length = m ∧ S G2.c (g2 ds es) fun fs j => ∀ a, Q (.dat (.ins a c fs)) (G2.at j)
end
noncomputable def outW (W : Wd) (a : Addr) : Wd := open Classical in ⟨fun b => if b = a then none else W.F b, W.S, W.T⟩
section
variable {K : PySem.W.Frag} {W W' : Wd} {P P0 : Hp} {G : Gm} {σ : St} {H H' : Hp} {a : Addr}
theorem out_ne {b : Addr} (h : b ≠ a) : (outW W a).F b = W.F b := if_neg h
theorem out_keep {C dx : Addr} {gs : List (Str × V)} (e : W.F a = some (.ins C dx gs)) {b : Addr} {o : HO} (h : W.F b = some o) (n : ∀ C dx gs, o ≠ .ins C dx gs) : (outW W a).F b = some o := by
  rw [out_ne fun z => by subst z; rw [e] at h; cases h; exact n _ _ _ rfl]; exact h
mutual
theorem NoI.out {C dx : Addr} {gs : List (Str × V)} (e : W.F a = some (.ins C dx gs)) : ∀ (d : D) (v : V), NoI d → Rp K W d v → Rp K (outW W a) d v
  | .non, _, _, h => h
  | .bl _, _, _, h => h
  | .int _, _, _, h => h
  | .str _, _, _, h => h
  | .ty _, _, _, h => h
  | .ref _, _, _, h => h
  | .src, _, _, h => h
  | .mob _, _, _, h => h
  | .err _ _, _, n, _ => n.elim
  | .lkd _ _, _, n, _ => n.elim
  | .tup ds, _, n, h => by obtain ⟨b, xs, e1, s, r⟩ := h; exact ⟨b, xs, e1, out_keep e s (fun _ _ _ z => nomatch z), NoI.outL e ds xs n r⟩
  | .scr ns, _, _, h => by
    obtain ⟨b, e1, s⟩ := h
    exact ⟨b, e1, s.imp (fun q => q.imp (fun q => out_keep e q (fun _ _ _ z => nomatch z)) fun ⟨o, q⟩ => ⟨o, out_keep e q (fun _ _ _ z => nomatch z)⟩) id⟩
  | .lst ds, _, n, h => by obtain ⟨b, xs, e1, s, r⟩ := h; exact ⟨b, xs, e1, out_keep e s (fun _ _ _ z => nomatch z), NoI.outL e ds xs n r⟩
  | .dT ds, _, n, h => by obtain ⟨b, xs, e1, s, r⟩ := h; exact ⟨b, xs, e1, s.imp (fun q => out_keep e q (fun _ _ _ z => nomatch z)) fun ⟨o, q⟩ => ⟨o, out_keep e q (fun _ _ _ z => nomatch z)⟩, NoI.outT e ds xs n r⟩
  | .dK ds, _, n, h => by obtain ⟨b, xs, e1, s, r⟩ := h; exact ⟨b, xs, e1, s.imp (fun q => out_keep e q (fun _ _ _ z => nomatch z)) fun ⟨o, q⟩ => ⟨o, out_keep e q (fun _ _ _ z => nomatch z)⟩, NoI.outK e ds xs n r⟩
  | .ins _ _ _, _, n, _ => n.elim
  | .exc _ _ _ _, _, n, _ => n.elim
theorem NoI.outL {C dx : Addr} {gs : List (Str × V)} (e : W.F a = some (.ins C dx gs)) : ∀ (d : List D) (v : List V), NoIL d → RpL K W d v → RpL K (outW W a) d v
  | [], _, _, h => h
  | d :: ds, _, n, h => by obtain ⟨v, r, e1, h, t⟩ := h; exact ⟨v, r, e1, NoI.out e d v n.1 h, NoI.outL e ds r n.2 t⟩
theorem NoI.outT {C dx : Addr} {gs : List (Str × V)} (e : W.F a = some (.ins C dx gs)) : ∀ (d : List (List Key × D)) (v : List (List Key × V)), NoIT d → RpT K W d v → RpT K (outW W a) d v
  | [], _, _, h => h
  | (_, d) :: ds, _, n, h => by obtain ⟨v, r, e1, h, t⟩ := h; exact ⟨v, r, e1, NoI.out e d v n.1 h, NoI.outT e ds r n.2 t⟩
theorem NoI.outK {C dx : Addr} {gs : List (Str × V)} (e : W.F a = some (.ins C dx gs)) : ∀ (d : List (Key × D)) (v : List (Key × V)), NoIK d → RpK K W d v → RpK K (outW W a) d v
  | [], _, _, h => h
  | (_, d) :: ds, _, n, h => by obtain ⟨v, r, e1, h, t⟩ := h; exact ⟨v, r, e1, NoI.out e d v n.1 h, NoI.outK e ds r n.2 t⟩
end
theorem NoIF.out {C dx : Addr} {gs : List (Str × V)} (e : W.F a = some (.ins C dx gs)) : ∀ (d : List (Str × D)) (v : List (Str × V)), NoIF d → RpF K W d v → RpF K (outW W a) d v
  | [], _, _, h => h
  | (_, d) :: ds, _, n, h => by obtain ⟨v, r, e1, h, t⟩ := h; exact ⟨v, r, e1, NoI.out e d v n.1 h, NoIF.out e ds r n.2 t⟩
theorem RO.out {C dx : Addr} {gs : List (Str × V)} (e : W.F a = some (.ins C dx gs)) {b : Addr} {o : HO} {d : D} (n : NoC d) (r : RO K W b o d) : RO K (outW W a) b o d := by
  cases o <;> cases d <;> first
    | exact False.elim r
    | exact NoI.outL e _ _ n r
    | exact NoI.outT e _ _ n r
    | exact NoI.outK e _ _ n r
    | exact ⟨r.1, r.2.1, NoIF.out e _ _ n r.2.2⟩
theorem SrcOk.out {C dx : Addr} {gs : List (Str × V)} {b : Addr} {c : Ct} (e : W.F a = some (.ins C dx gs)) (h : SrcOk K W H b c) : SrcOk K (outW W a) H b c :=
  ⟨h.obj, h.src, fun t => let ⟨d, o, q, p, r, n⟩ := h.con t; ⟨d, o, q, p, r.imp (fun r => r.out e n) (fun r => by
    obtain ⟨_, x, rfl, ⟨kvs, es, rfl, rfl, r2⟩ | ⟨kvs, es, rfl, rfl, r2⟩⟩ := r.lkd
    · exact ⟨rfl, NoI.outK e es kvs n r2⟩
    · exact ⟨rfl, NoI.outT e es kvs n r2⟩), n⟩⟩
def NoIS : SV → Prop
  | .dat d => NoI d
  | .new d => NoI d
  | .bor _ => False
end
section
variable {X : Cx} {K : PySem.W.Frag} {W W' : Wd} {P : Hp} {G : Gm} {σ : St} {H : Hp} {e : Expr} {es : List Expr} {p pos apos : Pos} {j k n : Nat} {f C : Addr} {fd : FuncData} {ps ks : List Str} {c m qual : Str} {st : Stmt} {dd : List D} {S : DSp} {gD : List D → List D → List D}
def dMethL (i : Nat) (c m : Str) (S : DSp) : DE := fun G Q => ownI c (gg G i) fun a fs => fs.lookup m = none ∧ S G.c [.ins a c fs] fun r j => NoIS r ∧ Q r (G.at j)
end
section
variable {X : Cx} {pins : List (Addr × Obj)} {σ : St} {H : Hp} {s : Shared} {d : Addr} {o : Obj}
end
section
variable {P : Program} {w : World} {K : PySem.W.Frag} {tg : Expr} {d : Addr} {o : Obj} {es : Array DictEntry} {ep : Nat}
end
section
variable {X : Cx} {tg e : Expr} {td : TE} {apos cpos : Pos}
end
section
variable {K : PySem.W.Frag} {W W' : Wd}
def valsT (es : List (List Key × D)) : List D := es.map (·.2)
def valsK (es : List (Key × D)) : List D := es.map (·.2)
end
def valsD (d : D) (k : List D → Prop) : Prop := match d with
  | .dT es => k (valsT es)
  | .dK es => k (valsK es)
  | _ => False
def dVals (i : Nat) : DI := fun G Q => frz G (.bor i) fun d G1 => valsD d fun ds => Q ds G1
section
variable {X : Cx} {K : PySem.W.Frag} {W : Wd} {P : Hp} {G : Gm} {σ : St} {H : Hp} {tg elt : Expr} {pos : Pos}
end
section
variable {X : Cx} {K : PySem.W.Frag} {W W' : Wd} {P : Hp} {G : Gm} {σ : St} {H : Hp} {e f o : Expr} {pos : Pos}
def dicD (d b : D) (k : Option D → Prop) : Prop := dAt b d k
def dGetE (te tk tx : DE) : DE := fun G Q => te G fun so G0 => frz G0 so fun d G1 => isD d = true ∧ tk G1 fun sk G2 => frz G2 sk fun b G3 => tx G3 fun sx G4 => frz G4 sx fun z G5 => dicD d b fun od => Q (.dat (od.getD z)) G5
def idxM (ds : List D) (y : D) (k : Nat → Prop) : Prop := ds.all flatD = true ∧ flatD y = true ∧ ∃ j z, ds[j]? = some z ∧ eqD z y = true ∧ (∀ m z', m < j → ds[m]? = some z' → eqD z' y = false) ∧ k j
def isLst : D → Bool
  | .lst _ => true
  | _ => false
def lstM (d : D) (k : List D → Prop) : Prop := match d with
  | .lst ds => k ds
  | _ => False
def dIndex (to te : DE) : DE := fun G Q => to G fun so G1 => (see G1 so fun d => isLst d = true) ∧ te G1 fun sy G2 => see G2 so fun d => see G2 sy fun y => lstM d fun ds => idxM ds y fun j => Q (.dat (.int j)) G2
def dgPutL (i : Nat) (tk : DE) : DG := fun sv G Q => frz G sv fun dv G1 => isOwn G1 i ∧ tk G1 fun sk G2 => frz G2 sk fun b G3 => intM b fun j => putL (gg G3 i) j dv fun d' => Q (gset G3 i (some (.own d')))
def getL (o : Option SC) (j : Int) (k : D → Prop) : Prop := match o with
  | some (.own (.lst ds)) => 0 ≤ j ∧ match ds[j.toNat]? with | some d => k d | none => False
  | _ => False
def dAugL (i : Nat) (op : Int → Int → Int) (tv tk : DE) : DS := fun E G => isOwn G i ∧ tk G fun sk G1 => frz G1 sk fun b G2 => intM b fun j => getL (gg G2 i) j fun d => intM d fun x => tv G2 fun sv G3 => frz G3 sv fun dv G4 => intM dv fun y => putL (gg G4 i) j (.int (op x y)) fun d' => E.nx (gset G4 i (some (.own d')))
end
section
variable {E : DEnds} {G : Gm} {Q : SV → Gm → Prop} {a b e : DE} {as bs : DA} {i n m : Nat} {c f : Str} {L : List (Option SC)} {k0 : Nat}
theorem x_fld : dFld c f a G Q = a G fun sv G1 => see G1 sv fun d => insM c d fun _ fs => fldM f fs fun x => Q (.dat x) G1 := rfl
theorem x_insm {ad : Addr} {fs : List (Str × D)} {k : Addr → List (Str × D) → Prop} : insM c (.ins ad c fs) k = k ad fs := by unfold insM; simp
theorem x_setf : dSetF i c f a E G = a G fun sv G1 => frz G1 sv fun d G2 => ownI c (gg G2 i) fun ad fs => fs.length < 1000 ∧ E.nx (gset G2 i (some (.own (.ins ad c (putFD f d fs))))) := rfl
theorem x_owni {ad : Addr} {fs : List (Str × D)} {k : Addr → List (Str × D) → Prop} : ownI c (some (.own (.ins ad c fs))) k = k ad fs := by unfold ownI insM; simp
theorem x_dgfld {sv : SV} {Qn : Gm → Prop} : dgFld i c f sv G Qn = frz G sv fun d G2 => ownI c (gg G2 i) fun ad fs => fs.length < 1000 ∧ Qn (gset G2 i (some (.own (.ins ad c (putFD f d fs))))) := rfl
theorem x_meth {m' : Str} {S : DSp} {gD : List D → List D → List D} : dMeth n c m' S gD a as G Q = a G fun sv G1 => frz G1 sv fun d G2 => insM c d fun _ fs => fs.lookup m' = none ∧ as G2 fun ds G3 => ds.length + 1 = n ∧ S G3.c (gD (d :: ds) []) (callK Q G3) := rfl
theorem x_make {S : ISp} {g2 : List D → List D → List D} : dMake n m c S g2 as bs G Q = as G fun ds G1 => bs G1 fun es G2 => ds.length + 1 = n ∧ es.length = m ∧ S G2.c (g2 ds es) fun fs j => ∀ ad, Q (.dat (.ins ad c fs)) (G2.at j) := rfl
theorem x_methl {S : DSp} : dMethL i c f S G Q = ownI c (gg G i) fun ad fs => fs.lookup f = none ∧ S G.c [.ins ad c fs] fun r j => NoIS r ∧ Q r (G.at j) := rfl
theorem x_getE : dGetE a b e G Q = a G fun so G0 => frz G0 so fun d G1 => isD d = true ∧ b G1 fun sk G2 => frz G2 sk fun k G3 => e G3 fun sx G4 => frz G4 sx fun z G5 => dAt k d fun od => Q (.dat (od.getD z)) G5 := rfl
theorem x_idT' {es : List (List Key × D)} : (isD (.dT es) = true) = True := by simp [isD]
theorem x_idK' {es : List (Key × D)} : (isD (.dK es) = true) = True := by simp [isD]
theorem x_index : dIndex a b G Q = a G fun so G1 => (see G1 so fun d => isLst d = true) ∧ b G1 fun sy G2 => see G2 so fun d => see G2 sy fun y => lstM d fun ds => idxM ds y fun j => Q (.dat (.int j)) G2 := rfl
theorem x_isl {ds : List D} : (isLst (.lst ds) = true) = True := by simp [isLst]
theorem x_lstm {ds : List D} {k : List D → Prop} : lstM (.lst ds) k = k ds := rfl
theorem x_augl {op : Int → Int → Int} : dAugL i op a b E G = (isOwn G i ∧ b G fun sk G1 => frz G1 sk fun k G2 => intM k fun j => getL (gg G2 i) j fun d => intM d fun x => a G2 fun sv G3 => frz G3 sv fun dv G4 => intM dv fun y => putL (gg G4 i) j (.int (op x y)) fun d' => E.nx (gset G4 i (some (.own d')))) := rfl
def getLM (o : Option D) (k : D → Prop) : Prop := match o with | some d => k d | none => False
theorem x_getl {ds : List D} {j : Int} {k : D → Prop} : getL (some (.own (.lst ds))) j k = (0 ≤ j ∧ getLM ds[j.toNat]? k) := rfl
theorem x_getlm {d : D} {k : D → Prop} : getLM (some d) k = k d := rfl
theorem x_dgputl {sv : SV} {Qn : Gm → Prop} : dgPutL i b sv G Qn = frz G sv fun dv G1 => isOwn G1 i ∧ b G1 fun sk G2 => frz G2 sk fun k G3 => intM k fun j => putL (gg G3 i) j dv fun d' => Qn (gset G3 i (some (.own d'))) := rfl
def vaM (o : Option SC) (G : Gm) (i : Nat) (f : D → Gm → Prop) : Prop := match o with | some (.own d) => f d (gset G i (some (.dat d))) | some (.dat d) => f d G | none => False
theorem x_vals {Qa : List D → Gm → Prop} {k1 : Ct} : dVals i ⟨L, k1⟩ Qa = vaM (ggl L i) ⟨L, k1⟩ i fun d G1 => valsD d fun ds => Qa ds G1 := rfl
theorem x_vao {d : D} {f : D → Gm → Prop} : vaM (some (.own d)) G i f = f d (gset G i (some (.dat d))) := rfl
theorem x_vad {d : D} {f : D → Gm → Prop} : vaM (some (.dat d)) G i f = f d G := rfl
def zipK (Qa : List D → Gm → Prop) (ds : List D) (G1 : Gm) : Prop := (dZip (fun G Q => Q ds G)) G1 Qa
theorem x_zip {Qa : List D → Gm → Prop} : dZip as G Qa = as G (zipK Qa) := rfl
theorem x_zipk {x y : List D} {Qa : List D → Gm → Prop} : zipK Qa [.lst x, .lst y] G = Qa (zipD x y) G := by
  show (([] : List D) = [] ∧ Qa (zipD x y) G) = _
  simp
theorem x_vdT {es : List (List Key × D)} {k : List D → Prop} : valsD (.dT es) k = k (valsT es) := rfl
theorem x_vdK {es : List (Key × D)} {k : List D → Prop} : valsD (.dK es) k = k (valsK es) := rfl
end
section LDx27
section
open PySem.W PySem.Calls
variable {P : Program} {w : World} {A : Around} {E : Value → Shared → Prop} {h : Heap} {g : Array GenState} {d : Drawn} {t : Nat} {os : OsState}
variable {nm q : Str} {C N : Addr} {bs bm : List Value} {hdct : Bool} {sn : List Str} {sub : List Value} {ab : Bool} {col : Option Bool} {dd : Option Addr} {k0 k1 k2 k3 k5 : Option Value}
end
section
open PySem.W PySem.Calls
variable {P : Program} {w : World} {K : PySem.W.Frag} {mg : Str → Option Value} {base : Heap} {C fI : Addr} {qual x f : Str} {st : Stmt} {fd : FuncData} {CX : CXT}
end
end LDx27
section LDx28
abbrev DW := Str → List (Str × D) → Gm → Prop
def ExR (K : PySem.W.Frag) (W : Wd) (c : Str) (fs : List (Str × D)) (cls : Value) (d : Option Addr) : Prop :=
  ∃ C, PySem.W.nsIn K mainGlobals c = some (some (.ref C)) ∧ cls = .ref C ∧ ((d = none ∧ fs = []) ∨ ∃ d0 gs, d = some d0 ∧ W.F d0 = some (.xd gs) ∧ RpF K W fs gs)
def WOk (K : PySem.W.Frag) (Wx : WX) (W : Wd) (P : Hp) (Xw : DW) : Prop := ∀ W' c fs G σ H cls d, W.le W' → Rl K W' P G σ H → ExR K W' c fs cls d → Xw c fs G → Wx cls d σ H
theorem WOk.le {K : PySem.W.Frag} {Wx : WX} {W W' : Wd} {P : Hp} {Xw : DW} (h : WOk K Wx W P Xw) (l : W.le W') : WOk K Wx W' P Xw := fun W2 c fs G σ H cls d l2 => h W2 c fs G σ H cls d (l.trans l2)
structure DEX extends DEnds where
  xc : DW := fun _ _ _ => False
abbrev DSX := DEX → Gm → Prop
section
variable {X : Cx} {K : PySem.W.Frag} {Wx : WX} {W : Wd} {P : Hp} {G : Gm} {σ : St} {H : Hp} {st : Stmt} {rst : List Stmt} {e : Expr} {pos : Pos}
variable {iter tg : Expr} {body : List Stmt}
def forLX (g : DG) (tb : DSX) (E : DEX) : List D → Gm → Prop
  | [], G => E.nx G
  | d :: r, G => g (.dat d) G fun G1 => tb { E with nx := forLX g tb E r, ct := forLX g tb E r, bk := E.nx } G1
end
end LDx28
section LDx29
structure FnX (P : Program) (w : World) (K : PySem.W.Frag) (mg : Str → Option Value) (base : Heap) (k : Nat) (f : Addr) (fd : FuncData) (ps : List Str) (sp : Sp) : Prop where
  len : ∀ vs H Q E, sp vs H Q E → vs.length = ps.length
  run : ∀ (A : Around) (outer : List Env) (s : Shared) (H : Hp) (args : Args) (us : List Value) (vs : List V) (Q : VK) (E : XK), A.guards = some [] → Room k A → Env0 P w K mg base A outer s H → BindsTo s fd args (ps.zip us) → Vals vs us → sp vs H Q E →
    codeAny (model P w) A (.call (.ref f) args) (CR (L2N.CX P w) outer P w H s Q E) s
section
variable {X : Cx} {k n : Nat} {f : Addr} {fd : FuncData} {ps ks : List Str} {sp : Sp} {x : Str} {p pos : Pos} {e : Expr} {es : List Expr} {kws : List Keyword} {t tk : TA} {g : List Value → List Value → List Value} {gV : List V → List V → List V} {Wx : WX}
end
abbrev DSpX := Ct → List D → (SV → Ct → Prop) → (Str → List (Str × D) → Ct → Prop) → Prop
section
variable {X : Cx} {k n : Nat} {f : Addr} {fd : FuncData} {ps ks : List Str} {S : DSpX} {x : Str} {p pos : Pos} {e : Expr} {es : List Expr} {kws : List Keyword} {gD : List D → List D → List D} {Wx : WX}
end
section
variable {X : Cx} {j k n : Nat} {st : Stmt} {dd : List D} {ps ks : List Str} {S : DSpX} {x : Str} {p pos : Pos} {e : Expr} {es : List Expr} {kws : List Keyword} {gD : List D → List D → List D} {Wx : WX}
end
end LDx29
section LDx30
section
variable {K : PySem.W.Frag} {W W' : Wd} {P : Hp} {G : Gm} {σ : St} {H : Hp}
end
section
variable {X : Cx} {K : PySem.W.Frag} {W W' : Wd} {P : Hp} {G : Gm} {σ : St} {H : Hp} {Wx : WX} {e : Expr} {es : List Expr} {p p2 pos pos' : Pos} {c f m : Str} {j : Nat}
end
end LDx30
section LDx31
open PySem PySem.Spec PyProof.Rows L2 L2N
abbrev TS3 := Addr → Value → Option Addr → TS
def goneE (i : Nat) (D : Ends) : Ends := { nx := fun σ H => D.nx (σ.set i none) H, rt := D.rt, bk := fun σ H => D.bk (σ.set i none) H, ct := fun σ H => D.ct (σ.set i none) H }
def wAll (K : PySem.W.Frag) (Wout : WX) (D : Ends) : List (Value × Option Nat × TS3) → WX
  | [] => Wout
  | (c, oi, ts) :: r => fun cls d σ H => ∃ b, PySem.W.exmOne K cls c = some b ∧ (b = true → ∀ a, H a = none → match oi with | none => ts a cls d D σ H | some i => ts a cls d (goneE i D) (σ.set i (some (.ref a))) H) ∧ (b = false → wAll K Wout D r cls d σ H)
inductive HdsA (X : Cx) : List ExceptHandler → List (Value × Option Nat × TS3) → Prop
  | nil : HdsA X [] []
  | bare {x : Str} {c : Value} {ts : TS3} {b₀ : Stmt} {suite : List Stmt} {np pos' : Pos} {hds : List ExceptHandler} {l : List (Value × Option Nat × TS3)} (hc : Names X x c)
      (hsu : ∀ (a : Addr) (oe : Obj) (cls : Value) (d : Option Addr) (pn : List (Addr × Obj)), Zn cls d oe → (∃ vs, oe.data = .fields vs) → PSs (X.suite a ((a, oe) :: pn)) (b₀ :: suite) (ts a cls d)) (r : HdsA X hds l) :
      HdsA X (.ExceptHandler (some (.Name x np)) none (b₀ :: suite) pos' :: hds) ((c, none, ts) :: l)
  | named {x n : Str} {i : Nat} {c : Value} {ts : TS3} {b₀ : Stmt} {suite : List Stmt} {np pos' : Pos} {hds : List ExceptHandler} {l : List (Value × Option Nat × TS3)} (hc : Names X x c) (hN : X.N.Nodup) (hi : X.N[i]? = some n) (hln : X.env.kindOf n = some .local)
      (hsu : ∀ (a : Addr) (oe : Obj) (cls : Value) (d : Option Addr) (pn : List (Addr × Obj)), Zn cls d oe → (∃ vs, oe.data = .fields vs) → PSs (X.suite a ((a, oe) :: pn)) (b₀ :: suite) (ts a cls d)) (r : HdsA X hds l) :
      HdsA X (.ExceptHandler (some (.Name x np)) (some n) (b₀ :: suite) pos' :: hds) ((c, some i, ts) :: l)
structure Caught (X : Cx) (pins : List (Addr × Obj)) (B : Heap) (a : Addr) (cls : Value) (d : Option Addr) (σ : L2.St) (H : Hp) (sI s : Shared) : Prop where
  inv : Inv X pins σ H sI
  out : ∀ b o, sI.heap.get? b = some o → b ∉ frs X.stack → B.get? b = some o
  up : sI.heap.UpToSlots s.heap
  fly : HandSPX.FlyingZ B (X.env :: X.outer) a (Zn cls d) s.heap
  new : H a = none
  os : s.os = sI.os
  ag : AllBare s.gens
section
variable {X : Cx} {pins : List (Addr × Obj)} {B : Heap} {a : Addr} {cls : Value} {d : Option Addr} {σ : L2.St} {H : Hp} {sI s : Shared}
theorem Caught.suite (c : Caught X pins B a cls d σ H sI s) (hf : X.env.frame = some X.env.locals) : ∃ oe, s.heap.get? a = some oe ∧ Zn cls d oe ∧ (∃ vs, oe.data = .fields vs) ∧ Inv (X.suite a ((a, oe) :: (X.pn ++ pins))) [] σ H s := by
  obtain ⟨oe, vs, he, hz, hd⟩ := c.fly.there
  have away : a ∉ frs (X.env :: X.outer) := fun hm => by
    obtain ⟨_, o, e, nf⟩ := c.fly.2.2.1.mem hm
    rw [he] at e
    exact nf vs (Option.some.inj e ▸ hd)
  refine ⟨oe, he, hz, ⟨vs, hd⟩, (c.inv.landed c.out c.fly.1 c.up c.os c.ag).suite he hd c.new (fun z => away ?_) fun hm => away ?_⟩
  · exact List.mem_filterMap.mpr ⟨X.env, List.mem_cons_self, by rw [hf, z]⟩
  · obtain ⟨e, he, q⟩ := List.mem_filterMap.mp hm
    exact List.mem_filterMap.mpr ⟨e, List.mem_cons_of_mem _ he, q⟩
theorem Caught.on (c : Caught X pins B a cls d σ H sI s) {h : Heap} (f : HandSPX.FlyingZ B (X.env :: X.outer) a (Zn cls d) h) (u : s.heap.UpToSlots h) : Caught X pins B a cls d σ H sI { s with heap := h } := ⟨c.inv, c.out, c.up.trans u, f, c.new, c.os, c.ag⟩
theorem Caught.pass {Wout : WX} {D : Ends} (c : Caught X pins B a cls d σ H sI s) (hs : X.stack = X.env :: X.outer) (hf : X.env.frame = some X.env.locals) (tk : L2N.Takes X Wout) (w : Wout cls d σ H) :
    wpAny (model X.prog X.w) X.A (handleBy (.ref a) X.env []) (SP X pins D) X.xe s := by
  obtain ⟨_, _, _, oe, vs, T, oT, ts', he, _, hd, h1, _⟩ := id c.fly
  have fin : wpAny (model X.prog X.w) X.A (setFlight (.ref a) X.env.frame) (fun _ s4 => wpAny (model X.prog X.w) X.A (throw (.ref a) : Sem Flow) (SP X pins D) X.xe s4) X.xe s := by
    rw [hf]
    refine HandSPX.setFlight_upZ c.fly fun h4 held u => wpAny_throw (tk _ _ ⟨a, B, sI, pins, σ, H, cls, d, rfl, c.inv, c.out, c.up.trans u, .inr (.inr ?_), c.new, c.os, c.ag, w⟩)
    rw [hs]; exact held
  refine wpAny_handleBy_nil ?_
  unfold PySem.passOn
  refine wpAny_bind (wpAny_field he hd h1 ?_)
  rw [if_neg (by simp)]
  first | exact wpAny_bind (wpAny_pure (wpAny_bind fin)) | exact wpAny_bind fin
theorem Caught.ask {D : Ends} {x : Str} {c : Value} {np pos' : Pos} {nm : Option Str} {body : List Stmt} {hds : List ExceptHandler} {b : Bool} (k : Caught X pins B a cls d σ H sI s) (hf : X.env.frame = some X.env.locals) (hc : Names X x c) (hb : PySem.W.exmOne X.K cls c = some b)
    (yes : b = true → codeAny (model X.prog X.w) (X.A.mark (some (.ref a))) (.handlers (.ref a) [.ExceptHandler none nm body pos'] X.env) (fun r s₂ => match r with
          | .ok f => (match nm with
            | none => SP X pins D f s₂
            | some n => wpAny (model X.prog X.w) X.A (do bindName X.env n .none; unbindBehindTheSuite X.env n pos') (fun _ s₃ => SP X pins D f s₃) X.xe s₂)
          | .error y => cameBackBy (model X.prog X.w) X.A X.env X.xe y s₂) s)
    (no : b = false → wpAny (model X.prog X.w) X.A (handleBy (.ref a) X.env hds) (SP X pins D) X.xe s) :
    wpAny (model X.prog X.w) X.A (handleBy (.ref a) X.env (.ExceptHandler (some (.Name x np)) nm body pos' :: hds)) (SP X pins D) X.xe s := by
  obtain ⟨oe, he, hz, _, S⟩ := k.suite hf
  have ty : PySem.W.Looks (model X.prog X.w) s.heap (typeOf (.ref a)) cls := fun A Q E s k q => wpAny_typeOf_ref (k _ _ he) (by rw [hz.1]; exact q)
  refine wpAny_handleBy_cons (codeAny_handlers_test ?_) (fun z => nomatch z)
  have named : ∀ {Q : Value → Shared → Prop} {E : Value → Shared → Prop}, Q c s → wpAny (model X.prog X.w) (X.A.mark (some (.ref a))) (eval (.Name x np) X.env) Q E s := fun {Q E} q => hc.2.2.elim (fun m => ld_glob S hc.1 m q hc.2.1) fun m => ld_blt S hc.1 m.1 m.2.1 q m.2.2 hc.2.1
  refine named ((PySem.W.exm_one (M := model X.prog X.w) S.kIn ty hb).here ?_)
  cases b with
  | true => exact yes rfl
  | false => exact no rfl
theorem Caught.go {Wout : WX} {D : Ends} (k : Caught X pins B a cls d σ H sI s) (hs : X.stack = X.env :: X.outer) (hf : X.env.frame = some X.env.locals) (tk : L2N.Takes X Wout) : ∀ {hds : List ExceptHandler} {l : List (Value × Option Nat × TS3)}, HdsA X hds l → wAll X.K Wout D l cls d σ H →
    wpAny (model X.prog X.w) X.A (handleBy (.ref a) X.env hds) (SP X pins D) X.xe s := by
  have ok := k.inv.ok
  intro hds l h
  induction h with
  | nil => exact fun w => k.pass hs hf tk w
  | bare hc hsu r ih =>
    rintro ⟨b, hb, yes, no⟩
    refine k.ask hf hc hb (fun e => codeAny_handlers_suite (HandSPX.lands_againZ k.fly fun h4 fl u => ?_)) fun e => ih (no e)
    obtain ⟨oe, he, hz, hv, S⟩ := (k.on fl u).suite hf
    refine wpAny_mono ((hsu a oe cls d (X.pn ++ pins) hz hv).run [] _ _ H _ S (yes e a k.new)) (fun f s6 q => ?_) fun _ _ z => z.elim
    cases f with
    | ret _ => exact q.elim fun v ⟨σ6, H6, S6, r6, q6⟩ => ⟨v, σ6, H6, S6.unsuite ok, r6, q6⟩
    | _ => exact q.elim fun σ6 ⟨H6, S6, q6⟩ => ⟨σ6, H6, S6.unsuite ok, q6⟩
  | @named x n i c ts b₀ suite np pos' hds l hc hN hi hln hsu r ih =>
    rintro ⟨b, hb, yes, no⟩
    refine k.ask hf hc hb (fun e => codeAny_handlers_suite_as (HandSPX.lands_againZ k.fly fun h4 fl u => ?_)) fun e => ih (no e)
    obtain ⟨oe, he, hz, hv, S⟩ := (k.on fl u).suite hf
    refine store_ok (X := X.suite a ((a, oe) :: (X.pn ++ pins))) (v := .ref a) S hN hi (.inl hln) rfl (fun s5 S5 => ?_) (.inr hln)
    refine wpAny_mono ((hsu a oe cls d (X.pn ++ pins) hz hv).run [] s5 _ H _ S5 (yes e a k.new)) (fun f s6 q => ?_) fun _ _ z => z.elim
    cases f with
    | ret _ => exact q.elim fun v ⟨σ6, H6, S6, r6, q6⟩ => gone_ok (S6.unsuite ok) hN hi hln fun s7 J => ⟨v, _, H6, J, r6, q6⟩
    | _ => exact q.elim fun σ6 ⟨H6, S6, q6⟩ => gone_ok (S6.unsuite ok) hN hi hln fun s7 J => ⟨_, H6, J, q6⟩
end
end LDx31
section LDx32
open PySem PySem.Spec PyProof.Rows L2 L2N
abbrev DTS := Addr → Str → Option Addr → DS
abbrev DCl := Str × Option Nat × DTS
section
variable {X : Cx} {xi : Str → Bool} {Wx : WX} {body : List Stmt} {h₀ : ExceptHandler} {hds : List ExceptHandler} {l : List DCl} {pos : Pos} {tb : DSX}
end
section
variable {X : Cx} {a C : Addr} {oe : Obj} {d : Option Addr} {pn : List (Addr × Obj)}
end
end LDx32
section LDx33
open PySem PySem.Spec PyProof.Rows L2 L2N
section
variable {X : Cx} {a C : Addr} {oe : Obj} {d : Option Addr} {pn : List (Addr × Obj)}
end
section
open PySem.W
variable {P : Program} {K : PySem.W.Frag} {mg : Str → Option Value} {xi : Str → Bool} {c x f : Str} {C CT fI : Addr}
end
end LDx33
section LDx34
namespace LDH
open PySem PySem.Spec PyProof.Rows HotX
section
variable {prog : Program} {w : World} {A : Around} {E : Value → Shared → Prop} {s : Shared}
end
end LDH
open PySem PySem.Spec PyProof.Rows L2 L2N
section
variable {X : Cx} {a : Addr} {oe : Obj} {d : Option Addr} {cls : Value} {pn : List (Addr × Obj)}
end
end LDx34
section LDx35
section
variable {X : Cx} {K : PySem.W.Frag} {W : Wd} {P : Hp} {G : Gm} {σ : St} {H : Hp} {o e : Expr}
end
end LDx35
section
variable {X : Cx} {K : PySem.W.Frag} {W W' : Wd} {P : Hp} {G : Gm} {σ : St} {H : Hp} {e f o : Expr} {pos : Pos}
def strD : D → Bool
  | .str _ => true
  | _ => false
def strOf : D → Str
  | .str y => y
  | _ => Str.empty
def cntM (ds : List D) (y : D) (k : Nat → Prop) : Prop := ds.all strD = true ∧ strD y = true ∧ k ((ds.map strOf).count (strOf y))
def dCount (to te : DE) : DE := fun G Q => to G fun so G1 => (see G1 so fun d => isLst d = true) ∧ te G1 fun sy G2 => see G2 so fun d => see G2 sy fun y => lstM d fun ds => cntM ds y fun j => Q (.dat (.int j)) G2
def dPrs : List (DE × DE) → (List (Str × D) → Gm → Prop) → Gm → Prop
  | [], Q, G => Q [] G
  | (tk, tv) :: r, Q, G => tk G fun sk G1 => frz G1 sk fun b G2 => tv G2 fun sv G3 => frz G3 sv fun dv G4 => match b with
    | .str x => dPrs r (fun ps G => Q ((x, dv) :: ps) G) G4
    | _ => False
def strK (ps : List (Str × D)) : List (Key × D) := ps.map fun kv => (.inr kv.1, kv.2)
def dDspN (ts : List (DE × DE)) : DE := fun G Q => dPrs ts (fun ps G => (ps.map (·.1)).Nodup ∧ ps.length ≤ 15 ∧ Q (.new (.dK (strK ps))) G) G
theorem x_count {to te : DE} {G : Gm} {Q : SV → Gm → Prop} : dCount to te G Q = (to G fun so G1 => (see G1 so fun d => isLst d = true) ∧ te G1 fun sy G2 => see G2 so fun d => see G2 sy fun y => lstM d fun ds => cntM ds y fun j => Q (.dat (.int j)) G2) := rfl
theorem x_dspN {ts : List (DE × DE)} {G : Gm} {Q : SV → Gm → Prop} : dDspN ts G Q = dPrs ts (fun ps G => (ps.map (·.1)).Nodup ∧ ps.length ≤ 15 ∧ Q (.new (.dK (strK ps))) G) G := rfl
def strM (b : D) (k : Str → Prop) : Prop := match b with
  | .str x => k x
  | _ => False
theorem x_strm {x : Str} {k : Str → Prop} : strM (.str x) k = k x := rfl
theorem x_prs0 {G : Gm} {Q : List (Str × D) → Gm → Prop} : dPrs [] Q G = Q [] G := rfl
theorem x_prs1 {tk tv : DE} {r : List (DE × DE)} {G : Gm} {Q : List (Str × D) → Gm → Prop} : dPrs ((tk, tv) :: r) Q G = tk G fun sk G1 => frz G1 sk fun b G2 => tv G2 fun sv G3 => frz G3 sv fun dv G4 => strM b fun x => dPrs r (fun ps G => Q ((x, dv) :: ps) G) G4 := by
  show (tk G fun sk G1 => frz G1 sk fun b G2 => tv G2 fun sv G3 => frz G3 sv fun dv G4 => _) = _
  refine congrArg (tk G) (funext fun sk => funext fun G1 => congrArg (frz G1 sk) (funext fun b => funext fun G2 => congrArg (tv G2) (funext fun sv => funext fun G3 => congrArg (frz G3 sv) (funext fun dv => funext fun G4 => ?_))))
  cases b <;> rfl
theorem strK_n : strK [] = [] := rfl
theorem strK_c {x : Str} {d : D} {r : List (Str × D)} : strK ((x, d) :: r) = (.inr x, d) :: strK r := rfl
end
section
variable {prog : Program} {w : World} {A : Around} {E : Value → Shared → Prop} {s : Shared} {l : Addr}
end
section
variable {X : Cx} {K : PySem.W.Frag} {W : Wd} {P : Hp} {G : Gm} {σ : St} {H : Hp}
end
section
variable {X : Cx} {K : PySem.W.Frag} {W : Wd} {P : Hp} {G : Gm} {σ : St} {H : Hp} {x : Str} {pos : Pos} {tg : Expr}
end
section
variable {X : Cx} {K : PySem.W.Frag} {W : Wd} {P : Hp} {G : Gm} {σ : St} {H : Hp} {tg iter tg1 iter1 elt : Expr} {pos : Pos}
def lcI (vs1 : List Nat) (g1 : DG) (tt1 : DT) (te : DE) (Nx : List D → Gm → Prop) : List D → List D → Gm → Prop
  | [], acc, G => Nx acc G
  | d :: r, acc, G => g1 (.dat d) G fun G1 => tt1 G1 fun b G2 => if b = true then te G2 fun sv G3 => frz G3 sv fun y G4 => acc.length < sizeLine ∧ lcI vs1 g1 tt1 te Nx r (acc ++ [y]) (wipeG vs1 G4) else lcI vs1 g1 tt1 te Nx r acc (wipeG vs1 G2)
def lcO (vs vs1 : List Nat) (g : DG) (tt : DT) (t1 : DI) (g1 : DG) (tt1 : DT) (te : DE) (Qe : List D → Gm → Prop) : List D → List D → Gm → Prop
  | [], acc, G => Qe acc G
  | d :: r, acc, G => g (.dat d) G fun G1 => tt G1 fun b G2 => if b = true then t1 G2 fun ds1 G3 => lcI vs1 g1 tt1 te (fun acc' G4 => lcO vs vs1 g tt t1 g1 tt1 te Qe r acc' (wipeG vs G4)) ds1 acc (wipeG vs1 G3) else lcO vs vs1 g tt t1 g1 tt1 te Qe r acc (wipeG vs G2)
def dLc2 (vs vs1 : List Nat) (t : DI) (g : DG) (tt : DT) (t1 : DI) (g1 : DG) (tt1 : DT) (te : DE) : DE := fun G Q => t G fun ds G1 => lcO vs vs1 g tt t1 g1 tt1 te (fun acc G2 => Q (.new (.lst acc)) (backG vs G1 G2)) ds [] (wipeG vs G1)
def dLRg2 (ta tb : DE) : DE := fun G Q => ta G fun sa G1 => isI sa fun i => tb G1 fun sb G2 => isI sb fun j => ((-(2 ^ 62) ≤ i ∧ i < 2 ^ 62) ∧ (-(2 ^ 62) ≤ j ∧ j < 2 ^ 62) ∧ (j - i).toNat ≤ 2 ^ 24) ∧ Q (.new (.lst (rangeD i (j - i).toNat))) G2
theorem x_lrg2 {ta tb : DE} {G : Gm} {Q : SV → Gm → Prop} : dLRg2 ta tb G Q = ta G fun sa G1 => isI sa fun i => tb G1 fun sb G2 => isI sb fun j => ((-(2 ^ 62) ≤ i ∧ i < 2 ^ 62) ∧ (-(2 ^ 62) ≤ j ∧ j < 2 ^ 62) ∧ (j - i).toNat ≤ 2 ^ 24) ∧ Q (.new (.lst (rangeD i (j - i).toNat))) G2 := rfl
theorem x_lc2 {vs vs1 : List Nat} {t t1 : DI} {g g1 : DG} {tt tt1 : DT} {te : DE} {G : Gm} {Q : SV → Gm → Prop} : dLc2 vs vs1 t g tt t1 g1 tt1 te G Q = t G fun ds G1 => lcO vs vs1 g tt t1 g1 tt1 te (fun acc G2 => Q (.new (.lst acc)) (backG vs G1 G2)) ds [] (wipeG vs G1) := rfl
def isDG (o : Option SC) : Bool := match o with
  | some (.dat (.dT _)) => true
  | some (.own (.dT _)) => true
  | _ => false
def dKeysA (i : Nat) : DI := fun G Q => if isDG (gg G i) = true then dKeys i G Q else dWalk (dVar i) G Q
def kAM (o : Option SC) (i : Nat) (G : Gm) (Q : List D → Gm → Prop) : Prop := if isDG o = true then dKeys i G Q else dWalk (dVar i) G Q
theorem x_keysA {i : Nat} {c : Ct} {L : List (Option SC)} {Q : List D → Gm → Prop} : dKeysA i ⟨L, c⟩ Q = kAM (ggl L i) i ⟨L, c⟩ Q := rfl
theorem x_kAd {i : Nat} {es : List (List Key × D)} {G : Gm} {Q : List D → Gm → Prop} : kAM (some (.dat (.dT es))) i G Q = dKeys i G Q := if_pos rfl
theorem x_kAl {i : Nat} {ds : List D} {G : Gm} {Q : List D → Gm → Prop} : kAM (some (.dat (.lst ds))) i G Q = dWalk (dVar i) G Q := if_neg Bool.false_ne_true
end
section
variable {X : Cx} {j k n : Nat} {st : Stmt} {dd : List D} {ps : List Str} {S : DSp} {x y : Str} {p pos : Pos} {e : Expr} {es : List Expr} {gD : List D → List D → List D}
end
section
variable {X : Cx} {tg : Expr}
end
def rngW2K (Q : List D → Gm → Prop) : List D → Gm → Prop := fun ds G1 => match ds with
  | [.int i, .int j] => Q (rangeD i (j - i).toNat) G1
  | _ => False
def dRngW2 (t : DA) : DI := fun G Q => t G (rngW2K Q)
section
variable {as : DA} {G : Gm} {Qa Q : List D → Gm → Prop} {i j : Int}
theorem x_rngW2 : dRngW2 as G Qa = as G (rngW2K Qa) := rfl
theorem x_rW2 : rngW2K Qa [.int i, .int j] G = Qa (rangeD i (j - i).toNat) G := rfl
end
abbrev Tri := Int × (Int × Int)
def trLe (p q : Tri) : Prop := p.1 < q.1 ∨ (p.1 = q.1 ∧ prLe p.2 q.2)
instance (p q : Tri) : Decidable (trLe p q) := by unfold trLe prLe; infer_instance
section
variable {X : Cx} {K : PySem.W.Frag} {W : Wd} {P : Hp} {G : Gm} {σ : St} {H : Hp}
end
section
variable {X : Cx} {K : PySem.W.Frag} {W : Wd} {P : Hp} {G : Gm} {σ : St} {H : Hp} {tg e : Expr} {apos cpos : Pos}
def newD (sv : SV) (k : D → Prop) : Prop := match sv with
  | .new d => k d
  | _ => False
def dValsN (te : DE) : DI := fun G Q => te G fun sv G1 => newD sv fun d => valsD d fun ds => Q ds G1
theorem x_valsN {te : DE} {G : Gm} {Q : List D → Gm → Prop} : dValsN te G Q = te G fun sv G1 => newD sv fun d => valsD d fun ds => Q ds G1 := rfl
theorem x_newd {d : D} {k : D → Prop} : newD (.new d) k = k d := rfl
end
open Sem (wp)
section
variable {prog : Program} {w : World} {A : Around} {E : Value → Shared → Prop} {s : Shared}
end
section
variable {prog : Program} {w : World} {A : Around} {R : Result → Shared → Prop}
end
section
variable {prog : Program} {w : World} {A : Around} {E : Value → Shared → Prop} {s : Shared}
end
section
variable {X : Cx} {K : PySem.W.Frag} {W : Wd} {P : Hp} {G : Gm} {σ : St} {H : Hp}
end
def truL (sv : SV) (k : Bool → Prop) : Prop := match sv with
  | .new (.lst ds) => k (!ds.isEmpty)
  | .dat (.lst ds) => k (!ds.isEmpty)
  | _ => False
def dOrL (t u : DE) : DE := fun G Q => t G fun s G1 => truL s fun b => if b = true then Q s G1 else u G1 Q
section
variable {X : Cx} {K : PySem.W.Frag} {W : Wd} {P : Hp} {G : Gm} {σ : St} {H : Hp} {a b : Expr} {es : List Expr} {pos : Pos}
theorem x_orl {t u : DE} {G : Gm} {Q : SV → Gm → Prop} : dOrL t u G Q = t G fun s G1 => truL s fun b => if b = true then Q s G1 else u G1 Q := rfl
theorem x_trn {ds : List D} {k : Bool → Prop} : truL (.new (.lst ds)) k = k (!ds.isEmpty) := rfl
theorem x_tupl {ds : List D} {q : SV → Prop} : dTuple (.lst ds) q = q (.dat (.tup ds)) := rfl
end
open Sem (wp)
section
variable {prog : Program} {w : World} {A : Around} {E : Value → Shared → Prop} {s : Shared}
end
section
variable {X : Cx} {K : PySem.W.Frag} {W : Wd} {P : Hp} {G : Gm} {σ : St} {H : Hp}
end
section
variable {X : Cx} {K : PySem.W.Frag} {W : Wd} {P : Hp} {G : Gm} {σ : St} {H : Hp}
def strPos : List D → Str → Option Nat
  | [], _ => none
  | .str y :: r, x => if y = x then some 0 else (match strPos r x with | some j => some (j + 1) | none => none)
  | _ :: _, _ => none
def ixM (c y : D) (k : Nat → Prop) : Prop := match c, y with
  | .tup ds, .str x => (match strPos ds x with | some j => k j | none => False)
  | _, _ => False
def dGlIx (c : D) (te : DE) : DE := fun G Q => te G fun sy G1 => see G1 sy fun y => ixM c y fun j => Q (.dat (.int j)) G1
section
variable {x : Str} {c : D} {e : Expr} {te : DE} {p0 pos : Pos}
end
theorem key_of {d : D} {k : Key} {v : V} (h : keyOf d = some k) (r : Rp K W d v) : v = kV k := by
  cases d <;> first | (cases h; done) | skip
  · cases h; exact r
  · cases h; exact r
theorem x_glix {c : D} {te : DE} {G : Gm} {Q : SV → Gm → Prop} : dGlIx c te G Q = te G fun sy G1 => see G1 sy fun y => ixM c y fun j => Q (.dat (.int j)) G1 := rfl
end
section
variable {X : Cx} {pins : List (Addr × Obj)} {σ : L2.St} {H : Hp} {s : Shared}
end
section
variable {K : PySem.W.Frag} {W : Wd} {P : Hp} {G : Gm} {σ : L2.St} {H : Hp} {X : Cx}
def idxN (ds : List D) (y : D) (k : Nat → Prop) : Prop := Pl 20 (.lst ds) ∧ Pl 20 y ∧ ∃ j z, ds[j]? = some z ∧ eqD z y = true ∧ (∀ m z', m < j → ds[m]? = some z' → eqD z' y = false) ∧ k j
def dIndexD (to te : DE) : DE := fun G Q => to G fun so G1 => (see G1 so fun d => isLst d = true) ∧ te G1 fun sy G2 => see G2 so fun d => see G2 sy fun y => lstM d fun ds => idxN ds y fun j => Q (.dat (.int j)) G2
theorem x_indexD {to te : DE} {G : Gm} {Q : SV → Gm → Prop} : dIndexD to te G Q = to G fun so G1 => (see G1 so fun d => isLst d = true) ∧ te G1 fun sy G2 => see G2 so fun d => see G2 sy fun y => lstM d fun ds => idxN ds y fun j => Q (.dat (.int j)) G2 := rfl
end
section
variable {X : Cx} {pins : List (Addr × Obj)} {σ : L2.St} {H : Hp} {s : Shared}
end
section
variable {K : PySem.W.Frag} {W W' : Wd} {P : Hp} {G : Gm} {σ : L2.St} {H : Hp} {X : Cx} {tg iter kx vx : Expr} {pos : Pos}
def dcL (vs : List Nat) (g : DG) (tt : DT) (tk tv : DE) (Qe : List (List Key × D) → Gm → Prop) : List D → List (List Key × D) → Gm → Prop
  | [], es, G => Qe es G
  | d :: r, es, G => g (.dat d) G fun G1 => tt G1 fun b G2 => if b = true then tk G2 fun sk G3 => frz G3 sk fun dk G4 => tv G4 fun sv G5 => frz G5 sv fun dv G6 => keyT dk fun ks => dcL vs g tt tk tv Qe r (putD es ks dv) (wipeG vs G6) else dcL vs g tt tk tv Qe r es (wipeG vs G2)
def dDc (vs : List Nat) (t : DI) (g : DG) (tt : DT) (tk tv : DE) : DE := fun G Q => t G fun ds G1 => ds.length ≤ sizeLine ∧ dcL vs g tt tk tv (fun es G2 => Q (.new (.dT es)) (backG vs G1 G2)) ds [] (wipeG vs G1)
end
section
variable {vs : List Nat} {g : DG} {tt : DT} {tk tv : DE} {G : Gm} {t : DI} {Q : DQ}
def brD (_ : Nat) (b : Bool) (vs : List Nat) (tk tv : DE) (k : List Key → D → Gm → Prop) (k' : Gm → Prop) (G : Gm) : Prop := if b = true then tk G fun sk G3 => frz G3 sk fun dk G4 => tv G4 fun sv G5 => frz G5 sv fun dv G6 => keyT dk fun ks => k ks dv (wipeG vs G6) else k' (wipeG vs G)
theorem x_brd1 {n0 : Nat} {k : List Key → D → Gm → Prop} {k' : Gm → Prop} : brD n0 true vs tk tv k k' G = tk G fun sk G3 => frz G3 sk fun dk G4 => tv G4 fun sv G5 => frz G5 sv fun dv G6 => keyT dk fun ks => k ks dv (wipeG vs G6) := by unfold brD; rw [if_pos rfl]
theorem x_brd0 {n0 : Nat} {k : List Key → D → Gm → Prop} {k' : Gm → Prop} : brD n0 false vs tk tv k k' G = k' (wipeG vs G) := by unfold brD; rw [if_neg Bool.false_ne_true]
def dcT (vs : List Nat) (g : DG) (tt : DT) (tk tv : DE) (d : D) (G : Gm) (k : List Key → D → Gm → Prop) (k' : Gm → Prop) : Prop := g (.dat d) G fun G1 => tt G1 fun b G2 => brD (0 + 0) b vs tk tv k k' G2
theorem x_dct {d : D} {k : List Key → D → Gm → Prop} {k' : Gm → Prop} : dcT vs g tt tk tv d G k k' = g (.dat d) G fun G1 => tt G1 fun b G2 => brD (0 + 0) b vs tk tv k k' G2 := rfl
theorem x_dc : dDc vs t g tt tk tv G Q = t G fun ds G1 => ds.length ≤ sizeLine ∧ dcL vs g tt tk tv (fun es G2 => Q (.new (.dT es)) (backG vs G1 G2)) ds [] (wipeG vs G1) := rfl
end
section
variable {K : PySem.W.Frag} {W W' : Wd} {P : Hp} {G : Gm} {σ : L2.St} {H : Hp} {X : Cx} {e : Expr} {pos : Pos}
def fmtM (d : D) (k : Str → Prop) : Prop := match d with
  | .str y => y.length ≤ sizeLine ∧ k y
  | .int i => i.natAbs.log2 < 1920 ∧ k (toString i)
  | _ => False
def dStr : D1 := fun d Q => fmtM d fun y => Q (.dat (.str y))
def dFmt (te : DE) : DE := fun G Q => te G fun sv G1 => see G1 sv fun d => fmtM d fun y => Q (.dat (.str y)) G1
def txtM (d : D) (k : Str → Prop) : Prop := match d with
  | .str y => k y
  | _ => False
def dJs : List DE → Str → Gm → (Str → Gm → Prop) → Prop
  | [], acc, G, Q => Q acc G
  | t :: ts, acc, G, Q => t G fun sv G1 => see G1 sv fun d => txtM d fun y => (acc ++ y).length ≤ sizeLine ∧ dJs ts (acc ++ y) G1 Q
def dJoin (ts : List DE) : DE := fun G Q => dJs ts Str.empty G fun out G1 => Q (.dat (.str out)) G1
theorem x_fmtS {y : Str} {k : Str → Prop} : fmtM (.str y) k = (y.length ≤ sizeLine ∧ k y) := rfl
theorem x_fmtI {i : Int} {k : Str → Prop} : fmtM (.int i) k = (i.natAbs.log2 < 1920 ∧ k (toString i)) := rfl
theorem x_str {d : D} {q : SV → Prop} : dStr d q = fmtM d fun y => q (.dat (.str y)) := rfl
theorem x_fmt {te : DE} {Q : DQ} : dFmt te G Q = te G fun sv G1 => see G1 sv fun d => fmtM d fun y => Q (.dat (.str y)) G1 := rfl
theorem x_txtM {y : Str} {k : Str → Prop} : txtM (.str y) k = k y := rfl
theorem x_js0 {acc : Str} {Q : Str → Gm → Prop} : dJs [] acc G Q = Q acc G := rfl
theorem x_js1 {t : DE} {ts : List DE} {acc : Str} {Q : Str → Gm → Prop} : dJs (t :: ts) acc G Q = t G fun sv G1 => see G1 sv fun d => txtM d fun y => (acc ++ y).length ≤ sizeLine ∧ dJs ts (acc ++ y) G1 Q := rfl
theorem x_join {ts : List DE} {Q : DQ} : dJoin ts G Q = dJs ts Str.empty G fun out G1 => Q (.dat (.str out)) G1 := rfl
end
def brW (_ : Nat) (b : Bool) (tb : DS) (E : DEnds) (N : Gm → Prop) (G : Gm) : Prop := if b = true then tb { E with nx := N, ct := N, bk := E.nx } G else E.nx G
theorem x_brw1 {n0 : Nat} {t : DS} {E : DEnds} {N : Gm → Prop} {G : Gm} : brW n0 true t E N G = t { E with nx := N, ct := N, bk := E.nx } G := by unfold brW; rw [if_pos rfl]
theorem x_brw0 {n0 : Nat} {t : DS} {E : DEnds} {N : Gm → Prop} {G : Gm} : brW n0 false t E N G = E.nx G := by unfold brW; rw [if_neg Bool.false_ne_true]
theorem x_par2 {i j : Nat} {ta tb : DE} {E : DEnds} {G : Gm} : dPar2 i j ta tb E G = ta G fun sa G1 => rest1 G1 sa fun ca G2 => tb G2 fun sb G3 => rest1 G3 sb fun cb G4 => E.nx (gset (gset G4 j (some cb)) i (some ca)) := rfl
def owM (o : Option SC) (f : List D → Prop) : Prop := match o with | some (.own (.lst ds)) => f ds | _ => False
theorem x_ownl {L : List (Option SC)} {c : Ct} {i : Nat} {f : List D → Prop} : ownL ⟨L, c⟩ i f = owM (ggl L i) f := rfl
theorem x_owm {ds : List D} {f : List D → Prop} : owM (some (.own (.lst ds))) f = f ds := rfl
theorem x_own {i : Nat} {r : List D → List D → (List D → D → Prop) → Prop} {t : DA} {G : Gm} {Q : SV → Gm → Prop} : dOwnL i r t G Q = (ownL G i (fun _ => True) ∧ t G fun ys G1 => ownL G1 i fun ds => r ds ys fun ds' d => Q (.dat d) (gset G1 i (some (.own (.lst ds'))))) := rfl
theorem x_app {ds : List D} {y : D} {k : List D → D → Prop} : mApp ds [y] k = (ds.length < sizeLine ∧ k (ds ++ [y]) .non) := rfl
theorem x_ext {ds es : List D} {k : List D → D → Prop} : mExt ds [.lst es] k = (ds.length + es.length ≤ sizeLine ∧ k (ds ++ es) .non) := rfl
def reM (o : Option SC) (G : Gm) (i : Nat) (f : SC → Gm → Prop) : Prop := match o with | some (.own d) => f (.dat d) (gset G i (some (.dat d))) | some (.dat d) => f (.dat d) G | none => False
theorem x_rsbo {L : List (Option SC)} {c : Ct} {i : Nat} {f : SC → Gm → Prop} : rest1 ⟨L, c⟩ (.bor i) f = reM (ggl L i) ⟨L, c⟩ i f := rfl
theorem x_reo {d : D} {G : Gm} {i : Nat} {f : SC → Gm → Prop} : reM (some (.own d)) G i f = f (.dat d) (gset G i (some (.dat d))) := rfl
theorem q_00 {f : Bool → Prop} : eqQ (.lst []) (.lst []) f = f true := by
  have e : eqD (.lst []) (.lst []) = true := by decide +kernel
  show (Pl 20 (.lst []) ∧ Pl 20 (.lst []) ∧ f (eqD (.lst []) (.lst []))) = _
  rw [e]; simp [Pl]
theorem sl_scr {ns : List Int} {lo hi : Option Int} {q : SV → Prop} : dSlc (.scr ns) lo hi q = q (.new (.lst (dSlc.cutV' (ns.map D.int) lo hi))) := rfl
theorem sl_t21 {a b : D} {q : SV → Prop} : dSlc (.tup [a, b]) none (some 1) q = q (.dat (.tup [a])) := by
  have e : dSlc.cutV' [a, b] none (some 1) = [a] := rfl
  show (¬ (HT.sIx 2 0 none = 0 ∧ HT.sIx 2 2 (some 1) = 2) ∧ q (.dat (.tup (dSlc.cutV' [a, b] none (some 1))))) = _
  rw [e, show HT.sIx 2 2 (some 1) = 1 from rfl]
  simp
theorem add_ll {a b : List D} {q : SV → Prop} : dAdd (.lst a) (.lst b) q = (a.length + b.length ≤ sizeLine ∧ q (.new (.lst (a ++ b)))) := rfl
theorem x_dvmF {x y : Int} {q : SV → Prop} : dDivmodF [.int x, .int y] q = ((y ≠ 0 ∧ y.natAbs.log2 < 9000) ∧ q (.dat (.tup [.int (x.fdiv y), .int (x.fmod y)]))) := by show (([] : List D) = [] ∧ _) = _; simp
theorem x_dvm {x y : Int} {q : SV → Prop} : dDivmod [.int x, .int y] q = ((0 < y ∧ y.natAbs.log2 < 9000) ∧ q (.dat (.tup [.int (x / y), .int (x % y)]))) := by show (([] : List D) = [] ∧ _) = _; simp
def auM (o : Option SC) (i : Nat) (dr : D2) (t : DE) (E : DEnds) (G : Gm) : Prop := match o with
  | some (.dat a) => t G fun sv G1 => see G1 sv fun b => flatD a = true ∧ dr a b fun r => rest1 G1 r fun c G2 => E.nx (gset G2 i (some c))
  | _ => False
theorem x_aug {i : Nat} {dr : D2} {t : DE} {E : DEnds} {L : List (Option SC)} {c : Ct} : dAug i dr t E ⟨L, c⟩ = auM (ggl L i) i dr t E ⟨L, c⟩ := rfl
theorem x_aum {i : Nat} {dr : D2} {t : DE} {E : DEnds} {G : Gm} {a : D} : auM (some (.dat a)) i dr t E G = t G fun sv G1 => see G1 sv fun b => flatD a = true ∧ dr a b fun r => rest1 G1 r fun c G2 => E.nx (gset G2 i (some c)) := rfl
def maxI (a b : Int) : Int := if b > a then b else a
def minI (a b : Int) : Int := if b < a then b else a
def absI (i : Int) : Int := if i < 0 then -i else i
theorem maxI_eq {a b : Int} : maxI a b = max a b := by unfold maxI; split <;> omega
theorem minI_eq {a b : Int} : minI a b = min a b := by unfold minI; split <;> omega
theorem y_max {x y : Int} {q : SV → Prop} : dMax2 [.int x, .int y] q = q (.dat (.int (maxI x y))) := x_max
theorem y_min {x y : Int} {q : SV → Prop} : dMin2 [.int x, .int y] q = q (.dat (.int (minI x y))) := x_min
theorem y_abs {x : Int} {q : SV → Prop} : dAbs (.int x) q = q (.dat (.int (absI x))) := rfl
theorem pickL_rev {α : Type} (xs : List α) : pickL xs none none (some (-1)) = xs.reverse := by
  unfold pickL
  have e1 : sliceBounds none none (some (-1)) xs.length = ((xs.length : Int) - 1, -1, -1) := rfl
  rw [e1]
  unfold sliceRange
  simp only
  rw [if_neg (by decide)]
  have e2 : (if ((xs.length : Int) - 1 > -1) then ((xs.length : Int) - 1 - -1 - -1 - 1) / - -1 else 0).toNat = xs.length := by
    simp only [Int.neg_neg, Int.ediv_one]
    split <;> omega
  rw [e2, List.filterMap_map]
  refine List.ext_getElem? fun i => ?_
  have e3 : ∀ m ∈ List.range xs.length, ((fun i => xs[i]?) ∘ fun k : Nat => ((xs.length : Int) - 1 + -1 * (k : Int)).toNat) m = (xs.reverse)[m]? := fun m hm => by
    have hm := List.mem_range.mp hm
    show xs[((xs.length : Int) - 1 + -1 * (m : Int)).toNat]? = _
    rw [List.getElem?_reverse hm, show ((xs.length : Int) - 1 + -1 * (m : Int)).toNat = xs.length - 1 - m by omega]
  rw [fm_congr (g := fun m => (xs.reverse)[m]?) e3]
  have e4 : ∀ (ys : List α), (List.range ys.length).filterMap (fun m => ys[m]?) = ys := fun ys => by
    induction ys with
    | nil => rfl
    | cons y ys ih =>
      rw [List.length_cons, List.range_succ_eq_map, List.filterMap_cons, List.filterMap_map]
      show y :: List.filterMap (fun m => ys[m]?) _ = _
      rw [ih]
  rw [← List.length_reverse, e4]
theorem x_sl3 {a : DE} {lo hi st : DO} {G : Gm} {Q : SV → Gm → Prop} : dSl3 a lo hi st G Q = a G fun sa G1 => lo G1 fun lo G2 => hi G2 fun hi G3 => st G3 fun st G4 => see G4 sa fun x => dSlc3 x lo hi st fun r => Q r G4 := rfl
theorem sl3_r {ds : List D} {q : SV → Prop} : dSlc3 (.lst ds) none none (some (-1)) q = q (.new (.lst ds.reverse)) := by
  show (_ ≠ _ ∧ _) = _
  rw [pickL_rev]; simp
theorem sl3_t {ds : List D} {q : SV → Prop} : dSlc3 (.tup ds) none none (some (-1)) q = q (.dat (.tup ds.reverse)) := by
  show (_ ∧ _ ∧ _ ∧ _) = _
  simp
theorem sl_lst {ds : List D} {lo hi : Option Int} {q : SV → Prop} : dSlc (.lst ds) lo hi q = q (.new (.lst (dSlc.cutV' ds lo hi))) := rfl
theorem x_lrg {t : DE} {G : Gm} {Q : SV → Gm → Prop} : dLRg1 t G Q = t G fun sv G1 => isI sv fun j => (0 ≤ j ∧ j ≤ 16777216) ∧ Q (.new (.lst (rangeD 0 j.toNat))) G1 := rfl
theorem x_isI {x : Int} {f : Int → Prop} : isI (.dat (.int x)) f = f x := rfl
theorem x_pops {ds ys : List D} {d : D} {k : List D → D → Prop} : mPop (ds ++ [d]) ys k = k ds d := by unfold mPop; rw [List.getLast?_concat, List.dropLast_concat]
theorem x_dspS {tk tv : DE} {G : Gm} {Q : SV → Gm → Prop} : dDspS tk tv G Q = tk G fun sk G1 => frz G1 sk fun b G2 => tv G2 fun sv G3 => frz G3 sv fun dv G4 => match b with | .str x => Q (.new (.dK [(.inr x, dv)])) G4 | _ => False := rfl
theorem x_dsp1 {tk tv : DE} {G : Gm} {Q : SV → Gm → Prop} : dDsp1 tk tv G Q = tk G fun sk G1 => frz G1 sk fun b G2 => tv G2 fun sv G3 => frz G3 sv fun dv G4 => keyT b fun ks => Q (.new (.dT [(ks, dv)])) G4 := rfl
def isOwM (o : Option SC) : Prop := match o with | some (.own _) => True | _ => False
def puM (o : Option SC) (b dv : D) (k : D → Prop) : Prop := match o with
  | some (.own (.dT es)) => keyT b fun ks => es.length < sizeLine ∧ k (.dT (putD es ks dv))
  | some (.own (.dK es)) => (match keyOf b with | some kk => es.length < sizeLine ∧ k (.dK (putD es kk dv)) | none => False)
  | _ => False
theorem x_put {i : Nat} {tv tk : DE} {E : DEnds} {G : Gm} : dPut i tv tk E G = tv G fun sv G1 => frz G1 sv fun dv G2 => isOwn G2 i ∧ tk G2 fun sk G3 => frz G3 sk fun b G4 => putO G4 i b dv fun d' => E.nx (gset G4 i (some (.own d'))) := rfl
theorem x_isown {L : List (Option SC)} {c : Ct} {i : Nat} : isOwn ⟨L, c⟩ i = isOwM (ggl L i) := rfl
theorem x_isowm {d : D} : isOwM (some (.own d)) = True := rfl
theorem x_puto {L : List (Option SC)} {c : Ct} {i : Nat} {b dv : D} {k : D → Prop} : putO ⟨L, c⟩ i b dv k = puM (ggl L i) b dv k := by
  show putO _ _ _ _ _ = _
  unfold putO puM
  rw [show gg (⟨L, c⟩ : Gm) i = ggl L i from rfl]
  generalize ggl L i = o
  cases o with
  | none => rfl
  | some s => cases s with
    | dat d => rfl
    | own d => cases d <;> first | rfl | (cases b <;> rfl)
theorem x_puT {es : List (List Key × D)} {b dv : D} {k : D → Prop} : puM (some (.own (.dT es))) b dv k = keyT b fun ks => es.length < sizeLine ∧ k (.dT (putD es ks dv)) := rfl
theorem x_puKi {es : List (Key × D)} {x : Int} {dv : D} {k : D → Prop} : puM (some (.own (.dK es))) (.int x) dv k = (es.length < sizeLine ∧ k (.dK (putD es (.inl x) dv))) := rfl
theorem kT_ii {a b : Int} {k : List Key → Prop} : keyT (.tup [.int a, .int b]) k = k [.inl a, .inl b] := rfl
theorem x_lendT {es : List (List Key × D)} {q : SV → Prop} : dLen (.dT es) q = q (.dat (.int es.length)) := rfl
theorem x_lendK {es : List (Key × D)} {q : SV → Prop} : dLen (.dK es) q = q (.dat (.int es.length)) := rfl
theorem in_dT {a b : Int} {es : List (List Key × D)} {q : SV → Prop} : dIn (.tup [.int a, .int b]) (.dT es) q = q (.dat (.bl (valD es [.inl a, .inl b]).isSome)) := rfl
theorem nin_dT {a b : Int} {es : List (List Key × D)} {q : SV → Prop} : dNotIn (.tup [.int a, .int b]) (.dT es) q = q (.dat (.bl (!(valD es [.inl a, .inl b]).isSome))) := rfl
theorem x_dkeys {i : Nat} {G : Gm} {Q : List D → Gm → Prop} : dKeys i G Q = frz G (.bor i) fun d G1 => keysD d fun ds => Q ds G1 := rfl
theorem x_kdT {es : List (List Key × D)} {k : List D → Prop} : keysD (.dT es) k = k (keysT es) := rfl
theorem x_kdK {es : List (Key × D)} {k : List D → Prop} : keysD (.dK es) k = k (keysK es) := rfl
theorem x_star {t : DE} {u : DA} {G : Gm} {Q : List D → Gm → Prop} : dStar t u G Q = t G fun s G1 => frz G1 s fun d G2 => itemsD d fun xs => u G2 fun ds G3 => Q (xs ++ ds) G3 := rfl
theorem x_itl {ds : List D} {k : List D → Prop} : itemsD (.lst ds) k = k ds := rfl
theorem x_itt {ds : List D} {k : List D → Prop} : itemsD (.tup ds) k = k ds := rfl
theorem x_its {ns : List Int} {k : List D → Prop} : itemsD (.scr ns) k = k (ns.map D.int) := rfl
theorem x_getn {i : Nat} {tk tx : DE} {G : Gm} {Q : SV → Gm → Prop} : dGetN i tk tx G Q = (isDic (gg G i) ∧ tk G fun sk G1 => frz G1 sk fun b G2 => tx G2 fun sx G3 => frz G3 sx fun z G4 => dicM (gg G4 i) b fun od => Q (.dat (od.getD z)) G4) := rfl
theorem x_getn1 {i : Nat} {tk : DE} {G : Gm} {Q : SV → Gm → Prop} : dGetN1 i tk G Q = (isDic (gg G i) ∧ tk G fun sk G1 => frz G1 sk fun b G2 => dicM (gg G2 i) b fun od => Q (.dat (od.getD .non)) G2) := rfl
theorem x_putl {i : Nat} {tv tk : DE} {E : DEnds} {G : Gm} : dPutL i tv tk E G = tv G fun sv G1 => frz G1 sv fun dv G2 => isOwn G2 i ∧ tk G2 fun sk G3 => frz G3 sk fun b G4 => intM b fun j => putL (gg G4 i) j dv fun d' => E.nx (gset G4 i (some (.own d'))) := rfl
theorem x_intm {j : Int} {k : Int → Prop} : intM (.int j) k = k j := rfl
theorem x_idT {es : List (List Key × D)} : isDic (some (.own (.dT es))) = True := by unfold isDic isD; simp
theorem x_idK {es : List (Key × D)} : isDic (some (.own (.dK es))) = True := by unfold isDic isD; simp
theorem x_idTd {es : List (List Key × D)} : isDic (some (.dat (.dT es))) = True := by unfold isDic isD; simp
theorem x_idKd {es : List (Key × D)} : isDic (some (.dat (.dK es))) = True := by unfold isDic isD; simp
theorem x_dico {b d : D} {k : Option D → Prop} : dicM (some (.own d)) b k = dAt b d k := rfl
theorem x_dicd {b d : D} {k : Option D → Prop} : dicM (some (.dat d)) b k = dAt b d k := rfl
theorem x_putlo {ds : List D} {j : Int} {dv : D} {k : D → Prop} : putL (some (.own (.lst ds))) j dv k = ((0 ≤ j ∧ j < ds.length) ∧ k (.lst (ds.set j.toNat dv))) := rfl
theorem x_dA2 {a b : Int} {es : List (List Key × D)} {k : Option D → Prop} : dAt (.tup [.int a, .int b]) (.dT es) k = k (valD es [.inl a, .inl b]) := rfl
theorem x_dAi {a : Int} {es : List (Key × D)} {k : Option D → Prop} : dAt (.int a) (.dK es) k = k (valD es (.inl a)) := rfl
theorem x_dAs {a : Str} {es : List (Key × D)} {k : Option D → Prop} : dAt (.str a) (.dK es) k = k (valD es (.inr a)) := rfl
theorem x_par3 {i j l : Nat} {ta tb tc : DE} {E : DEnds} {G : Gm} : dPar3 i j l ta tb tc E G = ta G fun sa G1 => rest1 G1 sa fun ca G2 => tb G2 fun sb G3 => rest1 G3 sb fun cb G4 => tc G4 fun sc G5 => rest1 G5 sc fun cc G6 => E.nx (gset (gset (gset G6 l (some cc)) j (some cb)) i (some ca)) := rfl
theorem x_sortSet {ta : DE} {G : Gm} {Q : SV → Gm → Prop} : dSortSet ta G Q = ta G fun sv G1 => frz G1 sv fun d G2 => sortSetK d fun qs => Q (.new (.lst (qs.map prD))) G2 := rfl
theorem x_callKB {n : Nat} {S : DSp} {gD : List D → List D → List D} {u : DAT} {G : Gm} {Q : SV → Gm → Prop} : dCallKB n S gD u G Q = u G fun ss G1 => ss.length = n ∧ seeAll G1 ss fun ds => noMobL ds ∧ S G1.c.bare (gD [] ds) fun r j => flatS r = true ∧ Q r (G1.at (G1.c.put j)) := rfl
theorem x_callB {n : Nat} {S : DSp} {gD : List D → List D → List D} {u : DAT} {G : Gm} {Q : SV → Gm → Prop} : dCallB n S gD u G Q = u G fun ss G1 => ss.length = n ∧ seeAll G1 ss fun ds => noMobL (gD ds []) ∧ noMobL ds ∧ S G1.c.bare (gD ds []) fun r j => flatS r = true ∧ Q r (G1.at (G1.c.put j)) := rfl
theorem x_flb {b : Bool} : flatS (.dat (.bl b)) = true := rfl
theorem x_fli {b : Int} : flatS (.dat (.int b)) = true := rfl
theorem x_fls {b : Str} : flatS (.dat (.str b)) = true := rfl
theorem x_fln : flatS (.dat .non) = true := rfl
theorem x_flt {ds : List D} : flatS (.dat (.tup ds)) = ds.all flatD := rfl
theorem x_ftn : ([] : List D).all flatD = true := rfl
theorem x_ftc {i : Int} {r : List D} : (D.int i :: r).all flatD = r.all flatD := rfl
theorem x_reprl {u : DAT} {G : Gm} {Q : SV → Gm → Prop} : dReprL u G Q = u G fun ss G1 => ss.length ≤ sizeLine ∧ seeAll G1 ss fun ds => dRepr (.lst ds) fun r => Q r G1 := rfl
theorem x_nilT {G : Gm} {Q : List SV → Gm → Prop} : dNilT G Q = Q [] G := rfl
theorem x_consT {t : DE} {u : DAT} {G : Gm} {Q : List SV → Gm → Prop} : dConsT t u G Q = t G fun s G1 => u G1 fun ss G2 => Q (keepS s :: ss) G2 := rfl
theorem x_kpn {d : D} : keepS (.new d) = .dat d := rfl
theorem x_kpd {d : D} : keepS (.dat d) = .dat d := rfl
theorem x_kpb {i : Nat} : keepS (.bor i) = .bor i := rfl
theorem x_sa0 {G : Gm} {k : List D → Prop} : seeAll G [] k = k [] := rfl
theorem x_sac {G : Gm} {s : SV} {ss : List SV} {k : List D → Prop} : seeAll G (s :: ss) k = see G s fun d => seeAll G ss fun ds => k (d :: ds) := rfl
theorem x_dnk {G : Gm} {Q : SV → Gm → Prop} : dDnK G Q = Q (.new (.dK [])) G := rfl
theorem x_dnt {G : Gm} {Q : SV → Gm → Prop} : dDnT G Q = Q (.new (.dT [])) G := rfl
theorem x_isik {U : String} {x : List (Key × D)} {q : SV → Prop} (h : U ∈ kits := by decide) : dIsi [.dK x, .ty U] q = q (.dat (.bl (isT "dict" U))) := by show (([] : List D) = [] ∧ U ∈ kits ∧ _) = _; simp [h, clsD]
theorem k_dict : ("dict" : String) ∈ kits := by decide
theorem T_nb : isT "NoneType" "bool" = false := by decide
theorem T_ns : isT "NoneType" "str" = false := by decide
theorem T_nl : isT "NoneType" "list" = false := by decide
theorem T_nd : isT "NoneType" "dict" = false := by decide
theorem T_bs : isT "bool" "str" = false := by decide
theorem T_bt : isT "bool" "tuple" = false := by decide
theorem T_bl : isT "bool" "list" = false := by decide
theorem T_bd : isT "bool" "dict" = false := by decide
theorem T_is : isT "int" "str" = false := by decide
theorem T_id : isT "int" "dict" = false := by decide
theorem T_sb : isT "str" "bool" = false := by decide
theorem T_sl : isT "str" "list" = false := by decide
theorem T_sd : isT "str" "dict" = false := by decide
theorem T_tb : isT "tuple" "bool" = false := by decide
theorem T_ts : isT "tuple" "str" = false := by decide
theorem T_td : isT "tuple" "dict" = false := by decide
theorem T_lb : isT "list" "bool" = false := by decide
theorem T_ls : isT "list" "str" = false := by decide
theorem T_ld : isT "list" "dict" = false := by decide
theorem T_di : isT "dict" "int" = false := by decide
theorem T_db : isT "dict" "bool" = false := by decide
theorem T_ds : isT "dict" "str" = false := by decide
theorem T_dt : isT "dict" "tuple" = false := by decide
theorem T_dl : isT "dict" "list" = false := by decide
theorem T_dd : isT "dict" "dict" = true := by decide
theorem x_ltu {ds : List D} {q : SV → Prop} : dList (.tup ds) q = q (.new (.lst ds)) := rfl
theorem x_lls {ds : List D} {q : SV → Prop} : dList (.lst ds) q = q (.new (.lst ds)) := rfl
theorem add_tt {x y : D} {a b : List D} {q : SV → Prop} : dAdd (.tup (x :: a)) (.tup (y :: b)) q = ((x :: a).length + (y :: b).length ≤ sizeLine ∧ q (.dat (.tup ((x :: a) ++ (y :: b))))) := by show (_ ≠ _ ∧ _ ≠ _ ∧ _) = _; simp
theorem sel_n {α : Type} {l : List α} : sel [] l = [] := rfl
theorem sel_c {α : Type} {i : Nat} {p : List Nat} {x : α} {l : List α} : sel (i :: p) (x :: l) = ((x :: l)[i]?).toList ++ sel p (x :: l) := by
  unfold sel; rw [List.filterMap_cons]; cases (x :: l)[i]? <;> rfl
theorem o_tl {α : Type} {x : α} : (some x).toList = [x] := rfl
theorem XP : (type_of% @x_seq) ∧ (type_of% @x_next) ∧ (type_of% @x_brk) ∧ (type_of% @x_cnt) ∧ (type_of% @x_drop) ∧ (type_of% @x_ret) ∧ (type_of% @x_retN) ∧ (type_of% @x_never) ∧ (type_of% @x_rtd) ∧ (type_of% @x_rtn) ∧ (type_of% @x_brs1) ∧ (type_of% @x_brs0) ∧ (type_of% @x_asg) ∧ (type_of% @x_rsd) ∧ (type_of% @x_rsn) ∧ (type_of% @x_tgt) ∧ (type_of% @x_unl) ∧ (type_of% @x_gnil) ∧ (type_of% @x_gcons) ∧ (type_of% @x_par) ∧ (type_of% @x_park) ∧ (type_of% @x_for) ∧ (type_of% @x_c) ∧ (type_of% @x_bin) ∧ (type_of% @x_un) ∧ (type_of% @x_bn) ∧ (type_of% @x_seed) ∧ (type_of% @x_seen) ∧ (type_of% @x_frd) ∧ (type_of% @x_frn) ∧ (type_of% @x_tst) ∧ (type_of% @x_isb) ∧ (type_of% @x_nott) ∧ (type_of% @x_andt) ∧ (type_of% @x_ort) ∧ (type_of% @x_brt1) ∧ (type_of% @x_brt0) ∧ (type_of% @x_bro1) ∧ (type_of% @x_bro0) ∧ (type_of% @x_andv) ∧ (type_of% @x_orv) ∧ (type_of% @x_bra1) ∧ (type_of% @x_bra0) ∧ (type_of% @x_brr1) ∧ (type_of% @x_brr0) ∧ (type_of% @x_notv) ∧ (type_of% @x_if) ∧ (type_of% @x_bre1) ∧ (type_of% @x_bre0) ∧ (type_of% @x_chn) ∧ (type_of% @x_nil) ∧ (type_of% @x_cons) ∧ (type_of% @x_tup) ∧ (type_of% @x_lst) ∧ (type_of% @x_call) ∧ (type_of% @x_ck) ∧ (type_of% @x_wlk) ∧ (type_of% @x_asll) ∧ (type_of% @x_aslt) ∧ (type_of% @x_sle) ∧ (type_of% @x_nop) ∧ (type_of% @x_prt) ∧ (type_of% @x_lc) ∧ (type_of% @x_add) ∧ (type_of% @x_addb) ∧ (type_of% @x_sub) ∧ (type_of% @x_mul) ∧ (type_of% @x_fdv) ∧ (type_of% @x_mod) ∧ (type_of% @x_pow) ∧ (type_of% @x_neg) ∧ (type_of% @x_cmp) ∧ (type_of% @x_iadd) ∧ (type_of% @x_int) ∧ (type_of% @x_intb) ∧ (type_of% @L_t1) ∧ (type_of% @L_t2) ∧ (type_of% @L_t3) ∧ (type_of% @L_l0) ∧ (type_of% @L_l1) ∧ (type_of% @L_l2) ∧ (type_of% @L_l3) ∧ (type_of% @x_ixt) ∧ (type_of% @x_ixl) ∧ (type_of% @x_atq) ∧ (type_of% @x_eq) ∧ (type_of% @x_ne) ∧ (type_of% @x_eqi) ∧ (type_of% @x_eqs) ∧ (type_of% @x_isn) ∧ (type_of% @x_isnn) ∧ (type_of% @x_isii) ∧ (type_of% @x_isib) ∧ (type_of% @x_isin) ∧ (type_of% @x_isis) ∧ (type_of% @x_isit) ∧ (type_of% @x_isil) ∧ (type_of% @q_pp) ∧ (type_of% @b_all2) ∧ (type_of% @b_all3) ∧ (type_of% @x_dert) ∧ (type_of% @x_denx) ∧ (type_of% @x_brl1) ∧ (type_of% @x_brl0) ∧ (type_of% @x_lcn) ∧ (type_of% @x_lcc) ∧ (type_of% @x_yes) ∧ (type_of% @x_brk1) ∧ (type_of% @x_brk0) ∧ (type_of% @x_lct) ∧ (type_of% @x_fon) ∧ (type_of% @v0) ∧ (type_of% @w0) ∧ (type_of% @n0) ∧ (type_of% @m0) ∧ (type_of% @sb0) ∧ (type_of% @fb0) ∧ (type_of% @rb0) ∧ (type_of% @v1) ∧ (type_of% @w1) ∧ (type_of% @n1) ∧ (type_of% @m1) ∧ (type_of% @sb1) ∧ (type_of% @fb1) ∧ (type_of% @rb1) ∧ (type_of% @v2) ∧ (type_of% @w2) ∧ (type_of% @n2) ∧ (type_of% @m2) ∧ (type_of% @sb2) ∧ (type_of% @fb2) ∧ (type_of% @rb2) ∧ (type_of% @v3) ∧ (type_of% @w3) ∧ (type_of% @n3) ∧ (type_of% @m3) ∧ (type_of% @sb3) ∧ (type_of% @fb3) ∧ (type_of% @rb3) ∧ (type_of% @v4) ∧ (type_of% @w4) ∧ (type_of% @n4) ∧ (type_of% @m4) ∧ (type_of% @sb4) ∧ (type_of% @fb4) ∧ (type_of% @rb4) ∧ (type_of% @v5) ∧ (type_of% @w5) ∧ (type_of% @n5) ∧ (type_of% @m5) ∧ (type_of% @sb5) ∧ (type_of% @fb5) ∧ (type_of% @rb5) ∧ (type_of% @v6) ∧ (type_of% @w6) ∧ (type_of% @n6) ∧ (type_of% @m6) ∧ (type_of% @sb6) ∧ (type_of% @fb6) ∧ (type_of% @rb6) ∧ (type_of% @v7) ∧ (type_of% @w7) ∧ (type_of% @n7) ∧ (type_of% @m7) ∧ (type_of% @sb7) ∧ (type_of% @fb7) ∧ (type_of% @rb7) ∧ (type_of% @v8) ∧ (type_of% @w8) ∧ (type_of% @n8) ∧ (type_of% @m8) ∧ (type_of% @sb8) ∧ (type_of% @fb8) ∧ (type_of% @rb8) ∧ (type_of% @v9) ∧ (type_of% @w9) ∧ (type_of% @n9) ∧ (type_of% @m9) ∧ (type_of% @sb9) ∧ (type_of% @fb9) ∧ (type_of% @rb9) ∧ (type_of% @v10) ∧ (type_of% @w10) ∧ (type_of% @n10) ∧ (type_of% @m10) ∧ (type_of% @sb10) ∧ (type_of% @fb10) ∧ (type_of% @rb10) ∧ (type_of% @v11) ∧ (type_of% @w11) ∧ (type_of% @n11) ∧ (type_of% @m11) ∧ (type_of% @sb11) ∧ (type_of% @fb11) ∧ (type_of% @rb11) ∧ (type_of% @v12) ∧ (type_of% @w12) ∧ (type_of% @n12) ∧ (type_of% @m12) ∧ (type_of% @sb12) ∧ (type_of% @fb12) ∧ (type_of% @rb12) ∧ (type_of% @v13) ∧ (type_of% @w13) ∧ (type_of% @n13) ∧ (type_of% @m13) ∧ (type_of% @sb13) ∧ (type_of% @fb13) ∧ (type_of% @rb13) ∧ (type_of% @v14) ∧ (type_of% @w14) ∧ (type_of% @n14) ∧ (type_of% @m14) ∧ (type_of% @sb14) ∧ (type_of% @fb14) ∧ (type_of% @rb14) ∧ (type_of% @v15) ∧ (type_of% @w15) ∧ (type_of% @n15) ∧ (type_of% @m15) ∧ (type_of% @sb15) ∧ (type_of% @fb15) ∧ (type_of% @rb15) ∧ (type_of% @v16) ∧ (type_of% @w16) ∧ (type_of% @n16) ∧ (type_of% @m16) ∧ (type_of% @sb16) ∧ (type_of% @fb16) ∧ (type_of% @rb16) ∧ (type_of% @v17) ∧ (type_of% @w17) ∧ (type_of% @n17) ∧ (type_of% @m17) ∧ (type_of% @sb17) ∧ (type_of% @fb17) ∧ (type_of% @rb17) ∧ (type_of% @v18) ∧ (type_of% @w18) ∧ (type_of% @n18) ∧ (type_of% @m18) ∧ (type_of% @sb18) ∧ (type_of% @fb18) ∧ (type_of% @rb18) ∧ (type_of% @v19) ∧ (type_of% @w19) ∧ (type_of% @n19) ∧ (type_of% @m19) ∧ (type_of% @sb19) ∧ (type_of% @fb19) ∧ (type_of% @rb19) ∧ (type_of% @v20) ∧ (type_of% @w20) ∧ (type_of% @n20) ∧ (type_of% @m20) ∧ (type_of% @sb20) ∧ (type_of% @fb20) ∧ (type_of% @rb20) ∧ (type_of% @v21) ∧ (type_of% @w21) ∧ (type_of% @n21) ∧ (type_of% @m21) ∧ (type_of% @sb21) ∧ (type_of% @fb21) ∧ (type_of% @rb21) ∧ (type_of% @v22) ∧ (type_of% @w22) ∧ (type_of% @n22) ∧ (type_of% @m22) ∧ (type_of% @sb22) ∧ (type_of% @fb22) ∧ (type_of% @rb22) ∧ (type_of% @v23) ∧ (type_of% @w23) ∧ (type_of% @n23) ∧ (type_of% @m23) ∧ (type_of% @sb23) ∧ (type_of% @fb23) ∧ (type_of% @rb23) ∧ (type_of% @v24) ∧ (type_of% @w24) ∧ (type_of% @n24) ∧ (type_of% @m24) ∧ (type_of% @sb24) ∧ (type_of% @fb24) ∧ (type_of% @rb24) ∧ (type_of% @v25) ∧ (type_of% @w25) ∧ (type_of% @n25) ∧ (type_of% @m25) ∧ (type_of% @sb25) ∧ (type_of% @fb25) ∧ (type_of% @rb25) ∧ (type_of% @s_0) ∧ (type_of% @s_1) ∧ (type_of% @s_2) ∧ (type_of% @s_s) ∧ (type_of% @s_w0) ∧ (type_of% @s_w2) ∧ (type_of% @s_e) ∧ (type_of% @x_rng1) ∧ (type_of% @x_rng2) ∧ (type_of% @x_enu) ∧ (type_of% @x_aslsl) ∧ (type_of% @x_r1) ∧ (type_of% @x_r2) ∧ (type_of% @x_e1) ∧ (type_of% @y_max) ∧ (type_of% @y_min) ∧ (type_of% @y_abs) ∧ (type_of% @x_lenl) ∧ (type_of% @x_lent) ∧ (type_of% @x_lendT) ∧ (type_of% @x_lendK) ∧ (type_of% @x_brw1) ∧ (type_of% @x_brw0) ∧ (type_of% @x_par2) ∧ (type_of% @x_ownl) ∧ (type_of% @x_own) ∧ (type_of% @x_ltu) ∧ (type_of% @x_lls) ∧ (type_of% @add_tt) ∧ (type_of% @x_isik) ∧ (type_of% @x_dnk) ∧ (type_of% @x_dspS) ∧ (type_of% @x_dnt) ∧ (type_of% @x_sl3) ∧ (type_of% @sl3_r) ∧ (type_of% @sl3_t) ∧ (type_of% @sl_lst) ∧ (type_of% @x_lrg) ∧ (type_of% @x_isI) ∧ (type_of% @x_aug) ∧ (type_of% @x_dvm) ∧ (type_of% @x_dvmF) ∧ (type_of% @sl_scr) ∧ (type_of% @add_ll) ∧ (type_of% @q_00) ∧ (type_of% @x_app) ∧ (type_of% @x_ext) ∧ (type_of% @x_rsbo) ∧ (type_of% @sl_t21) ∧ (type_of% @x_isbb) ∧ (type_of% @x_isnbb) ∧ (type_of% @x_dsp1) ∧ (type_of% @x_put) ∧ (type_of% @x_isown) ∧ (type_of% @x_puto) ∧ (type_of% @kT_ii) ∧ (type_of% @in_dT) ∧ (type_of% @nin_dT) ∧ (type_of% @x_pops) ∧ (type_of% @x_dkeys) ∧ (type_of% @x_kdT) ∧ (type_of% @x_kdK) ∧ (type_of% @x_star) ∧ (type_of% @x_itl) ∧ (type_of% @x_itt) ∧ (type_of% @x_its) ∧ (type_of% @x_getn) ∧ (type_of% @x_getn1) ∧ (type_of% @x_putl) ∧ (type_of% @x_intm) ∧ (type_of% @x_dA2) ∧ (type_of% @x_dAi) ∧ (type_of% @x_dAs) ∧ (type_of% @x_reprl) ∧ (type_of% @x_nilT) ∧ (type_of% @x_consT) ∧ (type_of% @x_kpn) ∧ (type_of% @x_kpd) ∧ (type_of% @x_kpb) ∧ (type_of% @x_sa0) ∧ (type_of% @x_sac) ∧ (type_of% @x_par3) ∧ (type_of% @x_callB) ∧ (type_of% @x_callKB) ∧ (type_of% @x_sortSet) ∧ (type_of% @x_flb) ∧ (type_of% @x_fli) ∧ (type_of% @x_fln) ∧ (type_of% @x_fls) ∧ (type_of% @x_flt) ∧ (type_of% @x_ftn) ∧ (type_of% @x_ftc) ∧ (type_of% @x_dc) ∧ (type_of% @x_dct) ∧ (type_of% @x_brd1) ∧ (type_of% @x_brd0) ∧ (type_of% @x_str) ∧ (type_of% @x_fmt) ∧ (type_of% @x_fmtS) ∧ (type_of% @x_fmtI) ∧ (type_of% @x_txtM) ∧ (type_of% @x_js0) ∧ (type_of% @x_js1) ∧ (type_of% @x_join) ∧ (type_of% @x_glix) ∧ (type_of% @x_orl) ∧ (type_of% @x_trn) ∧ (type_of% @x_tupl) ∧ (type_of% @x_valsN) ∧ (type_of% @x_newd) ∧ (type_of% @x_rngW2) ∧ (type_of% @x_rW2) ∧ (type_of% @x_keysA) ∧ (type_of% @x_kAd) ∧ (type_of% @x_kAl) ∧ (type_of% @x_lrg2) ∧ (type_of% @x_lc2) ∧ (type_of% @x_count) ∧ (type_of% @x_dspN) ∧ (type_of% @x_strm) ∧ (type_of% @x_prs0) ∧ (type_of% @x_prs1) ∧ (type_of% @strK_n) ∧ (type_of% @strK_c) ∧ (type_of% @x_fld) ∧ (type_of% @x_insm) ∧ (type_of% @x_setf) ∧ (type_of% @x_owni) ∧ (type_of% @x_dgfld) ∧ (type_of% @x_meth) ∧ (type_of% @x_make) ∧ (type_of% @x_methl) ∧ (type_of% @x_getE) ∧ (type_of% @x_index) ∧ (type_of% @x_indexD) ∧ (type_of% @x_lstm) ∧ (type_of% @x_augl) ∧ (type_of% @x_getl) ∧ (type_of% @x_getlm) ∧ (type_of% @x_dgputl) ∧ (type_of% @x_vals) ∧ (type_of% @x_vdT) ∧ (type_of% @x_vdK) ∧ (type_of% @x_zip) ∧ (type_of% @x_zipk) := ⟨@x_seq, ⟨@x_next, ⟨@x_brk, ⟨@x_cnt, ⟨@x_drop, ⟨@x_ret, ⟨@x_retN, ⟨@x_never, ⟨@x_rtd, ⟨@x_rtn, ⟨@x_brs1, ⟨@x_brs0, ⟨@x_asg, ⟨@x_rsd, ⟨@x_rsn, ⟨@x_tgt, ⟨@x_unl, ⟨@x_gnil, ⟨@x_gcons, ⟨@x_par, ⟨@x_park, ⟨@x_for, ⟨@x_c, ⟨@x_bin, ⟨@x_un, ⟨@x_bn, ⟨@x_seed, ⟨@x_seen, ⟨@x_frd, ⟨@x_frn, ⟨@x_tst, ⟨@x_isb, ⟨@x_nott, ⟨@x_andt, ⟨@x_ort, ⟨@x_brt1, ⟨@x_brt0, ⟨@x_bro1, ⟨@x_bro0, ⟨@x_andv, ⟨@x_orv, ⟨@x_bra1, ⟨@x_bra0, ⟨@x_brr1, ⟨@x_brr0, ⟨@x_notv, ⟨@x_if, ⟨@x_bre1, ⟨@x_bre0, ⟨@x_chn, ⟨@x_nil, ⟨@x_cons, ⟨@x_tup, ⟨@x_lst, ⟨@x_call, ⟨@x_ck, ⟨@x_wlk, ⟨@x_asll, ⟨@x_aslt, ⟨@x_sle, ⟨@x_nop, ⟨@x_prt, ⟨@x_lc, ⟨@x_add, ⟨@x_addb, ⟨@x_sub, ⟨@x_mul, ⟨@x_fdv, ⟨@x_mod, ⟨@x_pow, ⟨@x_neg, ⟨@x_cmp, ⟨@x_iadd, ⟨@x_int, ⟨@x_intb, ⟨@L_t1, ⟨@L_t2, ⟨@L_t3, ⟨@L_l0, ⟨@L_l1, ⟨@L_l2, ⟨@L_l3, ⟨@x_ixt, ⟨@x_ixl, ⟨@x_atq, ⟨@x_eq, ⟨@x_ne, ⟨@x_eqi, ⟨@x_eqs, ⟨@x_isn, ⟨@x_isnn, ⟨@x_isii, ⟨@x_isib, ⟨@x_isin, ⟨@x_isis, ⟨@x_isit, ⟨@x_isil, ⟨@q_pp, ⟨@b_all2, ⟨@b_all3, ⟨@x_dert, ⟨@x_denx, ⟨@x_brl1, ⟨@x_brl0, ⟨@x_lcn, ⟨@x_lcc, ⟨@x_yes, ⟨@x_brk1, ⟨@x_brk0, ⟨@x_lct, ⟨@x_fon, ⟨@v0, ⟨@w0, ⟨@n0, ⟨@m0, ⟨@sb0, ⟨@fb0, ⟨@rb0, ⟨@v1, ⟨@w1, ⟨@n1, ⟨@m1, ⟨@sb1, ⟨@fb1, ⟨@rb1, ⟨@v2, ⟨@w2, ⟨@n2, ⟨@m2, ⟨@sb2, ⟨@fb2, ⟨@rb2, ⟨@v3, ⟨@w3, ⟨@n3, ⟨@m3, ⟨@sb3, ⟨@fb3, ⟨@rb3, ⟨@v4, ⟨@w4, ⟨@n4, ⟨@m4, ⟨@sb4, ⟨@fb4, ⟨@rb4, ⟨@v5, ⟨@w5, ⟨@n5, ⟨@m5, ⟨@sb5, ⟨@fb5, ⟨@rb5, ⟨@v6, ⟨@w6, ⟨@n6, ⟨@m6, ⟨@sb6, ⟨@fb6, ⟨@rb6, ⟨@v7, ⟨@w7, ⟨@n7, ⟨@m7, ⟨@sb7, ⟨@fb7, ⟨@rb7, ⟨@v8, ⟨@w8, ⟨@n8, ⟨@m8, ⟨@sb8, ⟨@fb8, ⟨@rb8, ⟨@v9, ⟨@w9, ⟨@n9, ⟨@m9, ⟨@sb9, ⟨@fb9, ⟨@rb9, ⟨@v10, ⟨@w10, ⟨@n10, ⟨@m10, ⟨@sb10, ⟨@fb10, ⟨@rb10, ⟨@v11, ⟨@w11, ⟨@n11, ⟨@m11, ⟨@sb11, ⟨@fb11, ⟨@rb11, ⟨@v12, ⟨@w12, ⟨@n12, ⟨@m12, ⟨@sb12, ⟨@fb12, ⟨@rb12, ⟨@v13, ⟨@w13, ⟨@n13, ⟨@m13, ⟨@sb13, ⟨@fb13, ⟨@rb13, ⟨@v14, ⟨@w14, ⟨@n14, ⟨@m14, ⟨@sb14, ⟨@fb14, ⟨@rb14, ⟨@v15, ⟨@w15, ⟨@n15, ⟨@m15, ⟨@sb15, ⟨@fb15, ⟨@rb15, ⟨@v16, ⟨@w16, ⟨@n16, ⟨@m16, ⟨@sb16, ⟨@fb16, ⟨@rb16, ⟨@v17, ⟨@w17, ⟨@n17, ⟨@m17, ⟨@sb17, ⟨@fb17, ⟨@rb17, ⟨@v18, ⟨@w18, ⟨@n18, ⟨@m18, ⟨@sb18, ⟨@fb18, ⟨@rb18, ⟨@v19, ⟨@w19, ⟨@n19, ⟨@m19, ⟨@sb19, ⟨@fb19, ⟨@rb19, ⟨@v20, ⟨@w20, ⟨@n20, ⟨@m20, ⟨@sb20, ⟨@fb20, ⟨@rb20, ⟨@v21, ⟨@w21, ⟨@n21, ⟨@m21, ⟨@sb21, ⟨@fb21, ⟨@rb21, ⟨@v22, ⟨@w22, ⟨@n22, ⟨@m22, ⟨@sb22, ⟨@fb22, ⟨@rb22, ⟨@v23, ⟨@w23, ⟨@n23, ⟨@m23, ⟨@sb23, ⟨@fb23, ⟨@rb23, ⟨@v24, ⟨@w24, ⟨@n24, ⟨@m24, ⟨@sb24, ⟨@fb24, ⟨@rb24, ⟨@v25, ⟨@w25, ⟨@n25, ⟨@m25, ⟨@sb25, ⟨@fb25, ⟨@rb25, ⟨@s_0, ⟨@s_1, ⟨@s_2, ⟨@s_s, ⟨@s_w0, ⟨@s_w2, ⟨@s_e, ⟨@x_rng1, ⟨@x_rng2, ⟨@x_enu, ⟨@x_aslsl, ⟨@x_r1, ⟨@x_r2, ⟨@x_e1, ⟨@y_max, ⟨@y_min, ⟨@y_abs, ⟨@x_lenl, ⟨@x_lent, ⟨@x_lendT, ⟨@x_lendK, ⟨@x_brw1, ⟨@x_brw0, ⟨@x_par2, ⟨@x_ownl, ⟨@x_own, ⟨@x_ltu, ⟨@x_lls, ⟨@add_tt, ⟨@x_isik, ⟨@x_dnk, ⟨@x_dspS, ⟨@x_dnt, ⟨@x_sl3, ⟨@sl3_r, ⟨@sl3_t, ⟨@sl_lst, ⟨@x_lrg, ⟨@x_isI, ⟨@x_aug, ⟨@x_dvm, ⟨@x_dvmF, ⟨@sl_scr, ⟨@add_ll, ⟨@q_00, ⟨@x_app, ⟨@x_ext, ⟨@x_rsbo, ⟨@sl_t21, ⟨@x_isbb, ⟨@x_isnbb, ⟨@x_dsp1, ⟨@x_put, ⟨@x_isown, ⟨@x_puto, ⟨@kT_ii, ⟨@in_dT, ⟨@nin_dT, ⟨@x_pops, ⟨@x_dkeys, ⟨@x_kdT, ⟨@x_kdK, ⟨@x_star, ⟨@x_itl, ⟨@x_itt, ⟨@x_its, ⟨@x_getn, ⟨@x_getn1, ⟨@x_putl, ⟨@x_intm, ⟨@x_dA2, ⟨@x_dAi, ⟨@x_dAs, ⟨@x_reprl, ⟨@x_nilT, ⟨@x_consT, ⟨@x_kpn, ⟨@x_kpd, ⟨@x_kpb, ⟨@x_sa0, ⟨@x_sac, ⟨@x_par3, ⟨@x_callB, ⟨@x_callKB, ⟨@x_sortSet, ⟨@x_flb, ⟨@x_fli, ⟨@x_fln, ⟨@x_fls, ⟨@x_flt, ⟨@x_ftn, ⟨@x_ftc, ⟨@x_dc, ⟨@x_dct, ⟨@x_brd1, ⟨@x_brd0, ⟨@x_str, ⟨@x_fmt, ⟨@x_fmtS, ⟨@x_fmtI, ⟨@x_txtM, ⟨@x_js0, ⟨@x_js1, ⟨@x_join, ⟨@x_glix, ⟨@x_orl, ⟨@x_trn, ⟨@x_tupl, ⟨@x_valsN, ⟨@x_newd, ⟨@x_rngW2, ⟨@x_rW2, ⟨@x_keysA, ⟨@x_kAd, ⟨@x_kAl, ⟨@x_lrg2, ⟨@x_lc2, ⟨@x_count, ⟨@x_dspN, ⟨@x_strm, ⟨@x_prs0, ⟨@x_prs1, ⟨@strK_n, ⟨@strK_c, ⟨@x_fld, ⟨@x_insm, ⟨@x_setf, ⟨@x_owni, ⟨@x_dgfld, ⟨@x_meth, ⟨@x_make, ⟨@x_methl, ⟨@x_getE, ⟨@x_index, ⟨@x_indexD, ⟨@x_lstm, ⟨@x_augl, ⟨@x_getl, ⟨@x_getlm, ⟨@x_dgputl, ⟨@x_vals, ⟨@x_vdT, ⟨@x_vdK, ⟨@x_zip, @x_zipk⟩⟩⟩⟩⟩⟩⟩⟩⟩⟩⟩⟩⟩⟩⟩⟩⟩⟩⟩⟩⟩⟩⟩⟩⟩⟩⟩⟩⟩⟩⟩⟩⟩⟩⟩⟩⟩⟩⟩⟩⟩⟩⟩⟩⟩⟩⟩⟩⟩⟩⟩⟩⟩⟩⟩⟩⟩⟩⟩⟩⟩⟩⟩⟩⟩⟩⟩⟩⟩⟩⟩⟩⟩⟩⟩⟩⟩⟩⟩⟩⟩⟩⟩⟩⟩⟩⟩⟩⟩⟩⟩⟩⟩⟩⟩⟩⟩⟩⟩⟩⟩⟩⟩⟩⟩⟩⟩⟩⟩⟩⟩⟩⟩⟩⟩⟩⟩⟩⟩⟩⟩⟩⟩⟩⟩⟩⟩⟩⟩⟩⟩⟩⟩⟩⟩⟩⟩⟩⟩⟩⟩⟩⟩⟩⟩⟩⟩⟩⟩⟩⟩⟩⟩⟩⟩⟩⟩⟩⟩⟩⟩⟩⟩⟩⟩⟩⟩⟩⟩⟩⟩⟩⟩⟩⟩⟩⟩⟩⟩⟩⟩⟩⟩⟩⟩⟩⟩⟩⟩⟩⟩⟩⟩⟩⟩⟩⟩⟩⟩⟩⟩⟩⟩⟩⟩⟩⟩⟩⟩⟩⟩⟩⟩⟩⟩⟩⟩⟩⟩⟩⟩⟩⟩⟩⟩⟩⟩⟩⟩⟩⟩⟩⟩⟩⟩⟩⟩⟩⟩⟩⟩⟩⟩⟩⟩⟩⟩⟩⟩⟩⟩⟩⟩⟩⟩⟩⟩⟩⟩⟩⟩⟩⟩⟩⟩⟩⟩⟩⟩⟩⟩⟩⟩⟩⟩⟩⟩⟩⟩⟩⟩⟩⟩⟩⟩⟩⟩⟩⟩⟩⟩⟩⟩⟩⟩⟩⟩⟩⟩⟩⟩⟩⟩⟩⟩⟩⟩⟩⟩⟩⟩⟩⟩⟩⟩⟩⟩⟩⟩⟩⟩⟩⟩⟩⟩⟩⟩⟩⟩⟩⟩⟩⟩⟩⟩⟩⟩⟩⟩⟩⟩⟩⟩⟩⟩⟩⟩⟩⟩⟩⟩⟩⟩⟩⟩⟩⟩⟩⟩⟩⟩⟩⟩⟩⟩⟩⟩⟩⟩⟩⟩⟩⟩⟩⟩⟩⟩⟩⟩⟩⟩⟩⟩⟩⟩⟩⟩⟩⟩⟩⟩⟩⟩⟩⟩⟩⟩⟩⟩⟩⟩⟩⟩⟩⟩⟩⟩⟩⟩⟩⟩⟩⟩⟩⟩⟩⟩⟩⟩⟩⟩⟩⟩⟩⟩⟩⟩⟩⟩⟩⟩⟩⟩⟩⟩⟩⟩
theorem XQ : (type_of% @x_at) ∧ (type_of% @x_gs) ∧ (type_of% @x_gs0) ∧ (type_of% @x_gss) ∧ (type_of% @x_gg) ∧ (type_of% @x_gl0) ∧ (type_of% @x_gls) ∧ (type_of% @x_w0) ∧ (type_of% @x_ws) ∧ (type_of% @x_b0) ∧ (type_of% @x_bs) ∧ (type_of% @x_do1) ∧ (type_of% @x_do2) ∧ (type_of% @x_do3) ∧ (type_of% @k_int) ∧ (type_of% @k_bool) ∧ (type_of% @k_tuple) ∧ (type_of% @k_list) ∧ (type_of% @k_str) ∧ (type_of% @T_ii) ∧ (type_of% @T_ib) ∧ (type_of% @T_it) ∧ (type_of% @T_il) ∧ (type_of% @T_bi) ∧ (type_of% @T_bb) ∧ (type_of% @T_tt) ∧ (type_of% @T_ti) ∧ (type_of% @T_tl) ∧ (type_of% @T_ll) ∧ (type_of% @T_lt) ∧ (type_of% @T_li) ∧ (type_of% @T_ss) ∧ (type_of% @T_si) ∧ (type_of% @T_st) ∧ (type_of% @T_ni) ∧ (type_of% @T_nt) ∧ (type_of% @N_n) ∧ (type_of% @N_i) ∧ (type_of% @N_b) ∧ (type_of% @N_t) ∧ (type_of% @F_i) ∧ (type_of% @A_0) ∧ (type_of% @A_1) ∧ (type_of% @A_2) ∧ (type_of% @A_3) ∧ (type_of% @szt) ∧ (type_of% @Bool.not_true) ∧ (type_of% @Bool.not_false) ∧ (type_of% @true_and) ∧ (type_of% @and_true) ∧ (type_of% @not_false_eq_true) ∧ (type_of% @decide_true) ∧ (type_of% @decide_false) ∧ (type_of% @Bool.true_and) ∧ (type_of% @Bool.and_true) ∧ (type_of% @Bool.false_and) ∧ (type_of% @Bool.and_false) ∧ (type_of% @Nat.add_zero) ∧ (type_of% @x_atq) ∧ (type_of% @x_brs1) ∧ (type_of% @x_brs0) ∧ (type_of% @x_brt1) ∧ (type_of% @x_brt0) ∧ (type_of% @x_bro1) ∧ (type_of% @x_bro0) ∧ (type_of% @x_bra1) ∧ (type_of% @x_bra0) ∧ (type_of% @x_brr1) ∧ (type_of% @x_brr0) ∧ (type_of% @x_bre1) ∧ (type_of% @x_bre0) ∧ (type_of% @x_lcn) ∧ (type_of% @x_lcc) ∧ (type_of% @x_brl1) ∧ (type_of% @x_brl0) ∧ (type_of% @x_brk1) ∧ (type_of% @x_brk0) ∧ (type_of% @x_ck) ∧ (type_of% @sel_n) ∧ (type_of% @sel_c) ∧ (type_of% @o_tl) ∧ (type_of% @rg_1) ∧ (type_of% @rg_2) ∧ (type_of% @rg_3) ∧ (type_of% @x_idT) ∧ (type_of% @x_idK) ∧ (type_of% @x_idTd) ∧ (type_of% @x_idKd) ∧ (type_of% @x_dico) ∧ (type_of% @x_dicd) ∧ (type_of% @x_putlo) ∧ (type_of% @x_dA2) ∧ (type_of% @x_dAi) ∧ (type_of% @x_dAs) ∧ (type_of% @x_kpn) ∧ (type_of% @x_kpd) ∧ (type_of% @x_kpb) ∧ (type_of% @x_isowm) ∧ (type_of% @x_puT) ∧ (type_of% @x_puKi) ∧ (type_of% @x_brw1) ∧ (type_of% @x_brw0) ∧ (type_of% @x_owm) ∧ (type_of% @k_dict) ∧ (type_of% @T_nb) ∧ (type_of% @T_ns) ∧ (type_of% @T_nl) ∧ (type_of% @T_nd) ∧ (type_of% @T_bs) ∧ (type_of% @T_bt) ∧ (type_of% @T_bl) ∧ (type_of% @T_bd) ∧ (type_of% @T_is) ∧ (type_of% @T_id) ∧ (type_of% @T_sb) ∧ (type_of% @T_sl) ∧ (type_of% @T_sd) ∧ (type_of% @T_tb) ∧ (type_of% @T_ts) ∧ (type_of% @T_td) ∧ (type_of% @T_lb) ∧ (type_of% @T_ls) ∧ (type_of% @T_ld) ∧ (type_of% @T_di) ∧ (type_of% @T_db) ∧ (type_of% @T_ds) ∧ (type_of% @T_dt) ∧ (type_of% @T_dl) ∧ (type_of% @T_dd) ∧ (type_of% @x_aum) ∧ (type_of% @x_reo) ∧ (type_of% @x_app) ∧ (type_of% @x_ext) ∧ (type_of% @x_brd1) ∧ (type_of% @x_brd0) ∧ (type_of% @x_fmtS) ∧ (type_of% @x_fmtI) ∧ (type_of% @x_txtM) ∧ (type_of% @x_js0) ∧ (type_of% @x_js1) ∧ (type_of% @x_vao) ∧ (type_of% @x_vad) ∧ (type_of% @x_insm) ∧ (type_of% @x_owni) ∧ (type_of% @x_isl) ∧ (type_of% @x_idT') ∧ (type_of% @x_idK') ∧ (type_of% @x_lstm) ∧ (type_of% @x_getl) ∧ (type_of% @x_getlm) ∧ (type_of% @x_vdT) ∧ (type_of% @x_vdK) := ⟨@x_at, ⟨@x_gs, ⟨@x_gs0, ⟨@x_gss, ⟨@x_gg, ⟨@x_gl0, ⟨@x_gls, ⟨@x_w0, ⟨@x_ws, ⟨@x_b0, ⟨@x_bs, ⟨@x_do1, ⟨@x_do2, ⟨@x_do3, ⟨@k_int, ⟨@k_bool, ⟨@k_tuple, ⟨@k_list, ⟨@k_str, ⟨@T_ii, ⟨@T_ib, ⟨@T_it, ⟨@T_il, ⟨@T_bi, ⟨@T_bb, ⟨@T_tt, ⟨@T_ti, ⟨@T_tl, ⟨@T_ll, ⟨@T_lt, ⟨@T_li, ⟨@T_ss, ⟨@T_si, ⟨@T_st, ⟨@T_ni, ⟨@T_nt, ⟨@N_n, ⟨@N_i, ⟨@N_b, ⟨@N_t, ⟨@F_i, ⟨@A_0, ⟨@A_1, ⟨@A_2, ⟨@A_3, ⟨@szt, ⟨@Bool.not_true, ⟨@Bool.not_false, ⟨@true_and, ⟨@and_true, ⟨@not_false_eq_true, ⟨@decide_true, ⟨@decide_false, ⟨@Bool.true_and, ⟨@Bool.and_true, ⟨@Bool.false_and, ⟨@Bool.and_false, ⟨@Nat.add_zero, ⟨@x_atq, ⟨@x_brs1, ⟨@x_brs0, ⟨@x_brt1, ⟨@x_brt0, ⟨@x_bro1, ⟨@x_bro0, ⟨@x_bra1, ⟨@x_bra0, ⟨@x_brr1, ⟨@x_brr0, ⟨@x_bre1, ⟨@x_bre0, ⟨@x_lcn, ⟨@x_lcc, ⟨@x_brl1, ⟨@x_brl0, ⟨@x_brk1, ⟨@x_brk0, ⟨@x_ck, ⟨@sel_n, ⟨@sel_c, ⟨@o_tl, ⟨@rg_1, ⟨@rg_2, ⟨@rg_3, ⟨@x_idT, ⟨@x_idK, ⟨@x_idTd, ⟨@x_idKd, ⟨@x_dico, ⟨@x_dicd, ⟨@x_putlo, ⟨@x_dA2, ⟨@x_dAi, ⟨@x_dAs, ⟨@x_kpn, ⟨@x_kpd, ⟨@x_kpb, ⟨@x_isowm, ⟨@x_puT, ⟨@x_puKi, ⟨@x_brw1, ⟨@x_brw0, ⟨@x_owm, ⟨@k_dict, ⟨@T_nb, ⟨@T_ns, ⟨@T_nl, ⟨@T_nd, ⟨@T_bs, ⟨@T_bt, ⟨@T_bl, ⟨@T_bd, ⟨@T_is, ⟨@T_id, ⟨@T_sb, ⟨@T_sl, ⟨@T_sd, ⟨@T_tb, ⟨@T_ts, ⟨@T_td, ⟨@T_lb, ⟨@T_ls, ⟨@T_ld, ⟨@T_di, ⟨@T_db, ⟨@T_ds, ⟨@T_dt, ⟨@T_dl, ⟨@T_dd, ⟨@x_aum, ⟨@x_reo, ⟨@x_app, ⟨@x_ext, ⟨@x_brd1, ⟨@x_brd0, ⟨@x_fmtS, ⟨@x_fmtI, ⟨@x_txtM, ⟨@x_js0, ⟨@x_js1, ⟨@x_vao, ⟨@x_vad, ⟨@x_insm, ⟨@x_owni, ⟨@x_isl, ⟨@x_idT', ⟨@x_idK', ⟨@x_lstm, ⟨@x_getl, ⟨@x_getlm, ⟨@x_vdT, @x_vdK⟩⟩⟩⟩⟩⟩⟩⟩⟩⟩⟩⟩⟩⟩⟩⟩⟩⟩⟩⟩⟩⟩⟩⟩⟩⟩⟩⟩⟩⟩⟩⟩⟩⟩⟩⟩⟩⟩⟩⟩⟩⟩⟩⟩⟩⟩⟩⟩⟩⟩⟩⟩⟩⟩⟩⟩⟩⟩⟩⟩⟩⟩⟩⟩⟩⟩⟩⟩⟩⟩⟩⟩⟩⟩⟩⟩⟩⟩⟩⟩⟩⟩⟩⟩⟩⟩⟩⟩⟩⟩⟩⟩⟩⟩⟩⟩⟩⟩⟩⟩⟩⟩⟩⟩⟩⟩⟩⟩⟩⟩⟩⟩⟩⟩⟩⟩⟩⟩⟩⟩⟩⟩⟩⟩⟩⟩⟩⟩⟩⟩⟩⟩⟩⟩⟩⟩⟩⟩⟩⟩⟩⟩⟩⟩⟩⟩⟩⟩⟩⟩⟩
theorem wh_inv {c : DT} {tb : DS} {E : DEnds} (I : Nat → Gm → Prop)
    (step : ∀ (m : Nat) (G : Gm) (N : Gm → Prop), I m G → (∀ (m' : Nat) (G' : Gm), m' < m → I m' G' → N G') → c G fun b G1 => brW (0 + 0) b tb E N G1)
    {m : Nat} {G : Gm} (h : I m G) : dWhile c tb E G := by
  have key : ∀ (n m : Nat), m < n → ∀ G, I m G → whN c tb E n G := by
    intro n
    induction n with
    | zero => intro m h; exact absurd h (Nat.not_lt_zero _)
    | succ n ih =>
      intro m hm G h
      exact step m G (whN c tb E n) h fun m' G' h1 h2 => ih m' (by omega) G' h2
  exact ⟨m + 1, key (m + 1) m (Nat.lt_succ_self _) G h⟩
section
variable {e e1 e2 e3 : DE} {t u : DT} {G : Gm} {a b c : Int} {p q : Bool} {d : D}
end
structure Shw (k m : Nat) (d : D) : Prop where
  pl : Pd k d
  sh : (toPy d).showable = true
  len : (shownD d).length ≤ m
theorem Pd_up {k : Nat} {d : D} (h : Pd k d) : Pd (k + 1) d := by
  induction k generalizing d with
  | zero => cases d <;> first | exact h | exact False.elim h
  | succ k ih => cases d <;> first | exact h | exact False.elim h | exact fun d hd => ih (h d hd)
theorem Pd_mono {k j : Nat} {d : D} (h : Pd k d) (hj : k ≤ j) : Pd j d := by
  induction hj with
  | refl => exact h
  | step _ ih => exact Pd_up ih
theorem Shw.mono {k m j n : Nat} {d : D} (h : Shw k m d) (hj : k ≤ j) (hn : m ≤ n) : Shw j n d := ⟨Pd_mono h.pl hj, h.sh, Nat.le_trans h.len hn⟩
theorem shw_int {i : Int} (h : i.natAbs < 10 ^ 300) : Shw 0 301 (.int i) := by
  refine ⟨trivial, ?_, ?_⟩
  · have := log2_lt (n := i.natAbs) (k := 1000) (Nat.lt_of_lt_of_le h (by decide +kernel)) (by decide)
    simp only [toPy, PyData.showable, decide_eq_true_eq]; omega
  · have h2 := int_text_length_le10 (a := i) (k := 300) (by decide) h
    show (Str.ofString (toString i)).length ≤ 301
    rw [PySem.ofString_length]; exact h2
theorem shw_all {k m : Nat} : ∀ {ds : List D}, (∀ d ∈ ds, Shw k m d) → PyData.showableAll (toPys ds) = true ∧ ((PyData.shownAll (toPys ds)).map (·.length)).sum ≤ ds.length * m ∧ (PyData.shownAll (toPys ds)).length = ds.length
  | [], _ => ⟨rfl, by simp [toPys, PyData.shownAll], rfl⟩
  | d :: ds, h => by
    obtain ⟨h1, h2, h3⟩ := shw_all (ds := ds) fun x hx => h x (List.mem_cons_of_mem _ hx)
    have h0 := h d List.mem_cons_self
    refine ⟨by simp only [toPys, PyData.showableAll, Bool.and_eq_true]; exact ⟨h0.sh, h1⟩, ?_, ?_⟩
    · simp only [toPys, PyData.shownAll, List.map_cons, List.sum_cons, List.length_cons, Nat.add_mul, Nat.one_mul]
      have : (toPy d).shown.length ≤ m := h0.len
      omega
    · simp only [toPys, PyData.shownAll, List.length_cons, h3]
theorem shw_lst {k m : Nat} {ds : List D} (h : ∀ d ∈ ds, Shw k m d) : Shw (k + 1) (ds.length * (m + 2) + 3) (.lst ds) := by
  obtain ⟨h1, h2, h3⟩ := shw_all h
  refine ⟨fun d hd => (h d hd).pl, by simp only [toPy, PyData.showable]; exact h1, ?_⟩
  have e := PySem.listText_len_le (PyData.shownAll (toPys ds))
  have e2 : (shownD (.lst ds)).length = (listText (PyData.shownAll (toPys ds))).length := by unfold shownD; simp only [toPy, PyData.shown]
  rw [e2, Nat.mul_add]; omega
theorem shw_tup {k m : Nat} {ds : List D} (h : ∀ d ∈ ds, Shw k m d) : Shw (k + 1) (ds.length * (m + 2) + 3) (.tup ds) := by
  obtain ⟨h1, h2, h3⟩ := shw_all h
  refine ⟨fun d hd => (h d hd).pl, by simp only [toPy, PyData.showable]; exact h1, ?_⟩
  have e := PySem.tupleText_len_le (PyData.shownAll (toPys ds))
  have e2 : (shownD (.tup ds)).length = (tupleText (PyData.shownAll (toPys ds))).length := by unfold shownD; simp only [toPy, PyData.shown]
  rw [e2, Nat.mul_add]; omega
theorem shw_pair {a b : Int} (h : a.natAbs < 10 ^ 300) (h2 : b.natAbs < 10 ^ 300) : Shw 1 609 (.tup [.int a, .int b]) := by
  refine (shw_tup (k := 0) (m := 301) fun d hd => ?_).mono (by decide) (by show 2 * (301 + 2) + 3 ≤ 609; decide)
  simp only [List.mem_cons, List.not_mem_nil, or_false] at hd
  rcases hd with rfl | rfl
  · exact shw_int h
  · exact shw_int h2
theorem enum_at {ds : List D} {k : Int} {e : D} (h : e ∈ enumD k ds) : ∃ (j : Nat) (d : D), e = .tup [.int (k + j), d] ∧ ds[j]? = some d := by
  obtain ⟨j, hj⟩ := List.mem_iff_getElem?.mp h
  rw [enumD_get] at hj
  cases e1 : ds[j]? with
  | none => rw [e1] at hj; cases hj
  | some d => rw [e1] at hj; cases hj; exact ⟨j, d, rfl, e1⟩
theorem eqv_refl_all : ∀ {ds : List D} {n : Nat}, (∀ d ∈ ds, Pl n d → PyData.eqv (toPy d) (toPy d) = true) → (∀ d ∈ ds, Pl n d) → PyData.eqvAll (toPys ds) (toPys ds) = true
  | [], _, _, _ => by simp [toPys, PyData.eqvAll]
  | d :: ds, n, f, h => by
    simp only [toPys, PyData.eqvAll, Bool.and_eq_true]
    exact ⟨f d List.mem_cons_self (h d List.mem_cons_self), eqv_refl_all (fun x hx => f x (List.mem_cons_of_mem _ hx)) fun x hx => h x (List.mem_cons_of_mem _ hx)⟩
theorem eqD_refl {n : Nat} : ∀ {d : D}, Pl n d → eqD d d = true := by
  induction n with
  | zero => intro d h; unfold eqD; cases d <;> first | exact False.elim h | simp [toPy, PyData.eqv]
  | succ n ih =>
    intro d h
    unfold eqD
    cases d <;> first
      | exact False.elim h
      | (simp [toPy, PyData.eqv]; done)
      | (simp only [toPy, PyData.eqv]; exact eqv_refl_all (fun d _ p => ih p) h)
      | (rw [toPy, ← toPys_ints]; simp only [PyData.eqv]; exact eqv_refl_all (n := 1) (fun d hd _ => by obtain ⟨i, _, rfl⟩ := List.mem_map.mp hd; simp [toPy, PyData.eqv]) fun d hd => by obtain ⟨i, _, rfl⟩ := List.mem_map.mp hd; trivial)
theorem q_same {d : D} {f : Bool → Prop} (h : Pl 20 d) (hf : f true) : eqQ d d f := by
  unfold eqQ
  cases e : strsD d d with
  | none => exact ⟨h, h, by rw [eqD_refl h]; exact hf⟩
  | some p =>
    obtain ⟨e1, e2⟩ := strsD_of e
    rw [e1] at e2
    injection e2 with e2
    show f (decide (p.1 = p.2))
    rw [decide_eq_true e2]; exact hf
theorem q_scr {ns : List Int} {f : Bool → Prop} (h : f (decide (ns = []))) : eqQ (.scr ns) (.lst []) f := by
  refine ⟨trivial, fun d hd => (by cases hd), ?_⟩
  rw [show eqD (.scr ns) (.lst []) = decide (ns = []) by
    unfold eqD
    cases ns with
    | nil => simp [toPy, toPys, PyData.eqv, PyData.eqvAll]
    | cons a b => simp [toPy, toPys, PyData.eqv, PyData.eqvAll]]
  exact h
theorem cut_mem {ds : List D} {lo hi : Option Int} {d : D} (h : d ∈ dSlc.cutV' ds lo hi) : d ∈ ds := List.mem_of_mem_drop (List.mem_of_mem_take h)
section
variable {E : DEX} {G : Gm} {xi : Str → Bool} {c x f : Str} {fs : List (Str × D)} {L : List (Option SC)} {n i a : Nat} {d : Option Addr} {Q : SV → Gm → Prop}
end
section
variable {X : Cx} {k n : Nat} {Wx : WX}
end
open PySem PySem.Spec PyProof.Rows L2 L2N
section
variable {X : Cx} {pins : List (Addr × Obj)} {σ : L2.St} {H : Hp} {s : Shared}
end
section
variable {X : Cx} {K : PySem.W.Frag} {σ : L2.St} {H : Hp} {elt tg iter : Expr} {pos : Pos}
end
section
variable {K : PySem.W.Frag} {W W' W0 : Wd} {P P0 : Hp} {G : Gm} {σ : St} {H H' : Hp} {X : Cx} {e a b : Expr} {es : List Expr} {pos p : Pos}
noncomputable def allW (W : Wd) (G : Gm) (σ : St) (H : Hp) : Wd := open Classical in ⟨fun b => if (∃ i d, gg G i = some (.own d) ∧ σ[i]? = some (some (.ref b))) ∨ (W.S b ∧ ¬ W.T b) then H b else W.F b, fun a => W.S a ∧ W.T a, W.T⟩
theorem all_in {p : Addr} (h : (∃ i d, gg G i = some (.own d) ∧ σ[i]? = some (some (.ref p))) ∨ (W.S p ∧ ¬ W.T p)) : (allW W G σ H).F p = H p := if_pos h
theorem all_oth {p : Addr} (h : ¬ ((∃ i d, gg G i = some (.own d) ∧ σ[i]? = some (some (.ref p))) ∨ (W.S p ∧ ¬ W.T p))) : (allW W G σ H).F p = W.F p := if_neg h
theorem Rl.nall (R : Rl K W P G σ H) {p : Addr} (h : W.F p ≠ none ∨ W.T p ∧ W.S p ∨ P p ≠ none) : ¬ ((∃ i d, gg G i = some (.own d) ∧ σ[i]? = some (some (.ref p))) ∨ (W.S p ∧ ¬ W.T p)) := by
  rintro (z | ⟨s, t⟩)
  · refine R.nown ?_ z
    rcases h with h | h | h
    · exact .inl h
    · exact .inr (.inl h.2)
    · exact .inr (.inr h)
  · obtain ⟨h1, h2, _⟩ := R.src p s
    rcases h with h | h | h
    · exact h h1
    · exact t h.1
    · exact h h2
theorem Rl.allF (R : Rl K W P G σ H) : ∀ b o, W.F b = some o → (allW W G σ H).F b = some o := fun b o e => by
  rw [all_oth (R.nall (.inl (by rw [e]; intro z; cases z)))]; exact e
theorem Rl.allS (R : Rl K W P G σ H) : ∀ a, W.S a → W.T a → (allW W G σ H).S a ∧ (allW W G σ H).T a := fun _ s t => ⟨⟨s, t⟩, t⟩
theorem Rl.all (R : Rl K W P G σ H) : Rl K (allW W G σ H) P ⟨[], G.c.bare⟩ [] H := by
  refine ⟨rfl, fun b o e => ?_, fun a h => ?_, fun p o e => ?_, fun i d e => (by cases e), fun i d e => (by cases e), fun i j d e _ h1 _ => (by cases h1), R.pnt, fun _ _ z => nomatch z⟩
  · by_cases z : (∃ i d, gg G i = some (.own d) ∧ σ[i]? = some (some (.ref b))) ∨ (W.S b ∧ ¬ W.T b)
    · rw [all_in z] at e; exact e
    · rw [all_oth z] at e; exact R.le b o e
  · obtain ⟨h1, h2, h3⟩ := R.src a h.1
    exact ⟨by rw [all_oth (R.nall (.inr (.inl ⟨h.2, h.1⟩)))]; exact h1, h2, h3.obj, h3.src, fun t => absurd h.2 t⟩
  · obtain ⟨h1, h2⟩ := R.prot p o e
    exact ⟨h1, by rw [all_oth (R.nall (.inr (.inr (by rw [e]; intro z; cases z))))]; exact h2⟩
mutual
def rsv (h : Addr → Option D) : D → D
  | .mob a => (h a).getD (.mob a)
  | .tup ds => .tup (rsvL h ds)
  | .lst ds => .lst (rsvL h ds)
  | d => d
def rsvL (h : Addr → Option D) : List D → List D
  | [] => []
  | d :: ds => rsv h d :: rsvL h ds
end
mutual
theorem Rl.rsv (R : Rl K W P G σ H) : ∀ (d : D) (v : V), Rp K W d v → noMob (LD.rsv G.c.h d) → Rp K (allW W G σ H) (LD.rsv G.c.h d) v
  | .non, _, h, _ => h
  | .bl _, _, h, _ => h
  | .int _, _, h, _ => h
  | .str _, _, h, _ => h
  | .ty _, _, h, _ => h
  | .ref _, _, h, _ => h
  | .lkd _ _, _, _, n => n.elim
  | .err _ _, _, h, n => noMob.to R.allF R.allS (.err _ _) _ n h
  | .mob a, _, h, n => by
    obtain ⟨rfl, s, t⟩ := h
    obtain ⟨_, _, h3⟩ := R.src a s
    obtain ⟨d, o, q1, q2, q3, _⟩ := h3.con t
    have e : LD.rsv G.c.h (.mob a) = d := by unfold LD.rsv; rw [q1]; rfl
    rw [e] at n ⊢
    have q3 := q3.elim id fun z => by
      obtain ⟨x, y, rfl, _⟩ := z.lkd
      exact n.elim
    exact (noMob.toO R.allF R.allS n q3).rp (by rw [all_in (.inr ⟨s, t⟩)]; exact q2)
  | .src, _, h, n => noMob.to R.allF R.allS .src _ n h
  | .tup ds, _, h, n => by obtain ⟨a, xs, e, s, r⟩ := h; exact ⟨a, xs, e, R.allF _ _ s, Rl.rsvL R ds xs r n⟩
  | .scr ns, _, h, n => noMob.to R.allF R.allS (.scr ns) _ n h
  | .lst ds, _, h, n => by obtain ⟨a, xs, e, s, r⟩ := h; exact ⟨a, xs, e, R.allF _ _ s, Rl.rsvL R ds xs r n⟩
  | .dT ds, _, h, n => noMob.to R.allF R.allS (.dT ds) _ n h
  | .dK ds, _, h, n => noMob.to R.allF R.allS (.dK ds) _ n h
  | .ins a c fs, _, h, n => noMob.to R.allF R.allS (.ins a c fs) _ n h
  | .exc a c dd fs, _, h, n => noMob.to R.allF R.allS (.exc a c dd fs) _ n h
theorem Rl.rsvL (R : Rl K W P G σ H) : ∀ (d : List D) (v : List V), RpL K W d v → noMobL (LD.rsvL G.c.h d) → RpL K (allW W G σ H) (LD.rsvL G.c.h d) v
  | [], _, h, _ => h
  | d :: ds, _, h, n => by obtain ⟨v, r, e, h, t⟩ := h; exact ⟨v, r, e, Rl.rsv R d v h n.1, Rl.rsvL R ds r t n.2⟩
end
theorem Rl.rsvO (R : Rl K W P G σ H) {q : Addr} {o : HO} {d : D} (r : RO K W q o d) (n : noMob (LD.rsv G.c.h d)) (e : (allW W G σ H).F q = some o) : Rp K (allW W G σ H) (LD.rsv G.c.h d) (.ref q) := by
  cases o <;> cases d <;> first
    | exact False.elim r
    | exact ⟨q, _, rfl, e, R.rsvL _ _ r n⟩
    | exact (noMob.toO R.allF R.allS n r).rp e
def dBinM (dr : D2) (ta tb : DE) : DE := fun G Q => ta G fun sa G1 => tb G1 fun sb G2 => see G2 sa fun x => see G2 sb fun y => noMob (rsv G2.c.h x) ∧ noMob (rsv G2.c.h y) ∧ dr (rsv G2.c.h x) (rsv G2.c.h y) fun r => flatS r = true ∧ Q r G2
def dUnM (dr : D1) (ta : DE) : DE := fun G Q => ta G fun sa G1 => see G1 sa fun x => noMob (rsv G1.c.h x) ∧ dr (rsv G1.c.h x) fun r => flatS r = true ∧ Q r G1
def newM (sv : SV) (k : D → Prop) (n : Prop) : Prop := match sv with
  | .new d => k d
  | .dat .non => n
  | _ => False
def dMut (t : DE) : DE := fun G Q => t G fun sv G1 => newM sv (fun d => NoC d ∧ ∀ a, G1.c.h a = none → Q (.dat (.mob a)) (G1.at (G1.c.set a d))) (Q (.dat .non) G1)
theorem Rl.share (R : Rl K W P G σ H) {q : Addr} {o : HO} {d : D} (pr : Priv W H P q o) (r : RO K W q o d) (hn : ∀ i e, gg G i = some (.own e) → σ[i]? ≠ some (some (.ref q))) (nc : NoC d) :
    G.c.h q = none ∧ ∃ W2, W.le W2 ∧ Rl K W2 P (G.at (G.c.set q d)) σ H ∧ Rp K W2 (.mob q) (.ref q) := by
  have ns := pr.s
  have l : W.le ⟨W.F, fun a => W.S a ∨ a = q, fun a => W.T a ∧ a ≠ q⟩ := ⟨fun _ _ e => e, fun _ h => .inl h, fun a h => ⟨fun t => t.1, fun t => ⟨t, fun z => ns (by rw [← z]; exact h)⟩⟩⟩
  have hq : G.c.h q = none := by
    cases z : G.c.h q with
    | none => rfl
    | some u => exact absurd (R.ext q u z).1 ns
  have oth : ∀ {b}, b ≠ q → (G.c.set q d).h b = G.c.h b := fun {b} h => if_neg h
  have at_ : (G.c.set q d).h q = some d := if_pos rfl
  refine ⟨hq, _, l, ⟨R.len, R.le, fun a h => ?_, R.prot, fun i x e => ?_, fun i x e => ?_, R.sep, R.pnt, fun a x e => ?_⟩, rfl, .inr rfl, fun t => t.2 rfl⟩
  · by_cases z : a = q
    · subst z
      exact ⟨pr.f, pr.n, ⟨o, pr.at_, r.nt⟩, fun t => absurd rfl t.2, fun _ => ⟨d, o, at_, pr.at_, .inl (r.mono l), nc⟩⟩
    · have h : W.S a := h.elim id fun y => absurd y z
      obtain ⟨h1, h2, h3⟩ := R.src a h
      have h4 := h3.same l h fun _ e => e
      exact ⟨h1, h2, h4.obj, h4.src, fun t => let ⟨x, u, q1, q2⟩ := h4.con t; ⟨x, u, (oth z).trans q1, q2⟩⟩
  · obtain ⟨v, h1, h2⟩ := R.dat i x e
    exact ⟨v, h1, Rp.mono l _ _ h2⟩
  · obtain ⟨p, u, h1, h2, h3⟩ := R.own i x e
    refine ⟨p, u, h1, ⟨h2.at_, h2.f, fun z => ?_, h2.n⟩, h3.mono l⟩
    rcases z with z | z
    · exact h2.s z
    · exact hn i x e (by rw [h1, z])
  · by_cases z : a = q
    · exact ⟨.inr z, fun t => t.2 z⟩
    · rw [show (G.at (G.c.set q d)).c.h a = G.c.h a from oth z] at e
      obtain ⟨s, t⟩ := R.ext a x e
      exact ⟨.inl s, fun y => t y.1⟩
theorem de_mut {t : DE} (h : PE X e (can X.K t)) : PE X e (can X.K (dMut t)) := by
  refine PE.imp h fun σ H Qv ⟨W, P, G, Q, R, t, k⟩ => ⟨W, P, G, _, R, t, fun W1 sv G1 v H1 l1 R1 r1 q1 => ?_⟩
  cases sv with
  | dat d => cases d <;> first | exact False.elim q1 | exact k W1 (.dat .non) G1 v H1 l1 R1 r1 q1
  | bor i => exact False.elim q1
  | new d =>
    obtain ⟨q, o, rfl, pr, ro, hn⟩ := r1
    obtain ⟨nc, q2⟩ := q1
    obtain ⟨hq, W2, l2, R2, r2⟩ := R1.share pr ro hn nc
    exact k W2 (.dat (.mob q)) _ _ H1 (l1.trans l2) R2 r2 (q2 q hq)
theorem Rl.mobSet (R : Rl K W P G σ H) {q : Addr} {o' : HO} {d d' : D} (s : W.S q) (t : ¬ W.T q) (r : RO K W q o' d') (nc : NoC d') : Rl K W P (G.at (G.c.set q d')) σ (upd H q o') := by
  obtain ⟨f, n, _⟩ := R.src q s
  have oth : ∀ {b}, b ≠ q → (G.c.set q d').h b = G.c.h b := fun {b} h => if_neg h
  refine ⟨R.len, fun b o e => ?_, fun b hb => ?_, fun p o e => ?_, R.dat, fun i d e => ?_, R.sep, R.pnt, fun a x e => ?_⟩
  · rw [upd_ne (fun z => by rw [z, f] at e; cases e)]; exact R.le b o e
  · by_cases z : b = q
    · subst z
      exact ⟨f, n, ⟨o', upd_same, r.nt⟩, fun y => absurd y t, fun _ => ⟨d', o', if_pos rfl, upd_same, .inl r, nc⟩⟩
    · obtain ⟨h1, h2, h3⟩ := R.src b hb
      have h4 := h3.same (.refl W) hb (H' := upd H q o') fun o e => by rw [upd_ne z]; exact e
      exact ⟨h1, h2, h4.obj, h4.src, fun y => let ⟨x, u, q1, q2⟩ := h4.con y; ⟨x, u, (oth z).trans q1, q2⟩⟩
  · obtain ⟨h1, h2⟩ := R.prot p o e
    exact ⟨by rw [upd_ne (fun z => by rw [z, n] at e; cases e)]; exact h1, h2⟩
  · obtain ⟨p, u, h1, h2, h3⟩ := R.own i d e
    exact ⟨p, u, h1, ⟨by rw [upd_ne (fun z => h2.s (by rw [z]; exact s))]; exact h2.at_, h2.f, h2.s, h2.n⟩, h3⟩
  · by_cases z : a = q
    · subst z; exact ⟨s, t⟩
    · exact R.ext a x ((oth z).symm.trans e)
theorem Rl.mobAt (R : Rl K W P G σ H) {q : Addr} {v : V} {d : D} (r : Rp K W (.mob q) v) (e : G.c.h q = some d) (nl : ∀ x y, d ≠ .lkd x y := by intro _ _ z; cases z) : v = .ref q ∧ W.S q ∧ ¬ W.T q ∧ ∃ o, H q = some o ∧ RO K W q o d := by
  obtain ⟨rfl, s, t⟩ := r
  obtain ⟨_, _, h3⟩ := R.src q s
  obtain ⟨d2, o, q1, q2, q3, _⟩ := h3.con t
  rw [e] at q1; cases q1
  exact ⟨rfl, s, t, o, q2, q3.ro nl⟩
end
section
variable {K : PySem.W.Frag} {W W' W0 : Wd} {P P0 : Hp} {G : Gm} {σ : St} {H H' : Hp} {X : Cx} {e a b o : Expr} {es : List Expr} {pos p : Pos}
def mobM (sv : SV) (k : Addr → Prop) : Prop := match sv with
  | .dat (.mob a) => k a
  | _ => False
def lstC (d : Option D) (k : List D → Prop) : Prop := match d with
  | some (.lst ds) => k ds
  | _ => False
theorem mobM_of {sv : SV} {k : Addr → Prop} (h : mobM sv k) : ∃ a, sv = .dat (.mob a) ∧ k a := by
  cases sv <;> first | exact False.elim h | skip
  rename_i d
  cases d <;> first | exact False.elim h | exact ⟨_, rfl, h⟩
def dMobL (te : DE) (r : List D → List D → (List D → D → Prop) → Prop) (t : DA) : DE := fun G Q => te G fun sv G1 => mobM sv fun a => lstC (G1.c.h a) (fun _ => True) ∧ t G1 fun ys G2 => lstC (G2.c.h a) fun ds => r ds ys fun ds' d => NoIL ds' ∧ Q (.dat d) (G2.at (G2.c.set a (.lst ds')))
variable {apos cpos : Pos} {name : Str} {id : String} {rV : V → List V → Hp → VK → Prop} {r : List D → List D → (List D → D → Prop) → Prop}
end
section
variable {G : Gm} {Q : SV → Gm → Prop} {t te ta tb : DE} {a : Addr} {d : D} {c : Ct} {L : List (Option SC)}
theorem x_mut : dMut t G Q = t G fun sv G1 => newM sv (fun d => NoC d ∧ ∀ a, G1.c.h a = none → Q (.dat (.mob a)) (G1.at (G1.c.set a d))) (Q (.dat .non) G1) := rfl
theorem x_newM1 {k : D → Prop} {n : Prop} : newM (.new d) k n = k d := rfl
theorem x_newM0 {k : D → Prop} {n : Prop} : newM (.dat .non) k n = n := rfl
theorem x_binM {dr : D2} : dBinM dr ta tb G Q = ta G fun sa G1 => tb G1 fun sb G2 => see G2 sa fun x => see G2 sb fun y => noMob (rsv G2.c.h x) ∧ noMob (rsv G2.c.h y) ∧ dr (rsv G2.c.h x) (rsv G2.c.h y) fun r => flatS r = true ∧ Q r G2 := rfl
theorem x_unM {dr : D1} : dUnM dr ta G Q = ta G fun sa G1 => see G1 sa fun x => noMob (rsv G1.c.h x) ∧ dr (rsv G1.c.h x) fun r => flatS r = true ∧ Q r G1 := rfl
theorem x_mobM {k : Addr → Prop} : mobM (.dat (.mob a)) k = k a := rfl
theorem x_lstC {ds : List D} {k : List D → Prop} : lstC (some (.lst ds)) k = k ds := rfl
theorem x_mobL {r : List D → List D → (List D → D → Prop) → Prop} {ts : DA} : dMobL te r ts G Q = te G fun sv G1 => mobM sv fun a => lstC (G1.c.h a) (fun _ => True) ∧ ts G1 fun ys G2 => lstC (G2.c.h a) fun ds => r ds ys fun ds' d => NoIL ds' ∧ Q (.dat d) (G2.at (G2.c.set a (.lst ds'))) := rfl
theorem x_setS : (c.set a d).h a = some d := if_pos rfl
theorem x_setN : (c.set a d).num = c.num := rfl
theorem x_putH {c m : Ct} : (c.put m).h = c.h := rfl
theorem x_putN {c m : Ct} : (c.put m).num = m.num := rfl
theorem x_toH {n : Nat} : (c.to n).h = c.h := rfl
theorem x_toN {n : Nat} : (c.to n).num = n := rfl
theorem x_tomk {n m : Nat} {h : Addr → Option D} : Ct.to ⟨n, h⟩ m = ⟨m, h⟩ := rfl
theorem x_nummk {n : Nat} {h : Addr → Option D} : Ct.num ⟨n, h⟩ = n := rfl
theorem x_hmk {n : Nat} {h : Addr → Option D} : Ct.h ⟨n, h⟩ = h := rfl
theorem x_upmk {n : Nat} {h : Addr → Option D} : Ct.up ⟨n, h⟩ = ⟨n + 1, h⟩ := rfl
theorem x_toto {n m : Nat} : (c.to n).to m = c.to m := rfl
theorem x_upN : c.up.num = c.num + 1 := rfl
theorem x_upH : c.up.h = c.h := rfl
theorem x_putto {n : Nat} {m : Ct} : c.put (m.to n) = c.to n := rfl
theorem x_bareN : c.bare.num = c.num := rfl
theorem x_baretoN {n : Nat} : (c.bare.to n).num = n := rfl
theorem x_putbare : c.put c.bare = c := rfl
theorem x_qm : rsv c.h (.mob a) = (c.h a).getD (.mob a) := by unfold rsv; rfl
theorem x_qt {ds : List D} {h : Addr → Option D} : rsv h (.tup ds) = .tup (rsvL h ds) := by unfold rsv; rfl
theorem x_ql {ds : List D} {h : Addr → Option D} : rsv h (.lst ds) = .lst (rsvL h ds) := by unfold rsv; rfl
theorem x_qi {i : Int} {h : Addr → Option D} : rsv h (.int i) = .int i := by unfold rsv; rfl
theorem x_qn {h : Addr → Option D} : rsv h .non = .non := by unfold rsv; rfl
theorem x_qs {x : Str} {h : Addr → Option D} : rsv h (.str x) = .str x := by unfold rsv; rfl
theorem x_qb {x : Bool} {h : Addr → Option D} : rsv h (.bl x) = .bl x := by unfold rsv; rfl
theorem x_qk {es : List (Key × D)} {h : Addr → Option D} : rsv h (.dK es) = .dK es := by unfold rsv; rfl
theorem x_qtt {es : List (List Key × D)} {h : Addr → Option D} : rsv h (.dT es) = .dT es := by unfold rsv; rfl
theorem x_q0 {h : Addr → Option D} : rsvL h [] = [] := by unfold rsvL; rfl
theorem x_q1 {h : Addr → Option D} {ds : List D} : rsvL h (d :: ds) = rsv h d :: rsvL h ds := by rw [rsvL]
theorem x_gd {x y : D} : (some x).getD y = x := rfl
theorem x_nmi {i : Int} : noMob (.int i) = True := by unfold noMob; rfl
theorem x_nmn : noMob .non = True := by unfold noMob; rfl
theorem x_nms {x : Str} : noMob (.str x) = True := by unfold noMob; rfl
theorem x_nmb {x : Bool} : noMob (.bl x) = True := by unfold noMob; rfl
theorem x_nmsrc : noMob .src = True := by unfold noMob; rfl
theorem x_nmt {ds : List D} : noMob (.tup ds) = noMobL ds := by unfold noMob; rfl
theorem x_nml {ds : List D} : noMob (.lst ds) = noMobL ds := by unfold noMob; rfl
theorem x_nmT {ds : List (List Key × D)} : noMob (.dT ds) = noMobT ds := by unfold noMob; rfl
theorem x_nmK {ds : List (Key × D)} : noMob (.dK ds) = noMobK ds := by unfold noMob; rfl
theorem x_nm0 : noMobL [] = True := by unfold noMobL; rfl
theorem x_nm1 {ds : List D} : noMobL (d :: ds) = (noMob d ∧ noMobL ds) := by rw [noMobL]
theorem x_nmK0 : noMobK [] = True := by unfold noMobK; rfl
theorem x_nmT0 : noMobT [] = True := by unfold noMobT; rfl
theorem x_nci {i : Int} : NoI (.int i) = True := by unfold NoI; rfl
theorem x_ncn : NoI .non = True := by unfold NoI; rfl
theorem x_ncs {x : Str} : NoI (.str x) = True := by unfold NoI; rfl
theorem x_ncb {x : Bool} : NoI (.bl x) = True := by unfold NoI; rfl
theorem x_ncm : NoI (.mob a) = True := by unfold NoI; rfl
theorem x_nct {ds : List D} : NoI (.tup ds) = NoIL ds := by unfold NoI; rfl
theorem x_ncl {ds : List D} : NoI (.lst ds) = NoIL ds := by unfold NoI; rfl
theorem x_ncT {ds : List (List Key × D)} : NoI (.dT ds) = NoIT ds := by unfold NoI; rfl
theorem x_ncK {ds : List (Key × D)} : NoI (.dK ds) = NoIK ds := by unfold NoI; rfl
theorem x_nc0 : NoIL [] = True := by unfold NoIL; rfl
theorem x_nc1 {ds : List D} : NoIL (d :: ds) = (NoI d ∧ NoIL ds) := by rw [NoIL]
theorem x_ncT0 : NoIT [] = True := by unfold NoIT; rfl
theorem x_ncK0 : NoIK [] = True := by unfold NoIK; rfl
theorem x_nccl {ds : List D} : NoC (.lst ds) = NoIL ds := by unfold NoC; exact x_ncl
theorem x_nccT {ds : List (List Key × D)} : NoC (.dT ds) = NoIT ds := by unfold NoC; exact x_ncT
theorem x_nccK {ds : List (Key × D)} : NoC (.dK ds) = NoIK ds := by unfold NoC; exact x_ncK
theorem NoIL_iff : ∀ {ds : List D}, NoIL ds ↔ ∀ d ∈ ds, NoI d
  | [] => ⟨fun _ d h => (by cases h), fun _ => by rw [x_nc0]; trivial⟩
  | d :: ds => by
    rw [x_nc1, NoIL_iff]
    exact ⟨fun ⟨a, b⟩ e h => (List.mem_cons.mp h).elim (fun z => z ▸ a) (b e), fun h => ⟨h d List.mem_cons_self, fun e he => h e (List.mem_cons_of_mem _ he)⟩⟩
theorem noi_prs : ∀ {ps : List (Int × Int)}, NoIL (ps.map prD) := fun {ps} => NoIL_iff.mpr fun d h => by
  obtain ⟨p, _, rfl⟩ := List.mem_map.mp h
  show NoI (.tup [.int p.1, .int p.2])
  rw [x_nct, x_nc1, x_nc1, x_nc0, x_nci, x_nci]; exact ⟨trivial, trivial, trivial⟩
theorem nom_prs : ∀ {ps : List (Int × Int)}, noMobL (ps.map prD) := fun {ps} => noMobL_iff.mpr fun d h => by
  obtain ⟨p, _, rfl⟩ := List.mem_map.mp h
  show noMob (.tup [.int p.1, .int p.2])
  rw [x_nmt, x_nm1, x_nm1, x_nm0, x_nmi, x_nmi]; exact ⟨trivial, trivial, trivial⟩
theorem noi_ints : ∀ {ns : List Int}, NoIL (ns.map D.int) := fun {ns} => NoIL_iff.mpr fun d h => by
  obtain ⟨p, _, rfl⟩ := List.mem_map.mp h
  rw [x_nci]; trivial
theorem nom_ints : ∀ {ns : List Int}, noMobL (ns.map D.int) := fun {ns} => noMobL_iff.mpr fun d h => by
  obtain ⟨p, _, rfl⟩ := List.mem_map.mp h
  rw [x_nmi]; trivial
theorem rsv_no : ∀ {ds : List D} {h : Addr → Option D}, (∀ d ∈ ds, rsv h d = d) → rsvL h ds = ds
  | [], _, _ => x_q0
  | d :: ds, h, f => by rw [x_q1, f d List.mem_cons_self, rsv_no fun e he => f e (List.mem_cons_of_mem _ he)]
theorem rsv_prs {ps : List (Int × Int)} {h : Addr → Option D} : rsvL h (ps.map prD) = ps.map prD := rsv_no fun d hd => by
  obtain ⟨p, _, rfl⟩ := List.mem_map.mp hd
  show rsv h (.tup [.int p.1, .int p.2]) = _
  rw [x_qt, x_q1, x_q1, x_q0, x_qi, x_qi]; rfl
theorem rsv_ints {ns : List Int} {h : Addr → Option D} : rsvL h (ns.map D.int) = ns.map D.int := rsv_no fun d hd => by
  obtain ⟨p, _, rfl⟩ := List.mem_map.mp hd
  exact x_qi
end
theorem XB : (type_of% @x_mut) ∧ (type_of% @x_newM1) ∧ (type_of% @x_newM0) ∧ (type_of% @x_binM) ∧ (type_of% @x_unM) ∧ (type_of% @x_mobM) ∧ (type_of% @x_lstC) ∧ (type_of% @x_mobL) ∧ (type_of% @x_setS) ∧ (type_of% @x_setN) ∧ (type_of% @x_putH) ∧ (type_of% @x_putN) ∧ (type_of% @x_toH) ∧ (type_of% @x_toN) ∧ (type_of% @x_tomk) ∧ (type_of% @x_nummk) ∧ (type_of% @x_hmk) ∧ (type_of% @x_upmk) ∧ (type_of% @x_toto) ∧ (type_of% @x_upN) ∧ (type_of% @x_upH) ∧ (type_of% @x_putto) ∧ (type_of% @x_bareN) ∧ (type_of% @x_baretoN) ∧ (type_of% @x_putbare) ∧ (type_of% @x_qm) ∧ (type_of% @x_qt) ∧ (type_of% @x_ql) ∧ (type_of% @x_qi) ∧ (type_of% @x_qn) ∧ (type_of% @x_qs) ∧ (type_of% @x_qb) ∧ (type_of% @x_qk) ∧ (type_of% @x_qtt) ∧ (type_of% @x_q0) ∧ (type_of% @x_q1) ∧ (type_of% @x_gd) ∧ (type_of% @x_nmi) ∧ (type_of% @x_nmn) ∧ (type_of% @x_nms) ∧ (type_of% @x_nmb) ∧ (type_of% @x_nmsrc) ∧ (type_of% @x_nmt) ∧ (type_of% @x_nml) ∧ (type_of% @x_nmT) ∧ (type_of% @x_nmK) ∧ (type_of% @x_nm0) ∧ (type_of% @x_nm1) ∧ (type_of% @x_nmK0) ∧ (type_of% @x_nmT0) ∧ (type_of% @x_nci) ∧ (type_of% @x_ncn) ∧ (type_of% @x_ncs) ∧ (type_of% @x_ncb) ∧ (type_of% @x_ncm) ∧ (type_of% @x_nct) ∧ (type_of% @x_ncl) ∧ (type_of% @x_ncT) ∧ (type_of% @x_ncK) ∧ (type_of% @x_nc0) ∧ (type_of% @x_nc1) ∧ (type_of% @x_ncT0) ∧ (type_of% @x_ncK0) ∧ (type_of% @x_nccl) ∧ (type_of% @x_nccT) ∧ (type_of% @x_nccK) ∧ (type_of% @noi_prs) ∧ (type_of% @nom_prs) ∧ (type_of% @noi_ints) ∧ (type_of% @nom_ints) ∧ (type_of% @rsv_prs) ∧ type_of% @rsv_ints := ⟨@x_mut, ⟨@x_newM1, ⟨@x_newM0, ⟨@x_binM, ⟨@x_unM, ⟨@x_mobM, ⟨@x_lstC, ⟨@x_mobL, ⟨@x_setS, ⟨@x_setN, ⟨@x_putH, ⟨@x_putN, ⟨@x_toH, ⟨@x_toN, ⟨@x_tomk, ⟨@x_nummk, ⟨@x_hmk, ⟨@x_upmk, ⟨@x_toto, ⟨@x_upN, ⟨@x_upH, ⟨@x_putto, ⟨@x_bareN, ⟨@x_baretoN, ⟨@x_putbare, ⟨@x_qm, ⟨@x_qt, ⟨@x_ql, ⟨@x_qi, ⟨@x_qn, ⟨@x_qs, ⟨@x_qb, ⟨@x_qk, ⟨@x_qtt, ⟨@x_q0, ⟨@x_q1, ⟨@x_gd, ⟨@x_nmi, ⟨@x_nmn, ⟨@x_nms, ⟨@x_nmb, ⟨@x_nmsrc, ⟨@x_nmt, ⟨@x_nml, ⟨@x_nmT, ⟨@x_nmK, ⟨@x_nm0, ⟨@x_nm1, ⟨@x_nmK0, ⟨@x_nmT0, ⟨@x_nci, ⟨@x_ncn, ⟨@x_ncs, ⟨@x_ncb, ⟨@x_ncm, ⟨@x_nct, ⟨@x_ncl, ⟨@x_ncT, ⟨@x_ncK, ⟨@x_nc0, ⟨@x_nc1, ⟨@x_ncT0, ⟨@x_ncK0, ⟨@x_nccl, ⟨@x_nccT, ⟨@x_nccK, ⟨@noi_prs, ⟨@nom_prs, ⟨@noi_ints, ⟨@nom_ints, ⟨@rsv_prs, @rsv_ints⟩⟩⟩⟩⟩⟩⟩⟩⟩⟩⟩⟩⟩⟩⟩⟩⟩⟩⟩⟩⟩⟩⟩⟩⟩⟩⟩⟩⟩⟩⟩⟩⟩⟩⟩⟩⟩⟩⟩⟩⟩⟩⟩⟩⟩⟩⟩⟩⟩⟩⟩⟩⟩⟩⟩⟩⟩⟩⟩⟩⟩⟩⟩⟩⟩⟩⟩⟩⟩⟩⟩
section
variable {K : PySem.W.Frag} {W W' W0 : Wd} {P P0 : Hp} {G : Gm} {σ : St} {H H' : Hp} {X : Cx} {e a b o value : Expr} {es : List Expr} {kws : List Keyword} {pos pos' apos p : Pos}
def insC (cs : List Str) (o : Option D) (k : Str → List (Str × D) → Prop) : Prop := match o with
  | some (.ins _ c fs) => c ∈ cs ∧ k c fs
  | _ => False
theorem Rl.mobC (R : Rl K W P G σ H) {q : Addr} {v : V} {d : D} (r : Rp K W (.mob q) v) (e : G.c.h q = some d) (nl : ∀ x y, d ≠ .lkd x y := by intro _ _ z; cases z) : v = .ref q ∧ W.S q ∧ ¬ W.T q ∧ NoC d ∧ ∃ o, H q = some o ∧ RO K W q o d := by
  obtain ⟨rfl, s, t⟩ := r
  obtain ⟨_, _, h3⟩ := R.src q s
  obtain ⟨d2, o, q1, q2, q3, q4⟩ := h3.con t
  rw [e] at q1; cases q1
  exact ⟨rfl, s, t, q4, o, q2, q3.ro nl⟩
theorem NoIF.put {f : Str} {d : D} (hd : NoI d) : ∀ {fs : List (Str × D)}, NoIF fs → NoIF (putFD f d fs)
  | [], _ => ⟨hd, trivial⟩
  | (g, x) :: fs, h => by
    unfold putFD
    by_cases e : g = f
    · rw [if_pos e]; exact ⟨hd, h.2⟩
    · rw [if_neg e]; exact ⟨h.1, NoIF.put hd h.2⟩
def dFldM (cs : List Str) (f : Str) (t : DE) : DE := fun G Q => t G fun sv G1 => mobM sv fun a => insC cs (G1.c.h a) fun _ fs => fldM f fs fun x => Q (.dat x) G1
def dSetFM (cs : List Str) (f : Str) (to t : DE) : DS := fun E G => t G fun sv G1 => frz G1 sv fun d G2 => to G2 fun so G3 => mobM so fun a => insC cs (G3.c.h a) fun c fs => fs.length < 1000 ∧ NoI d ∧ E.nx (G3.at (G3.c.set a (.ins a c (putFD f d fs))))
section
variable {j k n : Nat} {f C : Addr} {fd : FuncData} {ps ks : List Str} {m c qual x : Str} {st : Stmt} {dd : List D} {S : DSp} {gD : List D → List D → List D} {g2 : List D → List D → List D}
def tabM (tab : List (Str × DSp)) (c : Str) (k : DSp → Prop) : Prop := match tab with
  | [] => False
  | (x, S) :: r => if x = c then k S else tabM r c k
def insT (tab : List (Str × DSp)) (o : Option D) (k : DSp → List (Str × D) → Prop) : Prop := match o with
  | some (.ins _ c fs) => tabM tab c fun S => k S fs
  | _ => False
def dMethT (n mm : Nat) (m : Str) (tab : List (Str × DSp)) (gD : List D → List D → List D) (ta : DE) (t tk : DA) : DE := fun G Q => ta G fun sv G1 => mobM sv fun a => insT tab (G1.c.h a) fun S fs => fs.lookup m = none ∧
  t G1 fun ds G2 => tk G2 fun zs G3 => ds.length + 1 = n ∧ zs.length = mm ∧ S G3.c (gD (.mob a :: ds) zs) fun r j => Q r (G3.at j)
def dPropT (x : Str) (tab : List (Str × DSp)) (ta : DE) : DE := fun G Q => ta G fun sv G1 => mobM sv fun a => insT tab (G1.c.h a) fun S _ => S G1.c [.mob a] fun r j => Q r (G1.at j)
def dMakeT (n mm : Nat) (c : Str) (S : DSp) (gD : List D → List D → List D) (t tk : DA) : DE := fun G Q => t G fun ds G1 => tk G1 fun es G2 => ds.length + 1 = n ∧ es.length = mm ∧ ∀ a, G2.c.h a = none → S (G2.c.set a (.ins a c [])) (gD (.mob a :: ds) es) fun r j => r = .dat .non ∧ Q (.dat (.mob a)) (G2.at j)
end
end
section
variable {K : PySem.W.Frag} {W W' : Wd} {P : Hp} {G : Gm} {σ : St} {H : Hp} {X : Cx} {e o : Expr} {es : List Expr} {kws : List Keyword} {pos apos p : Pos} {j k n : Nat} {f C : Addr} {fd : FuncData} {ps ks : List Str} {m c qual x : Str} {st : Stmt} {dd : List D} {S : DSp} {gD : List D → List D → List D}
end
section
variable {G : Gm} {Q : SV → Gm → Prop} {E : DEnds} {t to ta : DE} {t1 tk : DA} {a b : Addr} {c f m : Str} {cs : List Str} {fs : List (Str × D)} {tab : List (Str × DSp)} {S : DSp} {gD : List D → List D → List D} {n mm : Nat}
theorem x_fldM : dFldM cs f t G Q = t G fun sv G1 => mobM sv fun a => insC cs (G1.c.h a) fun _ fs => fldM f fs fun x => Q (.dat x) G1 := rfl
theorem x_setFM : dSetFM cs f to t E G = t G fun sv G1 => frz G1 sv fun d G2 => to G2 fun so G3 => mobM so fun a => insC cs (G3.c.h a) fun c fs => fs.length < 1000 ∧ NoI d ∧ E.nx (G3.at (G3.c.set a (.ins a c (putFD f d fs)))) := rfl
theorem x_methT : dMethT n mm m tab gD ta t1 tk G Q = ta G fun sv G1 => mobM sv fun a => insT tab (G1.c.h a) fun S fs => fs.lookup m = none ∧ t1 G1 fun ds G2 => tk G2 fun zs G3 => ds.length + 1 = n ∧ zs.length = mm ∧ S G3.c (gD (.mob a :: ds) zs) fun r j => Q r (G3.at j) := rfl
theorem x_propT : dPropT f tab ta G Q = ta G fun sv G1 => mobM sv fun a => insT tab (G1.c.h a) fun S _ => S G1.c [.mob a] fun r j => Q r (G1.at j) := rfl
theorem x_makeT : dMakeT n mm c S gD t1 tk G Q = t1 G fun ds G1 => tk G1 fun es G2 => ds.length + 1 = n ∧ es.length = mm ∧ ∀ a, G2.c.h a = none → S (G2.c.set a (.ins a c [])) (gD (.mob a :: ds) es) fun r j => r = .dat .non ∧ Q (.dat (.mob a)) (G2.at j) := rfl
theorem x_insC {k : Str → List (Str × D) → Prop} : insC cs (some (.ins b c fs)) k = (c ∈ cs ∧ k c fs) := rfl
theorem x_insT {k : DSp → List (Str × D) → Prop} : insT tab (some (.ins b c fs)) k = tabM tab c fun S => k S fs := rfl
theorem x_tab1 {k : DSp → Prop} : tabM ((c, S) :: tab) c k = k S := by unfold tabM; rw [if_pos rfl]
theorem x_cs1 : (c ∈ c :: cs) = True := eq_true List.mem_cons_self
end
section
variable {K : PySem.W.Frag} {W W' : Wd} {P : Hp} {G : Gm} {σ : St} {H : Hp} {X : Cx} {e : Expr} {pos p : Pos} {j k : Nat}
def dLenT (tab : List (Str × DSp)) (ta : DE) : DE := fun G Q => ta G fun sv G1 => mobM sv fun a => insT tab (G1.c.h a) fun S _ => S G1.c [.mob a] fun r j => ∃ n : Int, r = .dat (.int n) ∧ (0 ≤ n ∧ n < 2 ^ 63) ∧ Q (.dat (.int n)) (G1.at j)
theorem x_lenT {tab : List (Str × DSp)} {ta : DE} {Q : DQ} : dLenT tab ta G Q = ta G fun sv G1 => mobM sv fun a => insT tab (G1.c.h a) fun S _ => S G1.c [.mob a] fun r j => ∃ n : Int, r = .dat (.int n) ∧ (0 ≤ n ∧ n < 2 ^ 63) ∧ Q (.dat (.int n)) (G1.at j) := rfl
end
theorem XC : (type_of% @x_fldM) ∧ (type_of% @x_setFM) ∧ (type_of% @x_methT) ∧ (type_of% @x_propT) ∧ (type_of% @x_makeT) ∧ (type_of% @x_insC) ∧ (type_of% @x_insT) ∧ (type_of% @x_tab1) ∧ (type_of% @x_cs1) ∧ (type_of% @x_lenT) := ⟨@x_fldM, @x_setFM, @x_methT, @x_propT, @x_makeT, @x_insC, @x_insT, @x_tab1, @x_cs1, @x_lenT⟩
section
variable {K : PySem.W.Frag} {W W' W0 : Wd} {P P0 : Hp} {G : Gm} {σ : St} {H H' : Hp} {X : Cx} {e a b o value : Expr} {es : List Expr} {kws : List Keyword} {pos pos' apos p : Pos}
variable {j k n : Nat} {f C : Addr} {fd : FuncData} {ps ks : List Str} {m c qual x : Str} {st : Stmt} {dd : List D} {S : DSpX} {gD : List D → List D → List D} {g2 : List D → List D → List D} {Wx : WX}
theorem FnX.mono {P : Program} {w : World} {K : PySem.W.Frag} {mg : Str → Option Value} {base : Heap} {i : Nat} {sp : Sp} (h : FnX P w K mg base i f fd ps sp) (hi : i ≤ j) : FnX P w K mg base j f fd ps sp :=
  ⟨h.len, fun A outer s H args us vs Q E gd hr => h.run A outer s H args us vs Q E gd (hr.mono hi)⟩
def tabX (tab : List (Str × DSpX)) (c : Str) (k : DSpX → Prop) : Prop := match tab with
  | [] => False
  | (x, S) :: r => if x = c then k S else tabX r c k
def insX (tab : List (Str × DSpX)) (o : Option D) (k : DSpX → List (Str × D) → Prop) : Prop := match o with
  | some (.ins _ c fs) => tabX tab c fun S => k S fs
  | _ => False
def dMethX (n mm : Nat) (m : Str) (tab : List (Str × DSpX)) (gD : List D → List D → List D) (ta : DE) (t tk : DA) : DW → DE := fun Xw G Q => ta G fun sv G1 => mobM sv fun a => insX tab (G1.c.h a) fun S fs => fs.lookup m = none ∧
  t G1 fun ds G2 => tk G2 fun zs G3 => ds.length + 1 = n ∧ zs.length = mm ∧ S G3.c (gD (.mob a :: ds) zs) (fun r j => Q r (G3.at j)) (fun c fs j => Xw c fs (G3.at j))
theorem x_methX {ta : DE} {t1 tk : DA} {tab : List (Str × DSpX)} {mm : Nat} {Xw : DW} {Q : DQ} : dMethX n mm m tab gD ta t1 tk Xw G Q = ta G fun sv G1 => mobM sv fun a => insX tab (G1.c.h a) fun S fs => fs.lookup m = none ∧ t1 G1 fun ds G2 => tk G2 fun zs G3 => ds.length + 1 = n ∧ zs.length = mm ∧ S G3.c (gD (.mob a :: ds) zs) (fun r j => Q r (G3.at j)) (fun c fs j => Xw c fs (G3.at j)) := rfl
theorem x_insX {tab : List (Str × DSpX)} {b : Addr} {fs : List (Str × D)} {k : DSpX → List (Str × D) → Prop} : insX tab (some (.ins b c fs)) k = tabX tab c fun S => k S fs := rfl
theorem x_tabX1 {tab : List (Str × DSpX)} {k : DSpX → Prop} : tabX ((c, S) :: tab) c k = k S := by unfold tabX; rw [if_pos rfl]
end
mutual
def carryD : D → Bool
  | .non => true
  | .bl _ => true
  | .int _ => true
  | .str _ => true
  | .tup ds => carryL ds
  | .lst [] => true
  | _ => false
def carryL : List D → Bool
  | [] => true
  | d :: ds => carryD d && carryL ds
end
def carryF : List (Str × D) → Bool
  | [] => true
  | (_, d) :: fs => carryD d && carryF fs
section
variable {K : PySem.W.Frag} {W W' W0 W4 : Wd} {P P0 : Hp} {G : Gm} {σ : St} {H H' : Hp} {X : Cx}
def Same (H : Hp) (W W' : Wd) : Prop := W'.S = W.S ∧ ∀ b C dx gs, H b = some (.ins C dx gs) → W.F b = none → W'.F b = none
theorem Same.refl : Same H W W := ⟨rfl, fun _ _ _ _ _ h => h⟩
theorem Same.trans {W1 W2 : Wd} (h : Same H W W1) (h' : Same H W1 W2) : Same H W W2 := ⟨h'.1.trans h.1, fun b C dx gs e f => h'.2 b C dx gs e (h.2 b C dx gs e f)⟩
end
section
variable {X : Cx} {j k m : Nat} {st : Stmt} {dd : List D} {ps ks : List Str} {S : DSp} {c qual : Str} {p pos : Pos} {gD : List D → List D → List D} {u : DAT} {kws : List Keyword}
def fullOwn (G : Gm) : Prop := ∀ i, gg G i ≠ some (.own (.lst []))
def dMakeKB (m : Nat) (c : Str) (S : DSp) (gD : List D → List D → List D) (u : DAT) : DE := fun G Q => u G fun ss G1 => ss.length = m ∧ fullOwn G1 ∧ seeAll G1 ss fun ds => noMobL ds ∧ ∀ a, G1.c.h a = none →
  S (G1.c.bare.set a (.ins a c [])) (gD [.mob a] ds) fun r j => r = .dat .non ∧ ∃ fs, j.h a = some (.ins a c fs) ∧ carryF fs = true ∧ Q (.dat (.mob a)) (G1.at ((G1.c.put j).set a (.ins a c fs)))
theorem x_makeKB {G : Gm} {Q : DQ} : dMakeKB m c S gD u G Q = u G fun ss G1 => ss.length = m ∧ fullOwn G1 ∧ seeAll G1 ss fun ds => noMobL ds ∧ ∀ a, G1.c.h a = none →
  S (G1.c.bare.set a (.ins a c [])) (gD [.mob a] ds) fun r j => r = .dat .non ∧ ∃ fs, j.h a = some (.ins a c fs) ∧ carryF fs = true ∧ Q (.dat (.mob a)) (G1.at ((G1.c.put j).set a (.ins a c fs))) := rfl
end
theorem XD : (type_of% @x_makeKB) ∧ (type_of% @x_methX) ∧ (type_of% @x_insX) ∧ (type_of% @x_tabX1) := ⟨@x_makeKB, @x_methX, @x_insX, @x_tabX1⟩
mutual
def tupD : D → Bool
  | .non => true
  | .bl _ => true
  | .int _ => true
  | .str _ => true
  | .tup ds => tupL ds
  | _ => false
def tupL : List D → Bool
  | [] => true
  | d :: ds => tupD d && tupL ds
end
def tupS : SV → Bool
  | .dat d => tupD d
  | .new (.lst ds) => tupL ds
  | _ => false
section
variable {K : PySem.W.Frag} {W W' W0 : Wd} {P : Hp} {G : Gm} {σ : St} {H : Hp} {X : Cx} {e : Expr} {es : List Expr} {pos : Pos}
def dCallT (n : Nat) (S : DSp) (gD : List D → List D → List D) (u : DAT) : DE := fun G Q => u G fun ss G1 => ss.length = n ∧ seeAll G1 ss fun ds => noMobL ds ∧ S G1.c.bare (gD ds []) fun r j => tupS r = true ∧ Q r (G1.at (G1.c.put j))
theorem x_callT {n : Nat} {S : DSp} {gD : List D → List D → List D} {u : DAT} {Q : SV → Gm → Prop} : dCallT n S gD u G Q = u G fun ss G1 => ss.length = n ∧ seeAll G1 ss fun ds => noMobL ds ∧ S G1.c.bare (gD ds []) fun r j => tupS r = true ∧ Q r (G1.at (G1.c.put j)) := rfl
end
theorem XT : (type_of% @x_callT) ∧ (type_of% @x_callT) := ⟨@x_callT, @x_callT⟩
open PySem PySem.Spec PyProof.Rows L2 L2N
abbrev HSp := Addr → Str → Option Addr → DSp
structure HotX (K : PySem.W.Frag) (p : Addr × Obj) (c : Str) (C : Addr) (d : Option Addr) : Prop where
  n : PySem.W.nsIn K mainGlobals c = some (some (.ref C))
  z : Zn (.ref C) d p.2
  f : ∃ vs, p.2.data = .fields vs
section
variable {X : Cx} {j k n : Nat} {st : Stmt} {dd : List D} {ps : List Str} {S : HSp} {x : Str} {q pos : Pos} {e : Expr} {es : List Expr} {gD : List D → List D → List D} {a C : Addr} {oe : Obj} {d : Option Addr} {c : Str} {pn : List (Addr × Obj)} {t : DA}
def dCallH (n : Nat) (S : DSp) (gD : List D → List D → List D) (t : DA) : DE := fun G Q => t G fun ds G1 => ds.length = n ∧ S G1.c (gD ds []) fun r j => Q r (G1.at j)
theorem x_callH {S : DSp} {G : Gm} {Q : DQ} : dCallH n S gD t G Q = t G fun ds G1 => ds.length = n ∧ S G1.c (gD ds []) fun r j => Q r (G1.at j) := rfl
end
section
variable {X : Cx} {p : Addr × Obj} {C : Addr} {d : Option Addr}
end
theorem XH : (type_of% @x_callH) ∧ (type_of% @x_callH) := ⟨@x_callH, @x_callH⟩
section
variable {K : PySem.W.Frag} {W W' W0 : Wd} {P : Hp} {G : Gm} {σ : St} {H : Hp} {X : Cx} {e : Expr} {es : List Expr} {kws : List Keyword} {pos : Pos}
def dCallA (n : Nat) (S : DSp) (gD : List D → List D → List D) (u : DAT) : DE := fun G Q => u G fun ss G1 => ss.length = n ∧ seeAll G1 ss fun ds => noMobL (rsvL G1.c.h ds) ∧ S G1.c.bare (gD (rsvL G1.c.h ds) []) fun r j => flatS r = true ∧ Q r (G1.at (G1.c.put j))
def dCallKA (m : Nat) (S : DSp) (gD : List D → List D → List D) (u : DAT) : DE := fun G Q => u G fun ss G1 => ss.length = m ∧ seeAll G1 ss fun ds => noMobL (rsvL G1.c.h ds) ∧ S G1.c.bare (gD [] (rsvL G1.c.h ds)) fun r j => flatS r = true ∧ Q r (G1.at (G1.c.put j))
theorem x_callA {n : Nat} {S : DSp} {gD : List D → List D → List D} {u : DAT} {Q : DQ} : dCallA n S gD u G Q = u G fun ss G1 => ss.length = n ∧ seeAll G1 ss fun ds => noMobL (rsvL G1.c.h ds) ∧ S G1.c.bare (gD (rsvL G1.c.h ds) []) fun r j => flatS r = true ∧ Q r (G1.at (G1.c.put j)) := rfl
theorem x_callKA {n : Nat} {S : DSp} {gD : List D → List D → List D} {u : DAT} {Q : DQ} : dCallKA n S gD u G Q = u G fun ss G1 => ss.length = n ∧ seeAll G1 ss fun ds => noMobL (rsvL G1.c.h ds) ∧ S G1.c.bare (gD [] (rsvL G1.c.h ds)) fun r j => flatS r = true ∧ Q r (G1.at (G1.c.put j)) := rfl
end
theorem XA : (type_of% @x_callA) ∧ (type_of% @x_callKA) := ⟨@x_callA, @x_callKA⟩
section
variable {K : PySem.W.Frag} {W W' : Wd} {P P0 : Hp} {G : Gm} {σ : St} {H H' : Hp}
end
section
variable {X : Cx} {j k : Nat} {st : Stmt} {ps : List Str} {S : DSpX} {x : Str} {p pos : Pos} {e : Expr} {Wx : WX} {t : DE} {f : Addr} {fd : FuncData} {K : PySem.W.Frag} {qual : Str}
def newO (sv : SV) (k : D → Prop) : Prop := match sv with
  | .new d => k d
  | _ => False
def dCallXO (S : DSpX) (t : DE) : DW → DE := fun Xw G Q => t G fun sv G1 => newO sv fun d => S G1.c [d] (fun r j => Q r (G1.at j)) (fun c fs j => Xw c fs (G1.at j))
theorem x_callXO {G : Gm} {Q : DQ} {Xw : DW} : dCallXO S t Xw G Q = t G fun sv G1 => newO sv fun d => S G1.c [d] (fun r j => Q r (G1.at j)) (fun c fs j => Xw c fs (G1.at j)) := rfl
theorem x_newO {d : D} {k : D → Prop} : newO (.new d) k = k d := rfl
end
theorem XO : (type_of% @x_callXO) ∧ (type_of% @x_newO) := ⟨@x_callXO, @x_newO⟩
open PySem PySem.Spec PyProof.Rows L2 L2N
section
variable {X : Cx} {pins : List (Addr × Obj)} {B : Heap} {a : Addr} {cls : Value} {d : Option Addr} {σ : L2.St} {H : Hp} {sI s : Shared}
end
section
variable {X : Cx} {xi : Str → Bool} {Wx : WX} {body suite : List Stmt} {b₀ : Stmt} {x1 x2 x3 : Str} {p1 p2 p3 p4 pos' : Pos} {kk : Nat} {pos : Pos} {tb : DSX} {ts : DTS}
end
section
variable {X : Cx} {a C : Addr} {oe : Obj} {d : Option Addr} {pn : List (Addr × Obj)}
end
section
variable {X : Cx} {K : PySem.W.Frag} {Wx : WX} {W W' : Wd} {P : Hp} {G : Gm} {σ : St} {H : Hp} {e a b : Expr} {es : List Expr} {pos : Pos}
def dConsXA (t : DW → DE) (u : DW → DA) : DW → DA := fun Xw G Qa => t Xw G fun s G1 => frz G1 s fun d G2 => u Xw G2 fun ds G3 => Qa (d :: ds) G3
def dLstXA (u : DW → DA) : DW → DE := fun Xw G Q => u Xw G fun ds G1 => ds.length ≤ sizeLine ∧ Q (.new (.lst ds)) G1
def dBinXA (dr : D2) (ta : DW → DE) (tb : DE) : DW → DE := fun Xw G Q => ta Xw G fun sa G1 => tb G1 fun sb G2 => see G2 sa fun x => see G2 sb fun y => dr x y fun r => Q r G2
end
section
variable {G : Gm} {Qa : List D → Gm → Prop} {Q : DQ} {Xw : DW} {t : DW → DE} {u : DW → DA} {tb : DE} {dr : D2}
theorem x_consXA : dConsXA t u Xw G Qa = t Xw G fun s G1 => frz G1 s fun d G2 => u Xw G2 fun ds G3 => Qa (d :: ds) G3 := rfl
theorem x_lstXA : dLstXA u Xw G Q = u Xw G fun ds G1 => ds.length ≤ sizeLine ∧ Q (.new (.lst ds)) G1 := rfl
theorem x_binXA : dBinXA dr t tb Xw G Q = t Xw G fun sa G1 => tb G1 fun sb G2 => see G2 sa fun x => see G2 sb fun y => dr x y fun r => Q r G2 := rfl
theorem XL : (type_of% @x_consXA) ∧ (type_of% @x_lstXA) ∧ (type_of% @x_binXA) := ⟨@x_consXA, @x_lstXA, @x_binXA⟩
end
section
variable {X : Cx} {K : PySem.W.Frag} {W W' : Wd} {P : Hp} {G : Gm} {σ : St} {H : Hp} {e : Expr} {es : List Expr} {p p2 pos apos : Pos} {c f : Str}
end
section
variable {vi : Str → Bool} {G : Gm} {Q : DQ} {q : SV → Prop} {c f U : Str} {a : Addr} {t : DE} {ta : DA} {e : D}
end
def emp2 (a b : D) : Option Bool := match a, b with
  | .lst ds, .lst [] => some ds.isEmpty
  | _, _ => none
def dEqE : D2 := fun a b Q => match emp2 a b with
  | some c => Q (.dat (.bl c))
  | none => dEq a b Q
def dNeE : D2 := fun a b Q => match emp2 a b with
  | some c => Q (.dat (.bl (!c)))
  | none => dNe a b Q
section
variable {X : Cx} {K : PySem.W.Frag} {W : Wd} {P : Hp} {G : Gm} {σ : St} {H : Hp}
theorem emp2_of {a b : D} {c : Bool} (h : emp2 a b = some c) : ∃ ds, a = .lst ds ∧ b = .lst [] ∧ c = ds.isEmpty := by
  unfold emp2 at h
  split at h
  · cases h; exact ⟨_, rfl, rfl, rfl⟩
  · cases h
theorem lst_is {pins : List (Addr × Obj)} {s : Shared} {a : Addr} {xs : List V} (I : Inv X pins σ H s) (h : H a = some (.lst xs)) : ∃ us : List Value, Vals xs us ∧ s.heap.IsList a us.toArray := by
  obtain ⟨_, us, n, r, h1⟩ := (show ObjOk X.prog X.w H s.heap a (.lst xs) from I.hok a _ h)
  exact ⟨us, r, ⟨_, h1, rfl, n, rfl⟩⟩
theorem od_eqE (hu : X.A.units + 64 < cLine) : OpR X (compareOp .Eq) (canO X.K dEqE) := by
  intro pins s σ H x y v u Qv I rx ry h
  obtain ⟨W, P, G, σ', a, b, Q, R, ha, hb, t, r⟩ := h
  cases e : emp2 a b with
  | none =>
    unfold dEqE at t
    rw [e] at t
    exact od_eq hu pins s σ H x y v u Qv I rx ry ⟨W, P, G, σ', a, b, Q, R, ha, hb, t, r⟩
  | some c =>
    unfold dEqE at t
    rw [e] at t
    obtain ⟨ds, rfl, rfl, rfl⟩ := emp2_of e
    cases ds with
    | nil =>
      refine od_eq hu pins s σ H x y v u Qv I rx ry ⟨W, P, G, σ', _, _, Q, R, ha, hb, ?_, r⟩
      show eqQ (.lst []) (.lst []) _
      rw [q_00]
      exact t
    | cons d ds =>
      obtain ⟨p, xs, rfl, hp, rp⟩ := ha
      obtain ⟨q, ys, rfl, hq, rq⟩ := hb
      obtain rfl : ys = [] := rq
      obtain ⟨z, zs, rfl, _, _⟩ := rp
      cases rx
      cases ry
      obtain ⟨us, ru, l1⟩ := lst_is I hp
      obtain ⟨ws, rw_, l2⟩ := lst_is I hq
      cases ru with
      | cons _ _ =>
        cases rw_
        exact PySem.SeqAt.eq_list_lengthsAt l1 l2 (by simp) (by omega) (r.bl R t |> fun k => ⟨.bl false, H, I, rfl, k⟩)
theorem od_neE (hu : X.A.units + 64 < cLine) : OpR X (compareOp .NotEq) (canO X.K dNeE) := by
  intro pins s σ H x y v u Qv I rx ry h
  obtain ⟨W, P, G, σ', a, b, Q, R, ha, hb, t, r⟩ := h
  cases e : emp2 a b with
  | none =>
    unfold dNeE at t
    rw [e] at t
    exact od_ne hu pins s σ H x y v u Qv I rx ry ⟨W, P, G, σ', a, b, Q, R, ha, hb, t, r⟩
  | some c =>
    unfold dNeE at t
    rw [e] at t
    obtain ⟨ds, rfl, rfl, rfl⟩ := emp2_of e
    cases ds with
    | nil =>
      refine od_ne hu pins s σ H x y v u Qv I rx ry ⟨W, P, G, σ', _, _, Q, R, ha, hb, ?_, r⟩
      show eqQ (.lst []) (.lst []) _
      rw [q_00]
      exact t
    | cons d ds =>
      obtain ⟨p, xs, rfl, hp, rp⟩ := ha
      obtain ⟨q, ys, rfl, hq, rq⟩ := hb
      obtain rfl : ys = [] := rq
      obtain ⟨z, zs, rfl, _, _⟩ := rp
      cases rx
      cases ry
      obtain ⟨us, ru, l1⟩ := lst_is I hp
      obtain ⟨ws, rw_, l2⟩ := lst_is I hq
      cases ru with
      | cons _ _ =>
        cases rw_
        exact PySem.SeqAt.RcNeAt.lists_lengths l1 l2 (by simp) (by omega) _ _ _ _ (r.bl R t |> fun k => ⟨.bl true, H, I, rfl, k⟩)
end
section
variable {q : SV → Prop} {ds : List D}
theorem x_eqE : dEqE (.lst ds) (.lst []) q = q (.dat (.bl ds.isEmpty)) := rfl
theorem x_neE : dNeE (.lst ds) (.lst []) q = q (.dat (.bl (!ds.isEmpty))) := rfl
theorem x_isE0 : ([] : List D).isEmpty = true := rfl
theorem x_isE1 {d : D} : (d :: ds).isEmpty = false := rfl
theorem XQE : (type_of% @x_eqE) ∧ (type_of% @x_neE) ∧ (type_of% @x_isE0) ∧ (type_of% @x_isE1) := ⟨@x_eqE, @x_neE, @x_isE0, @x_isE1⟩
end
section
variable {K : PySem.W.Frag} {W W' W0 : Wd} {P P0 : Hp} {G : Gm} {σ : St} {H H' : Hp} {X : Cx} {e a b tg iter elt : Expr} {es : List Expr} {kws : List Keyword} {pos p : Pos}
mutual
def rsw (h : Addr → Option D) : D → D
  | .mob a => match h a with | some d => rsv h d | none => .mob a
  | .tup ds => .tup (rswL h ds)
  | .lst ds => .lst (rswL h ds)
  | d => d
def rswL (h : Addr → Option D) : List D → List D
  | [] => []
  | d :: ds => rsw h d :: rswL h ds
end
mutual
theorem Rl.rsw (R : Rl K W P G σ H) : ∀ (d : D) (v : V), Rp K W d v → noMob (LD.rsw G.c.h d) → Rp K (allW W G σ H) (LD.rsw G.c.h d) v
  | .non, _, h, _ => h
  | .bl _, _, h, _ => h
  | .int _, _, h, _ => h
  | .str _, _, h, _ => h
  | .ty _, _, h, _ => h
  | .ref _, _, h, _ => h
  | .lkd _ _, _, _, n => n.elim
  | .err _ _, _, h, n => noMob.to R.allF R.allS (.err _ _) _ n h
  | .mob a, _, h, n => by
    obtain ⟨rfl, s, t⟩ := h
    obtain ⟨_, _, h3⟩ := R.src a s
    obtain ⟨d, o, q1, q2, q3, _⟩ := h3.con t
    have e : LD.rsw G.c.h (.mob a) = LD.rsv G.c.h d := by unfold LD.rsw; rw [q1]
    rw [e] at n ⊢
    exact R.rsvO (q3.ro fun x y z => by subst z; unfold LD.rsv at n; exact n.elim) n (by rw [all_in (.inr ⟨s, t⟩)]; exact q2)
  | .src, _, h, n => noMob.to R.allF R.allS .src _ n h
  | .tup ds, _, h, n => by obtain ⟨a, xs, e, s, r⟩ := h; exact ⟨a, xs, e, R.allF _ _ s, Rl.rswL R ds xs r n⟩
  | .scr ns, _, h, n => noMob.to R.allF R.allS (.scr ns) _ n h
  | .lst ds, _, h, n => by obtain ⟨a, xs, e, s, r⟩ := h; exact ⟨a, xs, e, R.allF _ _ s, Rl.rswL R ds xs r n⟩
  | .dT ds, _, h, n => noMob.to R.allF R.allS (.dT ds) _ n h
  | .dK ds, _, h, n => noMob.to R.allF R.allS (.dK ds) _ n h
  | .ins a c fs, _, h, n => noMob.to R.allF R.allS (.ins a c fs) _ n h
  | .exc a c dd fs, _, h, n => noMob.to R.allF R.allS (.exc a c dd fs) _ n h
theorem Rl.rswL (R : Rl K W P G σ H) : ∀ (d : List D) (v : List V), RpL K W d v → noMobL (LD.rswL G.c.h d) → RpL K (allW W G σ H) (LD.rswL G.c.h d) v
  | [], _, h, _ => h
  | d :: ds, _, h, n => by obtain ⟨v, r, e, h, t⟩ := h; exact ⟨v, r, e, Rl.rsw R d v h n.1, Rl.rswL R ds r t n.2⟩
end
def dBinW (dr : D2) (ta tb : DE) : DE := fun G Q => ta G fun sa G1 => tb G1 fun sb G2 => see G2 sa fun x => see G2 sb fun y => noMob (rsw G2.c.h x) ∧ noMob (rsw G2.c.h y) ∧ dr (rsw G2.c.h x) (rsw G2.c.h y) fun r => flatS r = true ∧ Q r G2
def dUnW (dr : D1) (ta : DE) : DE := fun G Q => ta G fun sa G1 => see G1 sa fun x => noMob (rsw G1.c.h x) ∧ dr (rsw G1.c.h x) fun r => flatS r = true ∧ Q r G1
def dCallAW (n : Nat) (S : DSp) (gD : List D → List D → List D) (u : DAT) : DE := fun G Q => u G fun ss G1 => ss.length = n ∧ seeAll G1 ss fun ds => noMobL (rswL G1.c.h ds) ∧ S G1.c.bare (gD (rswL G1.c.h ds) []) fun r j => flatS r = true ∧ Q r (G1.at (G1.c.put j))
def dCallKW (m : Nat) (S : DSp) (gD : List D → List D → List D) (u : DAT) : DE := fun G Q => u G fun ss G1 => ss.length = m ∧ seeAll G1 ss fun ds => noMobL (rswL G1.c.h ds) ∧ S G1.c.bare (gD [] (rswL G1.c.h ds)) fun r j => flatS r = true ∧ Q r (G1.at (G1.c.put j))
def mutN (G : Gm) (sv : SV) (k : D → Prop) (f : Nat → D → Prop) : Prop := match sv with
  | .bor i => match gg G i with | some (.own d) => f i d | some (.dat d) => k d | none => False
  | .dat d => k d
  | .new _ => False
def dMutN (t : DE) : DE := fun G Q => t G fun sv G1 => mutN G1 sv (fun d => Q (.dat d) G1) fun i d => NoC d ∧ ∀ a, G1.c.h a = none → Q (.dat (.mob a)) ((gset G1 i (some (.dat (.mob a)))).at (G1.c.set a d))
def derM (h : Addr → Option D) (d : D) (k : D → Prop) : Prop := match d with
  | .mob a => match h a with | some (.lkd _ _) => False | some x => k x | none => False
  | d => k d
def dBinC (dr : D2) (ta tb : DE) : DE := fun G Q => ta G fun sa G1 => tb G1 fun sb G2 => see G2 sa fun x => see G2 sb fun y => derM G2.c.h x fun x => derM G2.c.h y fun y => dr x y fun r => Q r G2
def dUnC (dr : D1) (ta : DE) : DE := fun G Q => ta G fun sa G1 => see G1 sa fun x => derM G1.c.h x fun x => dr x fun r => Q r G1
theorem Rl.der (R : Rl K W P G σ H) {d : D} {v : V} {k : D → Prop} (h : RN K W H d v) (q : derM G.c.h d k) : ∃ x, RN K W H x v ∧ k x := by
  cases d <;> first | exact ⟨_, h, q⟩ | skip
  rename_i a
  have q : (match G.c.h a with | some (.lkd _ _) => False | some x => k x | none => False) := q
  cases e : G.c.h a with
  | none => rw [e] at q; exact q.elim
  | some x =>
    rw [e] at q
    have nl : ∀ y u, x ≠ .lkd y u := fun y u z => by subst z; exact q.elim
    obtain ⟨rfl, s, t, o, ho, ro⟩ := R.mobAt (d := x) (show Rp K W (.mob a) v from h) e nl
    refine ⟨x, ro.rn ho, ?_⟩
    cases x <;> first | exact q | exact (nl _ _ rfl).elim
abbrev DIM := Gm → (List D → Addr → Gm → Prop) → Prop
def dWalkM (t : DE) : DIM := fun G Q => t G fun sv G1 => mobM sv fun a => lstC (G1.c.h a) fun ds => Q ds a G1
def stndS (a : Addr) (ds : List D) (tb : DS) : DS := fun E => tb { E with nx := fun G => G.c.h a = some (.lst ds) ∧ E.nx G, ct := fun G => G.c.h a = some (.lst ds) ∧ E.ct G }
def stndT (a : Addr) (ds : List D) (t : DT) : DT := fun G Q => t G fun b G1 => G1.c.h a = some (.lst ds) ∧ Q b G1
def stndE (a : Addr) (ds : List D) (t : DE) : DE := fun G Q => t G fun sv G1 => G1.c.h a = some (.lst ds) ∧ Q sv G1
def dForM (t : DIM) (g : DG) (tb : DS) : DS := fun E G => t G fun ds a G1 => forL g (stndS a ds tb) E ds G1
def dLcM (vs : List Nat) (t : DIM) (g : DG) (tt : DT) (te : DE) : DE := fun G Q => t G fun ds a G1 => ds.length ≤ sizeLine ∧ lcL vs g (stndT a ds tt) (stndE a ds te) (fun acc G2 => Q (.new (.lst acc)) (backG vs G1 G2)) ds [] (wipeG vs G1)
theorem frz_c {sv : SV} {k : D → Gm → Prop} (h : frz G sv k) : frz G sv fun d G2 => G2.c = G.c ∧ k d G2 := by
  cases sv with
  | dat d => exact ⟨rfl, h⟩
  | new d => exact ⟨rfl, h⟩
  | bor i =>
    have h : (match gg G i with | some (.own d) => k d (gset G i (some (.dat d))) | some (.dat d) => k d G | none => False) := h
    show (match gg G i with | some (.own d) => (gset G i (some (.dat d))).c = G.c ∧ k d (gset G i (some (.dat d))) | some (.dat d) => G.c = G.c ∧ k d G | none => False)
    cases e : gg G i with
    | none => rw [e] at h; exact h.elim
    | some x => rw [e] at h; cases x <;> exact ⟨rfl, h⟩
end
section
variable {G : Gm} {Q : SV → Gm → Prop} {t te ta tb : DE} {a : Addr} {d : D} {c : Ct} {ds : List D} {h : Addr → Option D}
theorem x_binW {dr : D2} : dBinW dr ta tb G Q = ta G fun sa G1 => tb G1 fun sb G2 => see G2 sa fun x => see G2 sb fun y => noMob (rsw G2.c.h x) ∧ noMob (rsw G2.c.h y) ∧ dr (rsw G2.c.h x) (rsw G2.c.h y) fun r => flatS r = true ∧ Q r G2 := rfl
theorem x_unW {dr : D1} : dUnW dr ta G Q = ta G fun sa G1 => see G1 sa fun x => noMob (rsw G1.c.h x) ∧ dr (rsw G1.c.h x) fun r => flatS r = true ∧ Q r G1 := rfl
theorem x_callAW {n : Nat} {S : DSp} {gD : List D → List D → List D} {u : DAT} : dCallAW n S gD u G Q = u G fun ss G1 => ss.length = n ∧ seeAll G1 ss fun ds => noMobL (rswL G1.c.h ds) ∧ S G1.c.bare (gD (rswL G1.c.h ds) []) fun r j => flatS r = true ∧ Q r (G1.at (G1.c.put j)) := rfl
theorem x_callKW {n : Nat} {S : DSp} {gD : List D → List D → List D} {u : DAT} : dCallKW n S gD u G Q = u G fun ss G1 => ss.length = n ∧ seeAll G1 ss fun ds => noMobL (rswL G1.c.h ds) ∧ S G1.c.bare (gD [] (rswL G1.c.h ds)) fun r j => flatS r = true ∧ Q r (G1.at (G1.c.put j)) := rfl
theorem x_mutN : dMutN t G Q = t G fun sv G1 => mutN G1 sv (fun d => Q (.dat d) G1) fun i d => NoC d ∧ ∀ a, G1.c.h a = none → Q (.dat (.mob a)) ((gset G1 i (some (.dat (.mob a)))).at (G1.c.set a d)) := rfl
theorem x_mutN0 {k : D → Prop} {f : Nat → D → Prop} : mutN G (.dat d) k f = k d := rfl
theorem x_mutN1 {k : D → Prop} {f : Nat → D → Prop} {i : Nat} : mutN G (.bor i) k f = match gg G i with | some (.own d) => f i d | some (.dat d) => k d | none => False := rfl
theorem x_binC {dr : D2} : dBinC dr ta tb G Q = ta G fun sa G1 => tb G1 fun sb G2 => see G2 sa fun x => see G2 sb fun y => derM G2.c.h x fun x => derM G2.c.h y fun y => dr x y fun r => Q r G2 := rfl
theorem x_unC {dr : D1} : dUnC dr ta G Q = ta G fun sa G1 => see G1 sa fun x => derM G1.c.h x fun x => dr x fun r => Q r G1 := rfl
theorem x_dr_m {k : D → Prop} : derM h (.mob a) k = match h a with | some (.lkd _ _) => False | some x => k x | none => False := rfl
theorem x_dr_i {k : D → Prop} {i : Int} : derM h (.int i) k = k (.int i) := rfl
theorem x_dr_l {k : D → Prop} : derM h (.lst ds) k = k (.lst ds) := rfl
theorem x_dr_K {k : D → Prop} {es : List (Key × D)} : derM h (.dK es) k = k (.dK es) := rfl
theorem x_dr_T {k : D → Prop} {es : List (List Key × D)} : derM h (.dT es) k = k (.dT es) := rfl
theorem x_dr_t {k : D → Prop} : derM h (.tup ds) k = k (.tup ds) := rfl
theorem x_dr_s {k : D → Prop} {x : Str} : derM h (.str x) k = k (.str x) := rfl
theorem x_dr_n {k : D → Prop} : derM h .non k = k .non := rfl
theorem x_dr_b {k : D → Prop} {x : Bool} : derM h (.bl x) k = k (.bl x) := rfl
theorem x_nonm : isNon (.mob a) = false := rfl
theorem x_walkM {Q : List D → Addr → Gm → Prop} : dWalkM t G Q = t G fun sv G1 => mobM sv fun a => lstC (G1.c.h a) fun ds => Q ds a G1 := rfl
theorem x_forM {tt : DIM} {g : DG} {tb : DS} {E : DEnds} : dForM tt g tb E G = tt G fun ds a G1 => forL g (stndS a ds tb) E ds G1 := rfl
theorem x_lcM {vs : List Nat} {tt : DIM} {g : DG} {tb : DT} : dLcM vs tt g tb te G Q = tt G fun ds a G1 => ds.length ≤ sizeLine ∧ lcL vs g (stndT a ds tb) (stndE a ds te) (fun acc G2 => Q (.new (.lst acc)) (backG vs G1 G2)) ds [] (wipeG vs G1) := rfl
theorem x_stndS {tb : DS} {E : DEnds} : stndS a ds tb E = tb { E with nx := fun G => G.c.h a = some (.lst ds) ∧ E.nx G, ct := fun G => G.c.h a = some (.lst ds) ∧ E.ct G } := rfl
theorem x_stndT {t : DT} {Q : Bool → Gm → Prop} : stndT a ds t G Q = t G fun b G1 => G1.c.h a = some (.lst ds) ∧ Q b G1 := rfl
theorem x_stndE : stndE a ds t G Q = t G fun sv G1 => G1.c.h a = some (.lst ds) ∧ Q sv G1 := rfl
theorem x_z_m : rsw h (.mob a) = match h a with | some d => rsv h d | none => .mob a := by unfold rsw; rfl
theorem x_z_t : rsw h (.tup ds) = .tup (rswL h ds) := by unfold rsw; rfl
theorem x_z_l : rsw h (.lst ds) = .lst (rswL h ds) := by unfold rsw; rfl
theorem x_z_i {i : Int} : rsw h (.int i) = .int i := by unfold rsw; rfl
theorem x_z_n : rsw h .non = .non := by unfold rsw; rfl
theorem x_z_s {x : Str} : rsw h (.str x) = .str x := by unfold rsw; rfl
theorem x_z_b {x : Bool} : rsw h (.bl x) = .bl x := by unfold rsw; rfl
theorem x_z_k {es : List (Key × D)} : rsw h (.dK es) = .dK es := by unfold rsw; rfl
theorem x_z_tt {es : List (List Key × D)} : rsw h (.dT es) = .dT es := by unfold rsw; rfl
theorem x_z_src : rsw h .src = .src := by unfold rsw; rfl
theorem x_z_0 : rswL h [] = [] := by unfold rswL; rfl
theorem x_z_1 : rswL h (d :: ds) = rsw h d :: rswL h ds := by rw [rswL]
theorem x_qsrc : rsv h .src = .src := by unfold rsv; rfl
mutual
theorem rsw_nom : ∀ {d : D}, noMob d → rsw h d = d
  | .non, _ => by unfold rsw; rfl
  | .bl _, _ => by unfold rsw; rfl
  | .int _, _ => by unfold rsw; rfl
  | .str _, _ => by unfold rsw; rfl
  | .ty _, _ => by unfold rsw; rfl
  | .ref _, _ => by unfold rsw; rfl
  | .src, _ => by unfold rsw; rfl
  | .mob _, n => n.elim
  | .err _ _, _ => by unfold rsw; rfl
  | .lkd _ _, _ => by unfold rsw; rfl
  | .tup ds, n => by unfold rsw; rw [rswL_nom (by unfold noMob at n; exact n)]
  | .scr _, _ => by unfold rsw; rfl
  | .lst ds, n => by unfold rsw; rw [rswL_nom (by unfold noMob at n; exact n)]
  | .dT _, _ => by unfold rsw; rfl
  | .dK _, _ => by unfold rsw; rfl
  | .ins _ _ _, _ => by unfold rsw; rfl
  | .exc _ _ _ _, _ => by unfold rsw; rfl
theorem rswL_nom : ∀ {ds : List D}, noMobL ds → rswL h ds = ds
  | [], _ => x_z_0
  | d :: ds, n => by rw [x_z_1, rsw_nom n.1, rswL_nom n.2]
end
theorem rswL_prs {ps : List (Int × Int)} : rswL h (ps.map prD) = ps.map prD := rswL_nom nom_prs
theorem rswL_ints {ns : List Int} : rswL h (ns.map D.int) = ns.map D.int := rswL_nom nom_ints
end
theorem XW : (type_of% @x_binW) ∧ (type_of% @x_unW) ∧ (type_of% @x_callAW) ∧ (type_of% @x_callKW) ∧ (type_of% @x_mutN) ∧ (type_of% @x_mutN0) ∧ (type_of% @x_mutN1) ∧ (type_of% @x_binC) ∧ (type_of% @x_unC) ∧ (type_of% @x_dr_m) ∧ (type_of% @x_dr_i) ∧ (type_of% @x_dr_l) ∧ (type_of% @x_dr_K) ∧ (type_of% @x_dr_T) ∧ (type_of% @x_dr_t) ∧ (type_of% @x_dr_s) ∧ (type_of% @x_dr_n) ∧ (type_of% @x_dr_b) ∧ (type_of% @x_walkM) ∧ (type_of% @x_forM) ∧ (type_of% @x_lcM) ∧ (type_of% @x_stndS) ∧ (type_of% @x_stndT) ∧ (type_of% @x_stndE) ∧ (type_of% @x_z_m) ∧ (type_of% @x_z_t) ∧ (type_of% @x_z_l) ∧ (type_of% @x_z_i) ∧ (type_of% @x_z_n) ∧ (type_of% @x_z_s) ∧ (type_of% @x_z_b) ∧ (type_of% @x_z_k) ∧ (type_of% @x_z_tt) ∧ (type_of% @x_z_src) ∧ (type_of% @x_z_0) ∧ (type_of% @x_z_1) ∧ (type_of% @x_qsrc) ∧ (type_of% @rswL_prs) ∧ (type_of% @rswL_ints) ∧ (type_of% @x_nonm) := ⟨@x_binW, ⟨@x_unW, ⟨@x_callAW, ⟨@x_callKW, ⟨@x_mutN, ⟨@x_mutN0, ⟨@x_mutN1, ⟨@x_binC, ⟨@x_unC, ⟨@x_dr_m, ⟨@x_dr_i, ⟨@x_dr_l, ⟨@x_dr_K, ⟨@x_dr_T, ⟨@x_dr_t, ⟨@x_dr_s, ⟨@x_dr_n, ⟨@x_dr_b, ⟨@x_walkM, ⟨@x_forM, ⟨@x_lcM, ⟨@x_stndS, ⟨@x_stndT, ⟨@x_stndE, ⟨@x_z_m, ⟨@x_z_t, ⟨@x_z_l, ⟨@x_z_i, ⟨@x_z_n, ⟨@x_z_s, ⟨@x_z_b, ⟨@x_z_k, ⟨@x_z_tt, ⟨@x_z_src, ⟨@x_z_0, ⟨@x_z_1, ⟨@x_qsrc, ⟨@rswL_prs, ⟨@rswL_ints, @x_nonm⟩⟩⟩⟩⟩⟩⟩⟩⟩⟩⟩⟩⟩⟩⟩⟩⟩⟩⟩⟩⟩⟩⟩⟩⟩⟩⟩⟩⟩⟩⟩⟩⟩⟩⟩⟩⟩⟩⟩
section
variable {K : PySem.W.Frag} {W W' W0 : Wd} {P P0 : Hp} {G : Gm} {σ : St} {H H' : Hp} {X : Cx} {e f a b tg iter elt o kx value : Expr} {es : List Expr} {kws : List Keyword} {pos pt px apos cpos p : Pos}
theorem Rl.mobSetM (R : Rl K W P G σ H) {q : Addr} {o' : HO} {d' : D} (s : W.S q) (t : ¬ W.T q) (r : RM K W q o' d') (nt : ∀ xs, o' ≠ .tup xs) (nc : NoC d') : Rl K W P (G.at (G.c.set q d')) σ (upd H q o') := by
  obtain ⟨f, n, _⟩ := R.src q s
  have oth : ∀ {b}, b ≠ q → (G.c.set q d').h b = G.c.h b := fun {b} h => if_neg h
  refine ⟨R.len, fun b o e => ?_, fun b hb => ?_, fun p o e => ?_, R.dat, fun i d e => ?_, R.sep, R.pnt, fun a x e => ?_⟩
  · rw [upd_ne (fun z => by rw [z, f] at e; cases e)]; exact R.le b o e
  · by_cases z : b = q
    · subst z
      exact ⟨f, n, ⟨o', upd_same, nt⟩, fun y => absurd y t, fun _ => ⟨d', o', if_pos rfl, upd_same, r, nc⟩⟩
    · obtain ⟨h1, h2, h3⟩ := R.src b hb
      have h4 := h3.same (.refl W) hb (H' := upd H q o') fun o e => by rw [upd_ne z]; exact e
      exact ⟨h1, h2, h4.obj, h4.src, fun y => let ⟨x, u, q1, q2⟩ := h4.con y; ⟨x, u, (oth z).trans q1, q2⟩⟩
  · obtain ⟨h1, h2⟩ := R.prot p o e
    exact ⟨by rw [upd_ne (fun z => by rw [z, n] at e; cases e)]; exact h1, h2⟩
  · obtain ⟨p, u, h1, h2, h3⟩ := R.own i d e
    exact ⟨p, u, h1, ⟨by rw [upd_ne (fun z => h2.s (by rw [z]; exact s))]; exact h2.at_, h2.f, h2.s, h2.n⟩, h3⟩
  · by_cases z : a = q
    · subst z; exact ⟨s, t⟩
    · exact R.ext a x ((oth z).symm.trans e)
theorem RV.mobSet {q : Addr} {o' : HO} {c : Ct} (s : W.S q) {sv : SV} {v : V} (h : RV K W P G σ H sv v) : RV K W P (G.at c) σ (upd H q o') sv v := by
  cases sv with
  | dat d => exact h
  | bor i => exact h
  | new d =>
    obtain ⟨p, u, e1, h2, h3, h4⟩ := h
    exact ⟨p, u, e1, ⟨by rw [upd_ne (fun z => h2.s (by rw [z]; exact s))]; exact h2.at_, h2.f, h2.s, h2.n⟩, h3, h4⟩
theorem NoIK.put {k : Key} {d : D} (hd : NoI d) {es : List (Key × D)} (h : NoIK es) : NoIK (putD es k d) := by
  have mp : ∀ {es : List (Key × D)}, NoIK es → NoIK (es.map fun kv => if kv.1 = k then (kv.1, d) else kv) := by
    intro es; induction es with
    | nil => exact id
    | cons x es ih =>
      intro h
      obtain ⟨x1, x2⟩ := x
      rw [List.map_cons]
      by_cases z : x1 = k
      · rw [if_pos z]; exact ⟨hd, ih h.2⟩
      · rw [if_neg z]; exact ⟨h.1, ih h.2⟩
  have ap : ∀ {es : List (Key × D)}, NoIK es → NoIK (es ++ [(k, d)]) := by
    intro es; induction es with
    | nil => exact fun _ => ⟨hd, trivial⟩
    | cons x es ih => intro h; exact ⟨h.1, ih h.2⟩
  unfold putD
  split
  · exact mp h
  · exact ap h
theorem NoIT.put {k : List Key} {d : D} (hd : NoI d) {es : List (List Key × D)} (h : NoIT es) : NoIT (putD es k d) := by
  have mp : ∀ {es : List (List Key × D)}, NoIT es → NoIT (es.map fun kv => if kv.1 = k then (kv.1, d) else kv) := by
    intro es; induction es with
    | nil => exact id
    | cons x es ih =>
      intro h
      obtain ⟨x1, x2⟩ := x
      rw [List.map_cons]
      by_cases z : x1 = k
      · rw [if_pos z]; exact ⟨hd, ih h.2⟩
      · rw [if_neg z]; exact ⟨h.1, ih h.2⟩
  have ap : ∀ {es : List (List Key × D)}, NoIT es → NoIT (es ++ [(k, d)]) := by
    intro es; induction es with
    | nil => exact fun _ => ⟨hd, trivial⟩
    | cons x es ih => intro h; exact ⟨h.1, ih h.2⟩
  unfold putD
  split
  · exact mp h
  · exact ap h
def putC (o : Option D) (b dv : D) (k : D → Prop) : Prop := match o with
  | some (.dT es) => (match b with | .tup ds => (match keysOf ds with | some ks => es.length < sizeLine ∧ k (.dT (putD es ks dv)) | none => False) | _ => False)
  | some (.dK es) => (match keyOf b with | some kk => es.length < sizeLine ∧ k (.dK (putD es kk dv)) | none => False)
  | _ => False
def dPutM (to tv tk : DE) : DS := fun E G => tv G fun sv G1 => frz G1 sv fun dv G2 => to G2 fun so G3 => mobM so fun a => tk G3 fun sk G4 => frz G4 sk fun b G5 => NoI dv ∧ putC (G5.c.h a) b dv fun d' => E.nx (G5.at (G5.c.set a d'))
theorem ds_putM {to tv tk : DE} (ho : PE X o (can X.K to)) (hvl : PE X value (can X.K tv)) (hk : PE X kx (can X.K tk)) (hu : X.A.units + 65 < cLine)
    (hs : swapsWith value (some (.Subscript o kx pt)) pos.line X.env = pure false := by rfl) :
    PS X (.Assign [.Subscript o kx pt] value pos) (canS X.K (dPutM to tv tk)) := by
  refine PS.imp (ps_dput (Nat.lt_of_le_of_lt (by omega) hu) ho hk hvl hs) ?_
  rintro D σ H ⟨W, P, G, E, R, t, kk⟩
  refine ⟨W, P, G, _, R, t, fun W1 sv G1 v H1 l1 R1 r1 q1 => ?_⟩
  obtain ⟨W2, dv, G2, l2, R2, r2, q2⟩ := R1.frz r1 q1
  refine ⟨W2, P, G2, _, R2, q2, fun W3 so G3 x H3 l3 R3 r3 q3 => ?_⟩
  obtain ⟨a, rfl, q3⟩ := mobM_of q3
  refine ⟨W3, P, G3, _, R3, q3, fun W4 sk G4 y H4 l4 R4 r4 q4 => ?_⟩
  obtain ⟨W5, b, G5, l5, R5, r5, ni, q5⟩ := R4.frz r4 q4
  have rv := Rp.mono ((l3.trans l4).trans l5) _ _ r2
  have ra : Rp X.K W5 (.mob a) x := Rp.mono (l4.trans l5) (.mob a) x r3
  have l0 := (((l1.trans l2).trans l3).trans l4).trans l5
  unfold putC at q5
  split at q5
  · rename_i es e4
    obtain ⟨rfl, s, ts, nc, o', ho', ro'⟩ := R5.mobC ra e4
    cases o' <;> try exact False.elim ro'
    rename_i kvs
    cases b <;> try exact False.elim q5
    rename_i ds
    cases hk : keysOf ds with
    | none => simp only [hk] at q5
    | some ks =>
      simp only [hk] at q5
      obtain ⟨c, xs, ey, hx, rx⟩ := R5.rn r5
      have exs := keysOf_eq hk rx
      subst ey exs
      refine ⟨a, _, rfl, DPut.t ho' hx (by rw [RpT.len ro']; exact q5.1), ?_⟩
      exact kk.nx W5 _ σ _ l0 (R5.mobSet (d := .non) (o' := .dT _) (d' := .dT _) s ts (RpT.put ro' rv) (NoIT.put ni nc)) q5.2
  · rename_i es e4
    obtain ⟨rfl, s, ts, nc, o', ho', ro'⟩ := R5.mobC ra e4
    cases o' <;> try exact False.elim ro'
    rename_i kvs
    cases hk : keyOf b with
    | none => simp only [hk] at q5
    | some k =>
      simp only [hk] at q5
      have hy : y = kV k := by
        cases b <;> first | (cases hk; done) | skip
        · obtain rfl : y = .int _ := r5; cases hk; rfl
        · obtain rfl : y = .str _ := r5; cases hk; rfl
      subst hy
      refine ⟨a, _, rfl, DPut.k ho' (by rw [RpK.len ro']; exact q5.1), ?_⟩
      exact kk.nx W5 _ σ _ l0 (R5.mobSet (d := .non) (o' := .dK _) (d' := .dK _) s ts (RpK.put ro' rv) (NoIK.put ni nc)) q5.2
  · exact q5.elim
def isDC (o : Option D) : Prop := match o with
  | some d => isD d = true
  | none => False
def dicC (o : Option D) (b : D) (k : Option D → Prop) : Prop := match o with
  | some d => dAt b d k
  | none => False
def dGetC1 (te tk : DE) : DE := fun G Q => te G fun so G0 => mobM so fun a => isDC (G0.c.h a) ∧ tk G0 fun sk G1 => frz G1 sk fun b G2 => dicC (G2.c.h a) b fun od => Q (.dat (od.getD .non)) G2
def dGetC (te tk tx : DE) : DE := fun G Q => te G fun so G0 => mobM so fun a => isDC (G0.c.h a) ∧ tk G0 fun sk G1 => frz G1 sk fun b G2 => tx G2 fun sx G3 => frz G3 sx fun z G4 => dicC (G4.c.h a) b fun od => Q (.dat (od.getD z)) G4
theorem isD_nl {d : D} (h : isD d = true) : ∀ x y, d ≠ .lkd x y := fun x y z => by subst z; exact absurd h Bool.false_ne_true
theorem dAt_nl {b d : D} {k : Option D → Prop} (h : dAt b d k) : ∀ x y, d ≠ .lkd x y := fun x y z => by subst z; exact h.elim
theorem Rl.isDC (R : Rl K W P G σ H) {q : Addr} {v : V} (r : Rp K W (.mob q) v) (h : LD.isDC (G.c.h q)) : v = .ref q ∧ IsD H q := by
  cases e : G.c.h q with
  | none => rw [e] at h; exact h.elim
  | some d =>
    rw [e] at h
    have h : isD d = true := h
    obtain ⟨rfl, s, t, o, ho, ro⟩ := R.mobAt r e (isD_nl h)
    refine ⟨rfl, ?_⟩
    cases o <;> cases d <;> first | exact False.elim ro | exact absurd h Bool.false_ne_true | skip
    · exact .inl ⟨_, .inl ho⟩
    · exact .inr ⟨_, .inl ho⟩
theorem Rl.dicC (R : Rl K W P G σ H) {q : Addr} {b : D} {y : V} {k : Option D → Prop} (r : Rp K W (.mob q) (.ref q)) (hy : Rp K W b y) (h : LD.dicC (G.c.h q) b k) :
    ∃ o od, DGet H q y o ∧ k od ∧ ((od = none ∧ o = none) ∨ ∃ d v, od = some d ∧ o = some v ∧ Rp K W d v) := by
  cases e : G.c.h q with
  | none => rw [e] at h; exact h.elim
  | some d =>
    rw [e] at h
    have h : dAt b d k := h
    obtain ⟨_, s, t, o, ho, ro⟩ := R.mobAt r e (dAt_nl h)
    obtain ⟨p, o, od, ep, g, q, r⟩ := dAt_get (R.rn hy) (ro.rn ho) h
    cases ep
    exact ⟨o, od, g, q, r⟩
def itemsK (es : List (Key × D)) : List D := es.map fun e => .tup [keyD e.1, e.2]
def WalksL (K : PySem.W.Frag) (W0 : Wd) (J : It) (ds : List D) (a : Addr) (L : D) : Prop := ∀ W P G σ H i, W0.le W → Rl K W P G σ H → G.c.h a = some L →
  (∀ d, ds[i]? = some d → J.go i H ∧ ∀ x H', J.yld i H x H' → ∃ W', W.le W' ∧ Rl K W' P G σ H' ∧ Rp K W' d x) ∧ (ds.length ≤ i → J.stop i H)
theorem Rl.lkAt (R : Rl K W P G σ H) {q : Addr} {x : HO} {y : D} (s : W.S q) (t : ¬ W.T q) (e : G.c.h q = some (.lkd x y)) : H q = some x ∧ Lk K W x (.lkd x y) ∧ NoC (.lkd x y) := by
  obtain ⟨_, _, h3⟩ := R.src q s
  obtain ⟨d2, o, q1, q2, q3, q4⟩ := h3.con t
  rw [e] at q1; cases q1
  have lk := q3.resolve_left (fun z => by cases o <;> exact z.elim)
  obtain ⟨_, e', z, _⟩ := id lk.lkd
  cases z
  exact ⟨q2, lk, q4⟩
def stndL (a : Addr) (L : D) (tb : DS) : DS := fun E => tb { E with nx := fun G => G.c.h a = some L ∧ E.nx G, ct := fun G => G.c.h a = some L ∧ E.ct G }
def unlE (a : Addr) (L d : D) (E : DEnds) : DEnds := ⟨fun G => G.c.h a = some L ∧ E.nx (G.at (G.c.set a d)), fun sv n => n.h a = some L ∧ E.rt sv (n.set a d), fun G => G.c.h a = some L ∧ E.bk (G.at (G.c.set a d)), fun G => G.c.h a = some L ∧ E.ct (G.at (G.c.set a d))⟩
def mobG (o : Option SC) (k : Addr → Prop) : Prop := match o with
  | some (.dat (.mob a)) => k a
  | _ => False
def dkC (o : Option D) (k : List (Key × D) → Prop) : Prop := match o with
  | some (.dK es) => k es
  | _ => False
theorem mobG_of {o : Option SC} {k : Addr → Prop} (h : mobG o k) : ∃ a, o = some (.dat (.mob a)) ∧ k a := by
  unfold mobG at h
  split at h
  · exact ⟨_, rfl, h⟩
  · exact h.elim
def dForI (i : Nat) (g : DG) (tb : DS) : DS := fun E G => mobG (gg G i) fun a => dkC (G.c.h a) fun es => ∀ o : HO, forL g (stndL a (.lkd o (.dK es)) tb) (unlE a (.lkd o (.dK es)) (.dK es) E) (itemsK es) (G.at (G.c.set a (.lkd o (.dK es))))
end
def dEqD : D2 := fun a b Q => match a, b with
  | .dK es, .dK [] => Q (.dat (.bl es.isEmpty))
  | _, _ => False
def dNeD : D2 := fun a b Q => match a, b with
  | .dK es, .dK [] => Q (.dat (.bl (!es.isEmpty)))
  | _, _ => False
section
variable {X : Cx} {K : PySem.W.Frag} {W : Wd} {P : Hp} {G : Gm} {σ : St} {H : Hp}
theorem dk_is {pins : List (Addr × Obj)} {s : Shared} {a : Addr} {kvs : List (Key × V)} (I : Inv X pins σ H s) (h : Rd H a (.dK kvs)) : (a == sysModules) = false ∧ ∃ vs, KV kvs vs ∧ s.heap.DictOf (mixKind X.prog X.w) a vs := by
  rcases h with h | ⟨o, h⟩
  · obtain ⟨_, ya, va, ra, da⟩ := (show ObjOk X.prog X.w H s.heap a (.dK kvs) from I.hok a _ h)
    exact ⟨ya, va, ra, da⟩
  · obtain ⟨hs, hgd, hx, es, ep, vs, hdt, hsz, kv, hm⟩ := I.frzK h
    exact ⟨hs, vs, kv, hm.dictOf⟩
end
section
variable {G : Gm} {Q : SV → Gm → Prop} {t te tk tx to tv : DE} {a : Addr} {d : D} {c : Ct} {h : Addr → Option D}
theorem x_putM {E : DEnds} : dPutM to tv tk E G = tv G fun sv G1 => frz G1 sv fun dv G2 => to G2 fun so G3 => mobM so fun a => tk G3 fun sk G4 => frz G4 sk fun b G5 => NoI dv ∧ putC (G5.c.h a) b dv fun d' => E.nx (G5.at (G5.c.set a d')) := rfl
theorem x_putCK {es : List (Key × D)} {i : Int} {dv : D} {k : D → Prop} : putC (some (.dK es)) (.int i) dv k = (es.length < sizeLine ∧ k (.dK (putD es (.inl i) dv))) := rfl
theorem x_getC1 : dGetC1 te tk G Q = te G fun so G0 => mobM so fun a => isDC (G0.c.h a) ∧ tk G0 fun sk G1 => frz G1 sk fun b G2 => dicC (G2.c.h a) b fun od => Q (.dat (od.getD .non)) G2 := rfl
theorem x_getC : dGetC te tk tx G Q = te G fun so G0 => mobM so fun a => isDC (G0.c.h a) ∧ tk G0 fun sk G1 => frz G1 sk fun b G2 => tx G2 fun sx G3 => frz G3 sx fun z G4 => dicC (G4.c.h a) b fun od => Q (.dat (od.getD z)) G4 := rfl
theorem x_isDCK {es : List (Key × D)} : isDC (some (.dK es)) = True := eq_true rfl
theorem x_isDCT {es : List (List Key × D)} : isDC (some (.dT es)) = True := eq_true rfl
theorem x_dicCK {es : List (Key × D)} {i : Int} {k : Option D → Prop} : dicC (some (.dK es)) (.int i) k = k (valD es (.inl i)) := rfl
theorem x_forI {i : Nat} {g : DG} {tb : DS} {E : DEnds} : dForI i g tb E G = mobG (gg G i) fun a => dkC (G.c.h a) fun es => ∀ o : HO, forL g (stndL a (.lkd o (.dK es)) tb) (unlE a (.lkd o (.dK es)) (.dK es) E) (itemsK es) (G.at (G.c.set a (.lkd o (.dK es)))) := rfl
theorem x_mobG {k : Addr → Prop} : mobG (some (.dat (.mob a))) k = k a := rfl
theorem x_dkC {es : List (Key × D)} {k : List (Key × D) → Prop} : dkC (some (.dK es)) k = k es := rfl
theorem x_stndL {L : D} {tb : DS} {E : DEnds} : stndL a L tb E = tb { E with nx := fun G => G.c.h a = some L ∧ E.nx G, ct := fun G => G.c.h a = some L ∧ E.ct G } := rfl
theorem x_unlN {L : D} {E : DEnds} : (unlE a L d E).nx G = (G.c.h a = some L ∧ E.nx (G.at (G.c.set a d))) := rfl
theorem x_eqDe {es : List (Key × D)} {q : SV → Prop} : dEqD (.dK es) (.dK []) q = q (.dat (.bl es.isEmpty)) := rfl
theorem x_neDe {es : List (Key × D)} {q : SV → Prop} : dNeD (.dK es) (.dK []) q = q (.dat (.bl (!es.isEmpty))) := rfl
theorem x_inKc {es : List (Key × D)} {i : Int} {q : SV → Prop} : dIn (.int i) (.dK es) q = q (.dat (.bl (valD es (.inl i)).isSome)) := rfl
theorem x_ixKc {es : List (Key × D)} {i : Int} {q : SV → Prop} : dIx (.dK es) (.int i) q = atQ (valD es (.inl i)) q := rfl
theorem x_unlR {L : D} {E : DEnds} {sv : SV} {n : Ct} : (unlE a L d E).rt sv n = (n.h a = some L ∧ E.rt sv (n.set a d)) := rfl
end
theorem XDm : (type_of% @x_putM) ∧ (type_of% @x_putCK) ∧ (type_of% @x_getC1) ∧ (type_of% @x_getC) ∧ (type_of% @x_isDCK) ∧ (type_of% @x_isDCT) ∧ (type_of% @x_dicCK) ∧ (type_of% @x_forI) ∧ (type_of% @x_mobG) ∧ (type_of% @x_dkC) ∧ (type_of% @x_stndL) ∧ (type_of% @x_unlN) ∧ (type_of% @x_unlR) ∧ (type_of% @x_inKc) ∧ (type_of% @x_ixKc) ∧ (type_of% @x_eqDe) ∧ (type_of% @x_neDe) := ⟨@x_putM, @x_putCK, @x_getC1, @x_getC, @x_isDCK, @x_isDCT, @x_dicCK, @x_forI, @x_mobG, @x_dkC, @x_stndL, @x_unlN, @x_unlR, @x_inKc, @x_ixKc, @x_eqDe, @x_neDe⟩
section
variable {X : Cx} {tg : Expr}
end
def rngW1K (Q : List D → Gm → Prop) : List D → Gm → Prop := fun ds G1 => match ds with
  | [.int j] => Q (rangeD 0 j.toNat) G1
  | _ => False
def dRngW1 (t : DA) : DI := fun G Q => t G (rngW1K Q)
section
variable {as : DA} {G : Gm} {Qa Q : List D → Gm → Prop} {j : Int}
theorem x_rngW1 : dRngW1 as G Qa = as G (rngW1K Qa) := rfl
theorem x_rW1 : rngW1K Qa [.int j] G = Qa (rangeD 0 j.toNat) G := rfl
end
section
variable {es : List (List Key × D)} {a b : Int}
theorem x_putCT2 {dv : D} {k : D → Prop} : putC (some (.dT es)) (.tup [.int a, .int b]) dv k = (es.length < sizeLine ∧ k (.dT (putD es [.inl a, .inl b] dv))) := rfl
theorem x_ixT2c {q : SV → Prop} : dIx (.dT es) (.tup [.int a, .int b]) q = atQ (valD es [.inl a, .inl b]) q := rfl
theorem x_inT2c {q : SV → Prop} : dIn (.tup [.int a, .int b]) (.dT es) q = q (.dat (.bl (valD es [.inl a, .inl b]).isSome)) := rfl
theorem x_ninT2c {q : SV → Prop} : dNotIn (.tup [.int a, .int b]) (.dT es) q = q (.dat (.bl (!(valD es [.inl a, .inl b]).isSome))) := rfl
end
theorem XRw : (type_of% @x_rngW1) ∧ (type_of% @x_rW1) ∧ (type_of% @x_putCT2) ∧ (type_of% @x_ixT2c) ∧ (type_of% @x_inT2c) ∧ (type_of% @x_ninT2c) := ⟨@x_rngW1, @x_rW1, @x_putCT2, @x_ixT2c, @x_inT2c, @x_ninT2c⟩
structure FnHd where
  ad : PySem.W.Frag → Addr
  nm : Str
  ql : Str
  ar : Arguments
  bo : List Stmt
  sc : Scope
abbrev FnQ : Type := Option (Str × Str × Arguments × FuncBody × Scope)
def FnHd.val (e : FnHd) : FnQ := some (e.nm, e.ql, e.ar, .stmts e.bo, e.sc)
section
variable {cs : List (PySem.W.Frag → Bool)} {fs : List FnHd} {K : PySem.W.Frag}
end
section
variable {K : PySem.W.Frag} {a : Addr} {nm ql : Str} {ar : Arguments} {bo : List Stmt} {sc : Scope} {dd : List V}
end
def charsD (z : Str) : List D := z.cps.toList.map fun c => .str ⟨#[c]⟩
def asS (d : D) (k : Str → Prop) : Prop := match d with
  | .str z => k z
  | _ => False
def dWalkS (t : DE) : DI := fun G Q => t G fun sv G1 => see G1 sv fun d => asS d fun z => Q (charsD z) G1
def dIntS : D1 := fun d Q => asS d fun a => a.length ≤ 640 ∧ ∃ n, PySem.intText? a = some n ∧ Q (.dat (.int n))
def dSplitC (b : Str) (t : DE) : DE := fun G Q => t G fun sv G1 => see G1 sv fun d => asS d fun a => a.length + 2 ≤ sizeLine ∧ Q (.new (.lst ((Txt.split a b).map D.str))) G1
section
variable {X : Cx} {tg e : Expr} {pos : Pos} {t : DE}
end
def dStarS (t : DE) (u : DA) : DA := fun G Q => t G fun s G1 => see G1 s fun d => itemsD d fun xs => u G1 fun ds G3 => Q (xs ++ ds) G3
theorem x_starS {t : DE} {u : DA} {G : Gm} {Q : List D → Gm → Prop} : dStarS t u G Q = t G fun s G1 => see G1 s fun d => itemsD d fun xs => u G1 fun ds G3 => Q (xs ++ ds) G3 := rfl
theorem x_itemsL {ds : List D} {k : List D → Prop} : itemsD (.lst ds) k = k ds := rfl
def dForEX (t : DW → DE) (g : DG) (tb : DSX) : DSX := fun E G => t E.xc G fun sv G1 => frz G1 sv fun d G2 => dEnum.asLs d fun ds => forLX g tb E (enumD 0 ds) G2
theorem x_forEX {t : DW → DE} {g : DG} {tb : DSX} {E : DEX} {G : Gm} : dForEX t g tb E G = t E.xc G fun sv G1 => frz G1 sv fun d G2 => dEnum.asLs d fun ds => forLX g tb E (enumD 0 ds) G2 := rfl
section
variable {G : Gm} {a b : Str} {t : DE} {k : Str → Prop} {q : SV → Prop} {Q : List D → Gm → Prop} {Qe : SV → Gm → Prop}
theorem x_asS : asS (.str a) k = k a := rfl
theorem x_wlkS : dWalkS t G Q = t G fun sv G1 => see G1 sv fun d => asS d fun z => Q (charsD z) G1 := rfl
theorem x_intS : dIntS (.str a) q = (a.length ≤ 640 ∧ ∃ n, PySem.intText? a = some n ∧ q (.dat (.int n))) := rfl
theorem x_splC : dSplitC b t G Qe = t G fun sv G1 => see G1 sv fun d => asS d fun a => a.length + 2 ≤ sizeLine ∧ Qe (.new (.lst ((Txt.split a b).map D.str))) G1 := rfl
end
theorem XTx : (type_of% @x_starS) ∧ (type_of% @x_itemsL) ∧ (type_of% @x_forEX) ∧ (type_of% @x_asS) ∧ (type_of% @x_wlkS) ∧ (type_of% @x_intS) ∧ (type_of% @x_splC) := ⟨@x_starS, @x_itemsL, @x_forEX, @x_asS, @x_wlkS, @x_intS, @x_splC⟩
def dropT (es : List (List Key × D)) (k : List Key) : List (List Key × D) := es.filter fun kv => decide (kv.1 ≠ k)
section
variable {X : Cx} {K : PySem.W.Frag} {W : Wd} {P : Hp} {G : Gm} {σ : St} {H : Hp}
theorem rpt_drop {k : List Key} : ∀ {es : List (List Key × D)} {kvs : List (List Key × V)}, RpT K W es kvs → RpT K W (dropT es k) (dropK kvs k)
  | [], _, h => by obtain rfl : _ = [] := h; rfl
  | (k', d) :: es, _, h => by
    obtain ⟨v, r, rfl, h1, h2⟩ := h
    have ih := rpt_drop (k := k) h2
    unfold dropT dropK at ih ⊢
    rw [List.filter_cons, List.filter_cons]
    by_cases e : k' = k
    · rw [if_neg (by simp [e]), if_neg (by simp [e])]
      exact ih
    · rw [if_pos (by simp [e]), if_pos (by simp [e])]
      exact ⟨v, _, rfl, h1, ih⟩
theorem rpt_at {k : List Key} {d : D} {es : List (List Key × D)} {kvs : List (List Key × V)} (h : RpT K W es kvs) (e : valD es k = some d) : ∃ v, valV kvs k = some v ∧ Rp K W d v := by
  rcases RpT.val k h with ⟨a, _⟩ | ⟨d', v, a, b, c⟩
  · rw [a] at e; cases e
  · rw [a] at e; cases e
    exact ⟨v, b, c⟩
def rPopT1 : V → List V → Hp → VK → Prop := fun x xs H Q => ∃ (a : Addr) (kvs : List (List Key × V)) (k : List Key) (b : Addr), x = .ref a ∧ xs = [.ref b] ∧ H a = some (.dT kvs) ∧ H b = some (.tup (k.map kV)) ∧ ∃ v, valV kvs k = some v ∧ Q v (upd H a (.dT (dropK kvs k)))
theorem mt_popT1 (hu : X.A.units + 1 < cLine) : MtR X "dict.pop" rPopT1 := by
  intro pins s σ H x xs v us Q I rx rxs h
  obtain ⟨a, kvs, k, b, rfl, rfl, ha, hb, v0, ev, q⟩ := h
  cases rx
  cases rxs with
  | cons r1 rr =>
    cases rr
    cases r1
    obtain ⟨z, hd, xs', rel, dd⟩ := dt_of I.hok ha
    have hz : xs'.length ≤ sizeLine := by rw [← Paired.length rel]; exact z
    have r := rel.val k
    rw [ev] at r
    obtain ⟨p, hp, rv⟩ : ∃ p, PySem.atKey xs' k = some p ∧ RelV v0 p.2 := by
      cases e : PySem.atKey xs' k with
      | none => rw [e] at r; exact (show False from r).elim
      | some p => rw [e] at r; exact ⟨p, rfl, r⟩
    refine PySem.call_pop_heap (knd := tupleKind (mixKind X.prog X.w)) (k := k) (.inl rfl) (PySem.F.args_dict_pop_2 _ _) (tupleKind_room_in1 hu) (L2.key_of I.hok hb) hd dd hp (fun h' dd' hs => ?_) hz
    obtain ⟨o, es, ep, hq, h2, h3, h4, _, h5⟩ := dd'
    have I2 : Inv X pins σ (upd H a (.dT (dropK kvs k))) { s with heap := h', toks := s.toks + (tupleKind (mixKind X.prog X.w)).draws k } :=
      d_write I (by rw [ha]; exact True.intro) hs ⟨o, hq⟩ ⟨Nat.le_trans (dropK_le kvs k) z, hd, _, (L2.DX.KT_drop k rel).keeps (fun c ys ec => (by rw [upd_ne (ne_of ec ha (fun z => nomatch z))]; exact ec)), o, es, ep, hq, h2, h3, h4, h5⟩
    exact ⟨v0, _, I2, rv, q⟩
def ownT (G : Gm) (i : Nat) (k : List (List Key × D) → Prop) : Prop := match gg G i with | some (.own (.dT es)) => k es | _ => False
def popK (es : List (List Key × D)) (b : D) (k : D → List (List Key × D) → Prop) : Prop := match b with
  | .tup ds => (match keysOf ds with
    | some ks => (match valD es ks with
      | some v => k v (dropT es ks)
      | none => False)
    | none => False)
  | _ => False
def dPopT (i : Nat) (tk : DE) : DE := fun G Q => ownT G i (fun _ => True) ∧ tk G fun sk G1 => frz G1 sk fun b G2 => ownT G2 i fun es => popK es b fun v es' => Q (.dat v) (gset G2 i (some (.own (.dT es'))))
theorem x_popT {i : Nat} {tk : DE} {Q : SV → Gm → Prop} : dPopT i tk G Q = (ownT G i (fun _ => True) ∧ tk G fun sk G1 => frz G1 sk fun b G2 => ownT G2 i fun es => popK es b fun v es' => Q (.dat v) (gset G2 i (some (.own (.dT es'))))) := rfl
theorem x_popK2 {es : List (List Key × D)} {a b : Int} {k : D → List (List Key × D) → Prop} : popK es (.tup [.int a, .int b]) k = (match valD es [.inl a, .inl b] with | some v => k v (dropT es [.inl a, .inl b]) | none => False) := rfl
end
section
open PySem.Builtin.Dict
variable {prog : Program} {w : World} {A : Around} {E : Value → Shared → Prop} {s : Shared}
theorem same_empty {nm : String} {a b : Addr} {oa ob : Obj} {ea eb : Array DictEntry} {pa pb : Nat} {Q : Bool → Shared → Prop} (ha : (a == sysModules) = false) (hb : (b == sysModules) = false) (ga : s.heap.get? a = some oa) (da : oa.data = .dict ea pa) (gb : s.heap.get? b = some ob) (db : ob.data = .dict eb pb) (hz : eb.size = 0)
    (h : Q (decide (ea.size = 0)) s) : wpAny (model prog w) A (Builtin.Dict.samePairs nm a b) Q E s := by
  unfold Builtin.Dict.samePairs Builtin.Dict.showsAll
  rw [if_neg (show ¬ (a == sysModules) = true by rw [ha]; exact Bool.false_ne_true), if_neg (show ¬ (b == sysModules) = true by rw [hb]; exact Bool.false_ne_true)]
  refine wpAny_bind (wpAny_pure (wpAny_bind (wpAny_pure ?_)))
  refine wpAny_bind (wpAny_dictEntries ga da ?_)
  dsimp only
  refine wpAny_bind (wpAny_dictEntries gb db ?_)
  by_cases c : ea.size = 0
  · rw [decide_eq_true c] at h
    rw [if_neg (by rw [c, hz]; simp)]
    refine wpAny_bind (wpAny_dictEpoch ga da ?_)
    rw [c]
    refine wpAny_bind ?_
    rw [Std.Legacy.Range.forIn_eq_forIn_range']
    exact wpAny_pure (wpAny_pure h)
  · rw [decide_eq_false c] at h
    rw [if_pos (by rw [hz]; simpa using c)]
    exact wpAny_bind (wpAny_rule (wpAny_pure h))
theorem eq_empty {a b : Addr} {oa ob : Obj} {ea eb : Array DictEntry} {pa pb : Nat} {Q : Value → Shared → Prop} (ha : (a == sysModules) = false) (hb : (b == sysModules) = false) (ga : s.heap.get? a = some oa) (da : oa.data = .dict ea pa) (gb : s.heap.get? b = some ob) (db : ob.data = .dict eb pb) (hz : eb.size = 0)
    (ta : s.TypeIs (.ref a) "dict") (tb : s.TypeIs (.ref b) "dict") (hu : A.units < cLine) (h : Q (.bool (decide (ea.size = 0))) s) : wpAny (model prog w) A (compareOp .Eq (.ref a) (.ref b)) Q E s := by
  refine wpAny_richCompare_same_room (op := .Eq) ta tb PySem.F.slot_dict_eq (wpAny_call_entry PySem.F.slot_dict_eq ta PySem.F.entry_dict_eq ?_ (PySem.F.args_dict_eq_2 _ _)) hu
  show wpAny _ _ (Builtin.Dict.dictSlotArgs "__eq__" ⟨[.ref a, .ref b], []⟩ >>= _) _ _ s
  refine wpAny_bind ?_
  unfold Builtin.Dict.dictSlotArgs
  refine wpAny_bind (wpAny_notOrdered_dict ta (show wpAny _ _ (pure (Value.ref a, Value.ref b)) _ _ s from wpAny_pure ?_))
  refine wpAny_bind (wpAny_isInstance (T := "dict") tb PySem.F.sub_dict_dict ?_)
  simp only [Bool.not_true, Bool.false_eq_true, if_false]
  refine wpAny_bind (wpAny_pure (wpAny_bind (wpAny_pure (wpAny_bind (same_empty ha hb ga da gb db hz (wpAny_pure ⟨_, rfl, (fun x => nomatch x), (by simpa using h)⟩))))))
end
def dEqT : D2 := fun a b Q => match a, b with
  | .dT es, .dK [] => Q (.dat (.bl es.isEmpty))
  | _, _ => False
theorem od_eqT {X : Cx} (hu : X.A.units + 64 < cLine) : OpR X (compareOp .Eq) (canO X.K dEqT) := by
  intro pins s σ H x y v u Qv I rx ry h
  obtain ⟨W, P, G, σ', a, b, Q, R, ha, hb, t, r⟩ := h
  unfold dEqT at t
  split at t
  · rename_i es
    obtain ⟨p, kvs, rfl, hp, rp⟩ := ha
    obtain ⟨q, lvs, rfl, hq, rq⟩ := hb
    obtain rfl : lvs = [] := rq
    cases rx
    cases ry
    obtain ⟨_, ya, xs, rel, dd⟩ := dt_rd I.hok hp
    obtain ⟨yb, vb, kb, db⟩ := dk_is I hq
    have ta := dd.typeIs
    have tb := db.typeIs
    obtain ⟨oa, ea, pa, g1, _, d1, e1, _, _⟩ := dd
    obtain ⟨ob, eb, pb, g2, _, d2, _, pb2, _⟩ := db
    have z : eb.size = 0 := by
      have h1 := pb2.length
      have h2 : 0 = vb.length := Paired.length kb
      rw [Array.length_toList] at h1
      omega
    have n1 : ea.size = kvs.length := (size_of_entries e1).trans (Paired.length rel).symm
    have n2 := rp.len
    refine eq_empty ya yb g1 d1 g2 d2 z ta tb (by omega) ?_
    rw [show decide (ea.size = 0) = es.isEmpty by
      cases es with
      | nil => rw [List.length_nil] at n2; exact decide_eq_true (by omega)
      | cons _ _ => rw [List.length_cons] at n2; exact decide_eq_false (by omega)]
    exact r.bl R t |> fun k => ⟨.bl _, H, I, rfl, k⟩
  · exact t.elim
section
variable {prog : Program} {w : World} {κ : Type} [DecidableEq κ] {knd : PySem.HeapKind prog w κ} {A : Around} {E : Value → Shared → Prop} {s : Shared}
theorem call_dictH {o : Addr} {more : List (κ × Addr × Value)} {Q : Value → Shared → Prop} (hu : knd.room A.in1.in1) (hoS : (o == sysModules) = false) (ho : (s.heap.push { cls := .type "dict", data := .dict #[] }).DictOfH knd o more) (hdo : s.heap.objs.size ≠ o) (hsz : more.length ≤ sizeLine) (hty : ∀ x ∈ more, ({ s with heap := s.heap.push { cls := .type "dict", data := .dict #[] } } : Shared).TypeIs (.ref x.2.1) "tuple") (hap : (more.map fun x => knd.hash x.1).Nodup)
    (h : ∀ h', h'.DictOfH knd s.heap.objs.size (PySem.storedAllH [] more) → Heap.SameBut s.heap.objs.size (s.heap.push { cls := .type "dict", data := .dict #[] }) h' → Q (.ref s.heap.objs.size) { s with heap := h' }) :
    wpAny (model prog w) A (call (.type "dict") [.ref o]) Q E s := by
  refine callType_codes (Q₁ := fun obj s₁ => obj = .ref s.heap.objs.size ∧ s₁ = { s with heap := s.heap.push { cls := .type "dict", data := .dict #[] } }) PySem.F.kt_called_dict (PySem.F.kt_typeCall_dict_1 _) PySem.F.entry_dict_init (PySem.kt_code_dict_new _ ⟨rfl, rfl⟩) ?_
  rintro obj s₁ ⟨rfl, rfl⟩
  have hnew := PySem.Heap.DictOfH.new (knd := knd) s.heap
  refine ⟨hnew.typeIs, PySem.F.args_dict_init_2 _ _, ?_⟩
  unfold Builtin.«dict.__init__»
  refine wpAny_bind ?_
  unfold Builtin.Dict.selfAndRest
  refine wpAny_bind (wpAny_notOrdered_dict hnew.typeIs (show wpAny _ _ (pure (s.heap.objs.size, [Value.ref o])) _ _ _ from wpAny_pure ?_))
  show wpAny _ _ (Builtin.Dict.updateFrom "dict.__init__" s.heap.objs.size (.ref o) [] .none) _ _ _
  exact PySem.updateFrom_dictH (A := A.in1) .none hu hdo hoS hnew ho (.inr ⟨hty, hap⟩) (by simpa using hsz) fun h' hd' _ hs' => ⟨rfl, h h' hd' hs'⟩
theorem stored_nil {more : List (κ × Addr × Value)} (h : (more.map (·.1)).Nodup) : PySem.storedAllH [] more = more := by
  have key : ∀ (l acc : List (κ × Addr × Value)), ((acc ++ l).map (·.1)).Nodup → l.foldl (fun acc p => PySem.storedH acc p.1 p.2.1 p.2.2) acc = acc ++ l := by
    intro l
    induction l with
    | nil => intro acc _; rw [List.append_nil]; rfl
    | cons p l ih =>
      intro acc hn
      have e : PySem.storedH acc p.1 p.2.1 p.2.2 = acc ++ [p] := by
        rw [List.map_append, List.nodup_append] at hn
        refine PySem.storedH_new ?_ _ _
        unfold PySem.atKey
        rw [List.find?_eq_none.mpr fun x hx z => ?_]
        · rfl
        · exact hn.2.2 x.1 (List.mem_map_of_mem hx) p.1 (by rw [List.map_cons]; exact List.mem_cons_self) (of_decide_eq_true z)
      rw [List.foldl_cons, e, ih _ (by rw [List.append_assoc]; exact hn), List.append_assoc]; rfl
  exact (key more [] h).trans (List.nil_append _)
end
section
variable {X : Cx}
def rDictC (X : Cx) : List V → Hp → VK → Prop := fun xs H Q => ∃ (a : Addr) (kvs : List (List Key × V)), xs = [.ref a] ∧ Rd H a (.dT kvs) ∧ (kvs.map fun e => (tupleKind (mixKind X.prog X.w)).hash e.1).Nodup ∧ ∀ p, H p = none → Q (.ref p) (upd H p (.dT kvs))
theorem kt_mem {H : Hp} : ∀ {kvs : List (List Key × V)} {xs : List (List Key × Addr × Value)}, KT H kvs xs → kvs.map (·.1) = xs.map (·.1) ∧ ∀ x ∈ xs, H x.2.1 = some (.tup (x.1.map kV))
  | _, _, Paired.nil => ⟨rfl, fun _ h => by cases h⟩
  | _, _, Paired.cons (a := p) (b := q) h t => by
    obtain ⟨i1, i2⟩ := kt_mem t
    refine ⟨by rw [List.map_cons, List.map_cons, i1, h.1], fun x hx => ?_⟩
    rcases List.mem_cons.mp hx with e | hx
    · subst e
      rw [← h.1]; exact h.2.1
    · exact i2 x hx
theorem call_dictC (hu : X.A.units + 8 < cLine) : CallR X (.type "dict") (rDictC X) := by
  intro pins s σ H xs us Q I rs h
  obtain ⟨a, kvs, rfl, hr, hn, q⟩ := h
  cases rs with
  | cons r1 rr =>
    cases rr
    cases r1
    have hf : H s.heap.objs.size = none := I.hok.fresh (Nat.le_refl _)
    have I1 := I.laid (a := s.heap.objs.size) (o := .dT []) (h' := s.heap.push { cls := .type "dict", data := .dict #[] }) (t' := s.toks) (fun _ _ q => Heap.get?_push_of_some _ q) (Nat.le_refl _) (dt_empty s.heap I.big)
    have na : s.heap.objs.size ≠ a := fun z => by
      rcases hr with e | ⟨o, e⟩ <;> rw [← z, hf] at e <;> cases e
    have hr1 : Rd (upd H s.heap.objs.size (.dT [])) a (.dT kvs) := by
      rcases hr with e | ⟨o, e⟩
      · exact .inl (by rw [upd_ne (Ne.symm na)]; exact e)
      · exact .inr ⟨o, by rw [upd_ne (Ne.symm na)]; exact e⟩
    obtain ⟨z, hd, xs', rel, dd⟩ := dt_rd I1.hok hr1
    obtain ⟨k1, k2⟩ := kt_mem rel
    have hd0 := (dt_of I1.hok (a := s.heap.objs.size) (kvs := []) upd_same).2.1
    have hz : xs'.length ≤ sizeLine := by rw [← Paired.length rel]; exact z
    have hap : (xs'.map fun x => (tupleKind (mixKind X.prog X.w)).hash x.1).Nodup := by
      have e1 : xs'.map (fun x => (tupleKind (mixKind X.prog X.w)).hash x.1) = (xs'.map (·.1)).map (tupleKind (mixKind X.prog X.w)).hash := by rw [List.map_map]; rfl
      have e2 : kvs.map (fun x => (tupleKind (mixKind X.prog X.w)).hash x.1) = (kvs.map (·.1)).map (tupleKind (mixKind X.prog X.w)).hash := by rw [List.map_map]; rfl
      rw [e1, ← k1, ← e2]; exact hn
    have room : (tupleKind (mixKind X.prog X.w)).room X.A.in1.in1 := by
      show X.A.units + 1 + 1 < cLine
      omega
    have hnd : (xs'.map (·.1)).Nodup := by
      obtain ⟨_, _, _, _, _, _, _, _, h9⟩ := dd
      exact h9
    refine call_dictH (knd := tupleKind (mixKind X.prog X.w)) room hd dd na hz (fun x hx => ?_) hap fun h' hd' hs => ?_
    · obtain ⟨its, _, pl, _⟩ := I1.tuple (SqT.of (k2 x hx))
      exact pl.typeIs
    · rw [stored_nil hnd] at hd'
      obtain ⟨o, es, ep, hq, h2, h3, h4, _, h5⟩ := hd'
      have I2 := d_write (ob := .dT kvs) (t' := s.toks) I1 (by rw [upd_same]; exact True.intro) hs ⟨o, hq⟩ ⟨z, hd0, _, rel.keeps (fun c ys ec => (by rw [upd_ne (ne_of ec upd_same (fun z => nomatch z))]; exact ec)), o, es, ep, hq, h2, h3, h4, h5⟩
      rw [show upd (upd H s.heap.objs.size (.dT [])) s.heap.objs.size (.dT kvs) = upd H s.heap.objs.size (.dT kvs) from funext fun b => by unfold upd; split <;> rfl] at I2
      exact ⟨.ref s.heap.objs.size, _, I2, rfl, q _ hf⟩
end
def intK (k : Key) : Bool := match k with
  | .inl _ => true
  | .inr _ => false
def intH (k : Key) : Int := match k with
  | .inl i => hashInt i
  | .inr _ => 0
def hashI (ks : List Key) : Int := PySem.reduceHash (Builtin.Tuple.tupleHashOf (ks.map intH))
theorem hash_int {P : Program} {w : World} {ks : List Key} (h : ks.all intK = true) : (tupleKind (mixKind P w)).hash ks = hashI ks := by
  show PySem.tupleKeyHash (mixKind P w) ks = _
  unfold PySem.tupleKeyHash hashI
  rw [show ks.map (mixKind P w).hash = ks.map intH from List.map_congr_left fun k hk => by
    have := List.all_eq_true.mp h k hk
    cases k with
    | inl i => rfl
    | inr _ => cases this]
theorem rpt_keys {K : PySem.W.Frag} {W : Wd} : ∀ {es : List (List Key × D)} {kvs : List (List Key × V)}, RpT K W es kvs → kvs.map (·.1) = es.map (·.1)
  | [], _, h => by obtain rfl : _ = [] := h; rfl
  | (k, d) :: es, _, h => by
    obtain ⟨v, r, rfl, _, h2⟩ := h
    rw [List.map_cons, List.map_cons, rpt_keys h2]
def dDictC : D1 := fun d Q => match d with
  | .dT es => (es.all fun e => e.1.all intK) = true ∧ (es.map fun e => hashI e.1).Nodup ∧ Q (.new (.dT es))
  | _ => False
theorem cd_dictC {X : Cx} (hu : X.A.units + 64 < cLine) : CallR X (.type "dict") (canB X.K dDictC) := by
  refine CallR.imp (call_dictC (by omega)) ?_
  rintro vs H Qv ⟨W, P, G, σ, v, d, Q, rfl, R, n, t, r⟩
  cases d <;> first | exact False.elim t | skip
  rename_i es
  obtain ⟨a, kvs, rfl, hr, rp⟩ := n
  obtain ⟨t1, t2, t3⟩ := t
  refine ⟨a, kvs, rfl, hr, ?_, fun p hp => r.new R hp (o := .dT kvs) (d := .dT es) rp t3⟩
  have e1 : kvs.map (fun e => (tupleKind (mixKind X.prog X.w)).hash e.1) = (kvs.map (·.1)).map (tupleKind (mixKind X.prog X.w)).hash := by rw [List.map_map]; rfl
  have e2 : es.map (fun e => hashI e.1) = (es.map (·.1)).map hashI := by rw [List.map_map]; rfl
  rw [e1, rpt_keys rp, show (es.map (·.1)).map (tupleKind (mixKind X.prog X.w)).hash = (es.map (·.1)).map hashI from List.map_congr_left fun k hk => by
    obtain ⟨e, he, rfl⟩ := List.mem_map.mp hk
    exact hash_int (List.all_eq_true.mp t1 e he), ← e2]
  exact t2
def tiles7 : List (List Key) := (List.range 7).flatMap fun (i : Nat) => (List.range 7).map fun (j : Nat) => ([.inl (i : Int), .inl (j : Int)] : List Key)
theorem tiles7_apart : (tiles7.map hashI).Nodup := by decide +kernel
inductive LockQ (Q : VK) : V → Hp → Prop
  | done {v : V} {H : Hp} : Q v H → LockQ Q v H
  | lock {v : V} {H : Hp} {d : Addr} {u : HO} : H d = some u → Mut (some u) → (∀ od, LockQ Q v (upd H d (.frz od u))) → LockQ Q v H
theorem pe_hold {X : Cx} {e : Expr} {t : TE} (h : PE X e t) : PE X e (fun σ H Q => t σ H (LockQ Q)) := by
  refine ⟨fun pins s σ H Q I hw => thn (h.run pins s σ H _ I hw) fun v s1 q => ?_⟩
  obtain ⟨x, H1, I1, r, q⟩ := q
  induction q with
  | done q => exact ⟨_, _, I1, r, q⟩
  | lock hd mu _ ih =>
    obtain ⟨od, I2⟩ := I1.lock hd mu
    exact ih od I2
def mobD (d : D) (k : Addr → Prop) : Prop := match d with | .mob a => k a | _ => False
def dtC (o : Option D) (k : List (List Key × D) → Prop) : Prop := match o with | some (.dT es) => k es | _ => False
theorem mobD_of {d : D} {k : Addr → Prop} (h : mobD d k) : ∃ a, d = .mob a ∧ k a := by
  unfold mobD at h
  split at h
  · exact ⟨_, rfl, h⟩
  · exact h.elim
theorem dtC_of {o : Option D} {k : List (List Key × D) → Prop} (h : dtC o k) : ∃ es, o = some (.dT es) ∧ k es := by
  unfold dtC at h
  split at h
  · exact ⟨_, rfl, h⟩
  · exact h.elim
def holdL : List (List Key × D) → Gm → (Gm → Prop) → Prop
  | [], G, k => k G
  | e :: es, G, k => mobD e.2 fun a => dtC (G.c.h a) fun m => ∀ o : HO, holdL es (G.at (G.c.set a (.lkd o (.dT m)))) k
def newT (sv : SV) (k : List (List Key × D) → Prop) : Prop := match sv with | .new (.dT es) => k es | _ => False
def dHold (t : DE) : DE := fun G Q => t G fun sv G1 => newT sv fun es => holdL es G1 fun G2 => Q sv G2
section
variable {X : Cx} {K : PySem.W.Frag} {W W' W0 : Wd} {P P0 : Hp} {G : Gm} {σ : St} {H H' : Hp} {e tg iter elt : Expr} {pos : Pos}
theorem hold_ok {sv : SV} {v : V} {Qv : VK} {k : Gm → Prop} : ∀ (es : List (List Key × D)) {G : Gm} {H : Hp}, Rl K W P G σ H → RV K W P G σ H sv v → holdL es G k → (∀ G' H', Rl K W P G' σ H' → RV K W P G' σ H' sv v → k G' → Qv v H') → LockQ Qv v H
  | [], _, _, R, r, q, kk => .done (kk _ _ R r q)
  | (ks, d) :: es, G, H, R, r, q, kk => by
    obtain ⟨a, rfl, q⟩ := mobD_of q
    obtain ⟨m, e, q⟩ := dtC_of q
    obtain ⟨s, ts⟩ := R.ext a _ e
    obtain ⟨_, _, _, nc, o, ho, ro⟩ := R.mobC (v := .ref a) ⟨rfl, s, ts⟩ e
    cases o <;> try exact False.elim ro
    rename_i kvs
    refine .lock (d := a) (u := .dT kvs) ho trivial fun od => ?_
    have ro : RpT K W m kvs := ro
    have RL := R.mobSetM (o' := .frz od (.dT kvs)) (d' := .lkd (.frz od (.dT kvs)) (.dT m)) s ts (.inr ⟨rfl, ro⟩) (fun _ z => nomatch z) nc
    exact hold_ok es RL (r.mobSet s) (q (.frz od (.dT kvs))) kk
theorem de_hold {t : DE} (h : PE X e (can X.K t)) : PE X e (can X.K (dHold t)) := by
  refine PE.imp (pe_hold h) ?_
  rintro σ H Qv ⟨W, P, G, Q, R, t, k⟩
  refine ⟨W, P, G, _, R, t, fun W1 sv G1 v H1 l1 R1 r1 q1 => ?_⟩
  have q1 : newT sv fun es => holdL es G1 fun G2 => Q sv G2 := q1
  unfold newT at q1
  split at q1
  · exact hold_ok _ R1 r1 q1 fun G' H' R' r' q' => k W1 _ G' v H' l1 R' r' q'
  · exact q1.elim
theorem walks_keysL {q : Addr} {od : Obj} {kvs : List (List Key × V)} {es : List (List Key × D)} (s : W0.S q) (t : ¬ W0.T q) : WalksL K W0 (Itkt q od kvs) (keysT es) q (.lkd (.frz od (.dT kvs)) (.dT es)) := by
  intro W' P G σ H i l R e
  obtain ⟨hq, lk, _⟩ := R.lkAt (l.s q s) (fun z => t ((l.t q s).mp z)) e
  have r : RpT K W' es kvs := lk.2
  have hlen := r.len
  refine ⟨fun d hd => ?_, fun hi => ⟨hq, by unfold keysT at hi; rw [List.length_map] at hi; omega⟩⟩
  unfold keysT at hd
  rw [List.getElem?_map] at hd
  obtain ⟨⟨k, d0⟩, hk, rfl⟩ := Option.map_eq_some_iff.mp hd
  have hi : i < es.length := (List.getElem?_eq_some_iff.mp hk).1
  obtain ⟨v0, hv0, _⟩ := r.at hk
  refine ⟨⟨hq, by omega⟩, fun x H' ⟨h1, k', v, q, h2, h3, h4⟩ => ?_⟩
  subst h1 h3
  rw [hv0] at h2; cases h2
  exact R.tupAt h4 (rpl_keys k)
abbrev DILk := Gm → (List D → Addr → D → Gm → Prop) → Prop
def lkC (o : Option D) (k : D → List (List Key × D) → Prop) : Prop := match o with | some (.lkd x (.dT es)) => k (.lkd x (.dT es)) es | _ => False
theorem lkC_of {o : Option D} {k : D → List (List Key × D) → Prop} (h : lkC o k) : ∃ x es, o = some (.lkd x (.dT es)) ∧ k (.lkd x (.dT es)) es := by
  unfold lkC at h
  split at h
  · exact ⟨_, _, rfl, h⟩
  · exact h.elim
def dWalkLk (t : DE) : DILk := fun G Q => t G fun sv G1 => mobM sv fun a => lkC (G1.c.h a) fun L es => Q (keysT es) a L G1
def canILk (K : PySem.W.Frag) (t : DILk) : TI := fun σ H R => ∃ W P G Q, Rl K W P G σ H ∧ t G Q ∧ ∀ W' ds a L G' J H', W.le W' → Rl K W' P G' σ H' → WalksL K W' J ds a L → G'.c.h a = some L → Q ds a L G' → R J H'
theorem di_walkLk {t : DE} (h : PE X e (can X.K t)) : PI X tg e (canILk X.K (dWalkLk t)) := by
  refine PI.imp (pi_keys h) ?_
  rintro σ H R0 ⟨W, P, G, Q, R, t, k⟩
  refine ⟨W, P, G, _, R, t, fun W1 sv G1 v H1 l1 R1 r1 q1 => ?_⟩
  obtain ⟨a, rfl, q1⟩ := mobM_of q1
  have q1 : lkC (G1.c.h a) fun L es => Q (keysT es) a L G1 := q1
  obtain ⟨x, es, e0, q⟩ := lkC_of q1
  obtain ⟨rfl, s, ts⟩ := (show Rp X.K W1 (.mob a) v from r1)
  have hx : ∃ od kvs, x = .frz od (.dT kvs) := by
    obtain ⟨_, _, h3⟩ := R1.src a s
    obtain ⟨d2, o, q1, q2, q3, q4⟩ := h3.con ts
    rw [e0] at q1; cases q1
    have lk := q3.resolve_left (fun z => by cases o <;> exact z.elim)
    obtain ⟨_, _, z, h | h⟩ := id lk.lkd
    · obtain ⟨_, _, _, e5, _⟩ := h; cases z; cases e5
    · obtain ⟨kvs, es', rfl, _, _⟩ := h; cases z; exact ⟨_, _, lk.1⟩
  obtain ⟨od, kvs, rfl⟩ := hx
  obtain ⟨hq, _, _⟩ := R1.lkAt s ts e0
  exact ⟨a, od, rfl, .inr ⟨kvs, hq, k W1 _ a _ G1 _ H1 l1 R1 (walks_keysL s ts) e0 q⟩⟩
def stndTL (a : Addr) (L : D) (t : DT) : DT := fun G Q => t G fun b G1 => G1.c.h a = some L ∧ Q b G1
def stndEL (a : Addr) (L : D) (t : DE) : DE := fun G Q => t G fun sv G1 => G1.c.h a = some L ∧ Q sv G1
def dLcL (vs : List Nat) (t : DILk) (g : DG) (tt : DT) (te : DE) : DE := fun G Q => t G fun ds a L G1 => ds.length ≤ sizeLine ∧ lcL vs g (stndTL a L tt) (stndEL a L te) (fun acc G2 => Q (.new (.lst acc)) (backG vs G1 G2)) ds [] (wipeG vs G1)
theorem lc_JL {vs : List Nat} {g : DG} {tt : DT} {te : DE} {Q : DQ} {Qv : VK} {W1 : Wd} {G1 : Gm} {H1 : Hp} {J : It} {ds : List D} {a : Addr} {L : D} (R1 : Rl K W1 P G1 σ H1) (w : WalksL K W1 J ds a L) (ha : G1.c.h a = some L) (hz : ds.length ≤ sizeLine)
    (q : lcL vs g (stndTL a L tt) (stndEL a L te) (fun acc G2 => Q (.new (.lst acc)) (backG vs G1 G2)) ds [] (wipeG vs G1)) (k : ∀ W' sv G' v H', W1.le W' → Rl K W' P G' σ H' → RV K W' P G' σ H' sv v → Q sv G' → Qv v H') :
    LcB (canG K vs g) (canT K tt) (can K te) vs σ Qv J H1 := by
  intro D hD
  obtain ⟨nP, nF, Rg⟩ := R1.guard (o := .lst []) hD
  have Rw := Rg.wipe vs
  refine ⟨fun i m H => ∃ W2 G2 accD accV, W1.le W2 ∧ Rl K W2 (upd P D (.lst accV)) (wipeG vs G2) (L2.wipe σ vs) H ∧ G2.c.h a = some L ∧ RpL K W2 accD accV ∧ accV.length ≤ i ∧ i + m = ds.length ∧
    lcL vs g (stndTL a L tt) (stndEL a L te) (fun acc G2 => Q (.new (.lst acc)) (backG vs G1 G2)) (ds.drop i) accD (wipeG vs G2), ⟨ds.length, W1, G1, [], [], .refl W1, Rw, ha, rfl, Nat.le_refl _, by omega, q⟩, ?_⟩
  rintro i m H ⟨W2, G2, accD, accV, l2, R2, ha2, ra, hal, hm, q2⟩
  obtain ⟨w1, w2⟩ := w W2 _ _ _ H i l2 R2 (by rw [wipeG_c]; exact ha2)
  by_cases hi : i < ds.length
  · obtain ⟨hgo, hy⟩ := w1 ds[i] (List.getElem?_eq_getElem hi)
    rw [List.drop_eq_getElem_cons hi] at q2
    refine .inr ⟨hgo, fun H' => ∃ W3 G3 accD accV, W1.le W3 ∧ Rl K W3 (upd P D (.lst accV)) (wipeG vs G3) (L2.wipe σ vs) H' ∧ G3.c.h a = some L ∧ RpL K W3 accD accV ∧ accV.length ≤ i + 1 ∧
      lcL vs g (stndTL a L tt) (stndEL a L te) (fun acc G2 => Q (.new (.lst acc)) (backG vs G1 G2)) (ds.drop (i + 1)) accD (wipeG vs G3), fun H' ⟨W3, G3, aD, aV, l3, R3, ha3, r3, h3, q3⟩ => ⟨m - 1, by omega, W3, G3, aD, aV, l3, R3, ha3, r3, h3, by omega, q3⟩, fun x H' hx => ?_⟩
    obtain ⟨Wy, ly, Ry, r3⟩ := hy x H' hx
    refine ⟨Wy, _, wipeG vs G2, .dat ds[i], _, Ry, r3, q2, fun W4 G4 σ4 H4 l4' R4 b4 q4 => ?_⟩
    have l4 : W2.le W4 := ly.trans l4'
    have ew : L2.wipe σ4 vs = L2.wipe σ vs := b4.of_wipe
    refine ⟨ew, W4, _, G4, _, R4, q4, fun W5 b G5 H5 l5 R5 ⟨ha5, q5⟩ => ?_⟩
    have l45 : W1.le W5 := (l2.trans l4).trans l5
    cases b with
    | false =>
      rw [if_neg Bool.false_ne_true] at q5
      refine iteF ?_
      have R6 := R5.wipe vs
      rw [ew] at R6
      exact ⟨W5, G5, accD, accV, l45, R6, ha5, RpL.mono (l4.trans l5) _ _ ra, by omega, q5⟩
    | true =>
      rw [if_pos rfl] at q5
      refine iteT ?_
      refine ⟨W5, _, G5, _, R5, q5, fun W6 sv G6 y H6 l6 R6 r6 ⟨ha6, q6⟩ => ?_⟩
      obtain ⟨W7, d, G7, l7, R7, r7, ec, q7⟩ := R6.frz r6 (frz_c q6)
      obtain ⟨hD7, R8⟩ := R7.reguard (o' := .lst (accV ++ [y]))
      have R9 := R8.wipe vs
      rw [ew] at R9
      refine ⟨accV, hD7, by omega, W7, G7, accD ++ [d], accV ++ [y], (l45.trans l6).trans l7, R9, by rw [ec]; exact ha6, RpL.append (RpL.mono (((l4.trans l5).trans l6).trans l7) _ _ ra) ⟨y, [], rfl, r7, rfl⟩, by rw [List.length_append]; simpa using Nat.succ_le_succ hal, q7⟩
  · rw [List.drop_eq_nil_of_le (by omega)] at q2
    refine .inl ⟨w2 (by omega), ?_⟩
    obtain ⟨R4, r4⟩ := R2.unguard (o := HO.lst accV) (d := .lst accD) nP ra
    have R5 := R4.back l2 R1
    obtain ⟨p, o, e1, pr, ro, _⟩ := r4
    have hl : G2.length = G1.length := by
      have h1 := R4.len
      rw [wipeG_len, wipe_length] at h1
      exact h1.trans R1.len.symm
    have ebk : backG vs G1 (wipeG vs G2) = backG vs G1 G2 := by
      refine gm_ext (by rw [backG_c, backG_c, wipeG_c]) (by rw [backG_len, backG_len, wipeG_len]) fun j => ?_
      rw [gg_back _ _ _ _ (by rw [wipeG_len]; exact hl), gg_back _ _ _ _ hl, gg_wipe]
      by_cases h : j ∈ vs
      · rw [if_pos h, if_pos h]
      · rw [if_neg h, if_neg h, if_neg h]
    have q2 : Q (.new (.lst accD)) (backG vs G1 (wipeG vs G2)) := q2
    rw [ebk] at q2
    refine k W2 (.new (.lst accD)) _ _ H l2 R5 ⟨p, o, e1, pr, ro, fun i e h1 h2 => ?_⟩ q2
    obtain ⟨p', o', h3, h4, _⟩ := R5.own i e h1
    rw [h2] at h3; cases h3
    cases e1
    rw [gg_back _ _ _ _ hl] at h1
    by_cases hv : i ∈ vs
    · rw [if_pos hv] at h1
      cases q : gg G1 i with
      | none => rw [q] at h1; cases h1
      | some y => rw [q] at h1; cases y <;> cases h1
    · rw [if_neg hv] at h1
      obtain ⟨q, u, h5, h6, _⟩ := R2.own i e (by rw [gg_wipe, if_neg hv]; exact h1)
      rw [wipe_get, if_neg hv, h2] at h5; cases h5
      have := h6.n
      rw [upd_same] at this; cases this
theorem lc_okL {vs : List Nat} {t : DILk} {g : DG} {tt : DT} {te : DE} {Qv : VK} (h : can K (dLcL vs t g tt te) σ H Qv) : tLc (canILk K t) (canG K vs g) (canT K tt) (can K te) vs σ H Qv := by
  obtain ⟨W, P, G, Q, R, t, k⟩ := h
  exact ⟨W, P, G, _, R, t, fun W1 ds a L G1 J H1 l1 R1 w ha ⟨hz, q⟩ => lc_JL R1 w ha hz q fun W' sv G' v H' l => k W' sv G' v H' (l1.trans l)⟩
theorem de_lcLk {ifs : List Expr} {scope : Scope} {own : List (Str × Nat)} {t : DILk} {g : DG} {tt : DT} {te : DE} (hN : X.N.Nodup) (hi : PI X tg iter (canILk X.K t)) (ok : BlkOk X.N X.env.scope scope own)
    (hg : ∀ (s : Shared) (H : Hp) (C : Addr) (cl : List (Str × Addr)) (fp : List Addr), PG (X.blk s H scope (compEnvC scope cl C X.env) fp) tg (canG X.K (own.map (·.2)) g))
    (ht : ∀ (s : Shared) (H : Hp) (C : Addr) (cl : List (Str × Addr)) (fp : List Addr), PTs (X.blk s H scope (compEnvC scope cl C X.env) fp) ifs (canT X.K tt))
    (he : ∀ (s : Shared) (H : Hp) (C : Addr) (cl : List (Str × Addr)) (fp : List Addr), PE (X.blk s H scope (compEnvC scope cl C X.env) fp) elt (can X.K te)) (hc : X.calm = true := by rfl) (hs : ∀ x, foldedSetIterable iter X.env x = pure x := by intro _; rfl) :
    PE X (.ListComp elt [⟨tg, iter, ifs, 0⟩] scope pos) (can X.K (dLcL (own.map (·.2)) t g tt te)) := PE.imp (pe_lc hc hN hi ok hg ht he hs) fun _ _ _ => lc_okL
def dLcN (vs : List Nat) (i : Nat) (g : DG) (tt : DT) (te : DE) : DE := fun G Q => mobG (gg G i) fun a => dtC (G.c.h a) fun es => es.length ≤ sizeLine ∧ ∀ o : HO,
  lcL vs g (stndTL a (.lkd o (.dT es)) tt) (stndEL a (.lkd o (.dT es)) te) (fun acc G2 => (backG vs (G.at (G.c.set a (.lkd o (.dT es)))) G2).c.h a = some (.lkd o (.dT es)) ∧ Q (.new (.lst acc)) ((backG vs (G.at (G.c.set a (.lkd o (.dT es)))) G2).at ((backG vs (G.at (G.c.set a (.lkd o (.dT es)))) G2).c.set a (.dT es)))) (keysT es) [] (wipeG vs (G.at (G.c.set a (.lkd o (.dT es)))))
theorem ds_setLcN {x y : Str} {px py spos : Pos} {j : Nat} (i : Nat) {ifs : List Expr} {scope : Scope} {own : List (Str × Nat)} {g : DG} {tt : DT} {te : DE} (hN : X.N.Nodup) (ok : BlkOk X.N X.env.scope scope own)
    (hg : ∀ (s : Shared) (H : Hp) (C : Addr) (cl : List (Str × Addr)) (fp : List Addr), PG (X.blk s H scope (compEnvC scope cl C X.env) fp) tg (canG X.K (own.map (·.2)) g))
    (ht : ∀ (s : Shared) (H : Hp) (C : Addr) (cl : List (Str × Addr)) (fp : List Addr), PTs (X.blk s H scope (compEnvC scope cl C X.env) fp) ifs (canT X.K tt))
    (he : ∀ (s : Shared) (H : Hp) (C : Addr) (cl : List (Str × Addr)) (fp : List Addr), PE (X.blk s H scope (compEnvC scope cl C X.env) fp) elt (can X.K te))
    (hsw : swapsWith (.ListComp elt [⟨tg, .Name x px, ifs, 0⟩] scope pos) (some (.Name y py)) spos.line X.env = pure true) (hj : X.N[j]? = some x := by rfl) (hv : Vis X.env.scope x := by first | exact Or.inl rfl | exact Or.inr (Or.inl rfl) | exact Or.inr (Or.inr rfl))
    (hd : (x == ("__debug__" : Str)) = false := by decide) (hcd : (x == ("__classdict__" : Str)) = false := by decide) (hy : X.N[i]? = some y := by rfl) (hyl : X.env.scope.names.lookup y = some .local := by rfl) (hc : X.calm = true := by rfl) (hs : ∀ y, foldedSetIterable (.Name x px) X.env y = pure y := by intro _; rfl) :
    PS X (.Assign [.Name y py] (.ListComp elt [⟨tg, .Name x px, ifs, 0⟩] scope pos) spos) (canS X.K (dAsg (dLcN (own.map (·.2)) j g tt te) (dgName i))) := by
  have h0 := ps_setLc hc hN hy hyl hsw (pi_keys (tg := tg) (pe_var (pos := px) hj hv hd hcd)) ok hg ht he hs
  refine PS.imp (ps_lock h0) fun D σ H h => ?_
  obtain ⟨W, P, G, Q, R, t, kk⟩ := asg_ok (ws := [i]) h
  obtain ⟨a, e1, t⟩ := mobG_of t
  obtain ⟨es, e2, hz, t⟩ := dtC_of t
  obtain ⟨v, hσ, rv⟩ := R.dat j _ e1
  obtain ⟨rfl, s, ts, nc, o, ho, ro⟩ := R.mobC rv e2
  cases o <;> try exact False.elim ro
  rename_i kvs
  refine ⟨a, .dT kvs, ho, trivial, fun od => ?_⟩
  have ro : RpT X.K W es kvs := ro
  have q := t (.frz od (.dT kvs))
  have RL := R.mobSetM (o' := .frz od (.dT kvs)) (d' := .lkd (.frz od (.dT kvs)) (.dT es)) s ts (.inr ⟨rfl, ro⟩) (fun _ z => nomatch z) nc
  have hset : (G.at (G.c.set a (.lkd (.frz od (.dT kvs)) (.dT es)))).c.h a = some (.lkd (.frz od (.dT kvs)) (.dT es)) := if_pos rfl
  refine ⟨.ref a, hσ, a, od, rfl, .inr ⟨kvs, upd_same, ?_⟩⟩
  show LcB (canG X.K (own.map (·.2)) g) (canT X.K tt) (can X.K te) (own.map (·.2)) σ (fun v H1 => H1 a = some (.frz od (.dT kvs)) ∧ D.nx (σ.set i (some v)) (upd H1 a (.dT kvs))) (Itkt a od kvs) _
  refine lc_JL (Q := fun sv G2 => G2.c.h a = some (.lkd (.frz od (.dT kvs)) (.dT es)) ∧ Q sv (G2.at (G2.c.set a (.dT es)))) RL (walks_keysL s ts) hset (by unfold keysT; rw [List.length_map]; exact hz) q fun W1 sv G1 v H1 l1 R1 r1 ⟨ha, q1⟩ => ?_
  obtain ⟨h1, lk, nc'⟩ := R1.lkAt (l1.s a s) (fun z => ts ((l1.t a s).mp z)) ha
  have R2 := R1.mobSetM (o' := .dT kvs) (d' := .dT es) (l1.s a s) (fun z => ts ((l1.t a s).mp z)) (.inl lk.2) (fun _ z => nomatch z) nc'
  refine ⟨h1, ?_⟩
  obtain ⟨W2, P2, G2, sv2, Q2, R3, r3, t2, k2⟩ := kk W1 sv _ v _ l1 R2 (r1.mobSet (l1.s a s)) q1
  obtain ⟨W', c, G', l, R', q⟩ := R3.rest (i := i) r3 t2
  exact k2 W' _ _ _ l R' (But.set (by simp) _) q
def derK (h : Addr → Option D) (d : D) (k : D → Prop) : Prop := match d with
  | .mob a => match h a with | some (.lkd _ (.dT es)) => k (.dT es) | some (.dT es) => k (.dT es) | _ => False
  | d => k d
def dBinK (dr : D2) (ta tb : DE) : DE := fun G Q => ta G fun sa G1 => tb G1 fun sb G2 => see G2 sa fun x => see G2 sb fun y => derK G2.c.h x fun x => derK G2.c.h y fun y => dr x y fun r => Q r G2
theorem Rl.derK (R : Rl K W P G σ H) {d : D} {v : V} {k : D → Prop} (h : RN K W H d v) (q : LD.derK G.c.h d k) : ∃ x, RN K W H x v ∧ k x := by
  cases d <;> first | exact ⟨_, h, q⟩ | skip
  rename_i a
  have q : (match G.c.h a with | some (.lkd _ (.dT es)) => k (.dT es) | some (.dT es) => k (.dT es) | _ => False) := q
  split at q
  · rename_i x es e
    obtain ⟨rfl, s, t⟩ := (show Rp K W (.mob a) v from h)
    obtain ⟨_, _, h3⟩ := R.src a s
    obtain ⟨d2, o, q1, q2, q3, q4⟩ := h3.con t
    rw [e] at q1; cases q1
    have lk := q3.resolve_left (fun z => by cases o <;> exact z.elim)
    obtain ⟨u, _, z, h | h⟩ := id lk.lkd
    · obtain ⟨_, _, _, e5, _⟩ := h; cases z; cases e5
    · obtain ⟨kvs, es', rfl, e5, r⟩ := h
      cases z; cases e5
      exact ⟨.dT es, ⟨a, kvs, rfl, .inr ⟨_, q2⟩, r⟩, q⟩
  · rename_i es e
    obtain ⟨rfl, s, t, o, ho, ro⟩ := R.mobAt (d := .dT es) (show Rp K W (.mob a) v from h) e
    exact ⟨.dT es, ro.rn ho, q⟩
  · exact q.elim
theorem bin_opK {dr : D2} {ta tb : DE} {Qv : VK} (h : can K (dBinK dr ta tb) σ H Qv) : tOp (canO K dr) (can K ta) (can K tb) σ H Qv := by
  obtain ⟨W, P, G, Q, R, t, k⟩ := h
  refine can_bin R t fun W' G2 sa sb x y H2 l R2 s1 s2 q => ?_
  obtain ⟨d1, n1, q⟩ := R2.see s1 q
  obtain ⟨d2, n2, q⟩ := R2.see s2 q
  obtain ⟨d1, n1, q⟩ := R2.derK n1 q
  obtain ⟨d2, n2, q⟩ := R2.derK n2 q
  exact ⟨W', P, G2, σ, d1, d2, fun r => Q r G2, R2, n1, n2, q, fun W3 sv v H3 l3 R3 r3 q3 => k W3 sv G2 v H3 (l.trans l3) R3 r3 q3⟩
theorem de_cmpN {a b : Expr} {op : CmpOp} {dr : D2} {ta tb : DE} (ho : OpR X (compareOp op) (canO X.K dr)) (ha : PE X a (can X.K ta)) (hb : PE X b (can X.K tb)) (hm : behindInMarks op b = false := by first | exact nomark _ | rfl) : PE X (.Compare a [op] [b] pos) (can X.K (dBinK dr ta tb)) :=
  PE.imp (pe_cmpR ho ha hb hm) fun _ _ _ => bin_opK
theorem dt_cmpN {a b : Expr} {op : CmpOp} {dr : D2} {ta tb : DE} (ho : OpR X (compareOp op) (canO X.K dr)) (ha : PE X a (can X.K ta)) (hb : PE X b (can X.K tb)) (hm : behindInMarks op b = false := by first | exact nomark _ | rfl) : PT X (.Compare a [op] [b] pos) (canT X.K (dTst (dBinK dr ta tb))) :=
  PT.imp (pt_cmpR ho ha hb hm) fun _ _ _ h => bin_opK (tst_tB h)
theorem de_ixN {a b : Expr} {ta tb : DE} (hu : X.A.units + 64 < cLine) (ha : PE X a (can X.K ta)) (hb : PE X b (can X.K tb)) (hs : PlainIx b := by intro _ _; rfl) : PE X (.Subscript a b pos) (can X.K (dBinK dIx ta tb)) :=
  PE.imp (pe_ix (xd_ix hu) ha hb hs) fun _ _ _ => bin_opK
theorem NoIT.drop {k : List Key} : ∀ {es : List (List Key × D)}, NoIT es → NoIT (dropT es k)
  | [], _ => trivial
  | (k', d) :: es, h => by
    have ih := NoIT.drop (k := k) (es := es) h.2
    unfold dropT at ih ⊢
    rw [List.filter_cons]
    split
    · exact ⟨h.1, ih⟩
    · exact ih
def dPopM (i : Nat) (tk : DE) : DE := fun G Q => mobG (gg G i) fun a => dtC (G.c.h a) (fun _ => True) ∧ tk G fun sk G1 => frz G1 sk fun b G2 => dtC (G2.c.h a) fun es => popK es b fun v es' => Q (.dat v) (G2.at (G2.c.set a (.dT es')))
theorem de_popM {x : Str} {px apos cpos : Pos} {tk : DE} (i : Nat) (he : PE X e (can X.K tk)) (hu : X.A.units + 65 < cLine) (hN : X.N[i]? = some x := by rfl) (hv : Vis X.env.scope x := by first | exact Or.inl rfl | exact Or.inr (Or.inl rfl) | exact Or.inr (Or.inr rfl)) (hd : (x == ("__debug__" : Str)) = false := by decide)
    (hcd : (x == ("__classdict__" : Str)) = false := by decide) (hbase : attributeBase (.Name x px) "pop" X.env (eval (.Name x px) X.env) = eval (.Name x px) X.env := by rfl)
    (hfew : ((backTo cpos (starEach (e :: []) X.env)).all (fun x => !x.1) && (backToKw cpos (keywordEach [] X.env)).all (fun x => x.1.isSome)
      && decide ((e :: []).length + ([] : List Keyword).length + (if ([] : List Keyword).isEmpty then 0 else 1) < 30)) = true := by rfl)
    (hline : (apos.endLine == cpos.line) = true := by rfl) (hs : starEach (e :: []) X.env = (false, eval e X.env) :: starEach [] X.env := by rfl) (hplain : (backTo cpos (starEach [] X.env)).any (·.1) = false := by rfl) :
    PE X (.Call (.Attribute (.Name x px) "pop" apos) [e] [] cpos) (can X.K (dPopM i tk)) := by
  refine PE.imp (pe_bm PySem.F.plainAttrs_dict PySem.F.slot_dict_pop PySem.F.type_dict_pop (mt_popT1 (Nat.lt_of_le_of_lt (by omega) hu)) (pe_var hN hv hd hcd) (pa_cons he pa_nil hs) hbase hfew hline hs hplain) ?_
  rintro σ H Qv ⟨W, P, G, Q, R, t, kk⟩
  obtain ⟨a, h1, h2, t⟩ := mobG_of t
  obtain ⟨es0, h2, _⟩ := dtC_of h2
  obtain ⟨v0, e1, rv⟩ := R.dat i _ h1
  obtain ⟨rfl, s, ts, nc, o, ho, ro⟩ := R.mobC rv h2
  cases o <;> try exact False.elim ro
  rename_i kvs0
  refine ⟨_, e1, .inr (.inr (.inl ⟨rfl, .inr ⟨kvs0, ho⟩⟩)), W, P, G, _, R, t, fun W1 sk G1 y H1 l1 R1 r1 q1 => ?_⟩
  obtain ⟨W2, b, G2, l2, R2, r2, q2⟩ := R1.frz r1 q1
  obtain ⟨es, h3, q⟩ := dtC_of q2
  obtain ⟨_, s2, ts2, nc2, o', ho', ro'⟩ := R2.mobC (Rp.mono (K := X.K) (l1.trans l2) (.mob a) _ rv) h3
  cases o' <;> try exact False.elim ro'
  rename_i kvs
  unfold popK at q
  cases b <;> try exact False.elim q
  rename_i ds
  cases hk : keysOf ds with
  | none => simp only [hk] at q
  | some ks =>
    simp only [hk] at q
    cases hv2 : valD es ks with
    | none => simp only [hv2] at q
    | some d =>
      simp only [hv2] at q
      obtain ⟨c, xs, ey, hx, rx⟩ := R2.rn r2
      have exs := keysOf_eq hk rx
      subst ey exs
      obtain ⟨v, ev, rv⟩ := rpt_at ro' hv2
      exact ⟨a, kvs, ks, c, rfl, rfl, ho', hx, v, ev, kk W2 (.dat d) _ v _ (l1.trans l2) (R2.mobSetM (o' := .dT _) (d' := .dT _) s2 ts2 (.inl (rpt_drop ro')) (fun _ z => nomatch z) (NoIT.drop nc2)) rv q⟩
end
section
variable {G : Gm} {Q : SV → Gm → Prop} {t te : DE} {a : Addr} {L d : D} {es : List (List Key × D)} {i k : Nat} {c : Ct} {S : List (Option SC)}
theorem x_hold : dHold t G Q = t G fun sv G1 => newT sv fun es => holdL es G1 fun G2 => Q sv G2 := rfl
theorem x_newT {f : List (List Key × D) → Prop} : newT (.new (.dT es)) f = f es := rfl
theorem x_walkLk {f : List D → Addr → D → Gm → Prop} : dWalkLk t G f = t G fun sv G1 => mobM sv fun a => lkC (G1.c.h a) fun L es => f (keysT es) a L G1 := rfl
theorem x_lkC {x : HO} {f : D → List (List Key × D) → Prop} : lkC (some (.lkd x (.dT es))) f = f (.lkd x (.dT es)) es := rfl
theorem x_stndTL {t : DT} {Q : Bool → Gm → Prop} : stndTL a L t G Q = t G fun b G1 => G1.c.h a = some L ∧ Q b G1 := rfl
theorem x_stndEL : stndEL a L t G Q = t G fun sv G1 => G1.c.h a = some L ∧ Q sv G1 := rfl
theorem x_lcL {vs : List Nat} {t : DILk} {g : DG} {tt : DT} : dLcL vs t g tt te G Q = t G fun ds a L G1 => ds.length ≤ sizeLine ∧ lcL vs g (stndTL a L tt) (stndEL a L te) (fun acc G2 => Q (.new (.lst acc)) (backG vs G1 G2)) ds [] (wipeG vs G1) := rfl
theorem x_lcN {vs : List Nat} {g : DG} {tt : DT} : dLcN vs i g tt te G Q = mobG (gg G i) fun a => dtC (G.c.h a) fun es => es.length ≤ sizeLine ∧ ∀ o : HO,
  lcL vs g (stndTL a (.lkd o (.dT es)) tt) (stndEL a (.lkd o (.dT es)) te) (fun acc G2 => (backG vs (G.at (G.c.set a (.lkd o (.dT es)))) G2).c.h a = some (.lkd o (.dT es)) ∧ Q (.new (.lst acc)) ((backG vs (G.at (G.c.set a (.lkd o (.dT es)))) G2).at ((backG vs (G.at (G.c.set a (.lkd o (.dT es)))) G2).c.set a (.dT es)))) (keysT es) [] (wipeG vs (G.at (G.c.set a (.lkd o (.dT es))))) := rfl
theorem x_dtC {f : List (List Key × D) → Prop} : dtC (some (.dT es)) f = f es := rfl
theorem x_binK {dr : D2} {ta tb : DE} : dBinK dr ta tb G Q = ta G fun sa G1 => tb G1 fun sb G2 => see G2 sa fun x => see G2 sb fun y => derK G2.c.h x fun x => derK G2.c.h y fun y => dr x y fun r => Q r G2 := rfl
theorem x_dk_m {h : Addr → Option D} {k : D → Prop} : derK h (.mob a) k = match h a with | some (.lkd _ (.dT es)) => k (.dT es) | some (.dT es) => k (.dT es) | _ => False := rfl
theorem x_dk_t {h : Addr → Option D} {k : D → Prop} {ds : List D} : derK h (.tup ds) k = k (.tup ds) := rfl
theorem x_dk_K {h : Addr → Option D} {k : D → Prop} {es : List (Key × D)} : derK h (.dK es) k = k (.dK es) := rfl
theorem x_popM {tk : DE} : dPopM i tk G Q = mobG (gg G i) fun a => dtC (G.c.h a) (fun _ => True) ∧ tk G fun sk G1 => frz G1 sk fun b G2 => dtC (G2.c.h a) fun es => popK es b fun v es' => Q (.dat v) (G2.at (G2.c.set a (.dT es'))) := rfl
theorem x_eqT0 {q : SV → Prop} : dEqT (.dT es) (.dK []) q = q (.dat (.bl es.isEmpty)) := rfl
theorem x_putCT {x y : Int} {dv : D} {k : D → Prop} : putC (some (.dT es)) (.tup [.int x, .int y]) dv k = (es.length < sizeLine ∧ k (.dT (putD es [.inl x, .inl y] dv))) := rfl
end
theorem XHd : (type_of% @x_hold) ∧ (type_of% @x_newT) ∧ (type_of% @x_walkLk) ∧ (type_of% @x_lkC) ∧ (type_of% @x_stndTL) ∧ (type_of% @x_stndEL) ∧ (type_of% @x_lcL) ∧ (type_of% @x_lcN) ∧ (type_of% @x_dtC) ∧ (type_of% @x_binK) ∧ (type_of% @x_dk_m) ∧ (type_of% @x_dk_t) ∧ (type_of% @x_dk_K) ∧ (type_of% @x_popM) ∧ (type_of% @x_eqT0) ∧ (type_of% @x_putCT) ∧ (type_of% @x_popT) ∧ (type_of% @x_popK2) := ⟨@x_hold, @x_newT, @x_walkLk, @x_lkC, @x_stndTL, @x_stndEL, @x_lcL, @x_lcN, @x_dtC, @x_binK, @x_dk_m, @x_dk_t, @x_dk_K, @x_popM, @x_eqT0, @x_putCT, @x_popT, @x_popK2⟩
abbrev N__law_source : List Str := ["_law_cell", "_law_k", "_law_great"]
abbrev ps__law_source : List Str := ["_law_cell", "_law_k"]
def dd_is_integer : List D := [.non, .non]
abbrev N_is_integer : List Str := ["value", "low", "high"]
abbrev ps_is_integer : List Str := ["value", "low", "high"]
abbrev N_is_pair : List Str := ["value", "item"]
abbrev ps_is_pair : List Str := ["value"]
abbrev N_is_step : List Str := ["value"]
abbrev ps_is_step : List Str := ["value"]
abbrev N_steps_fault : List Str := ["value", "index", "step"]
abbrev ps_steps_fault : List Str := ["value"]
abbrev N_need_steps : List Str := ["steps", "fault"]
abbrev ps_need_steps : List Str := ["steps"]
abbrev N_need_size : List Str := ["number"]
abbrev ps_need_size : List Str := ["number"]
abbrev N_need_box : List Str := ["rows", "columns"]
abbrev ps_need_box : List Str := ["rows", "columns"]
abbrev N_need_tiles : List Str := ["steps", "height", "width"]
abbrev ps_need_tiles : List Str := ["steps", "height", "width"]
abbrev N_det : List Str := ["one", "other"]
abbrev ps_det : List Str := ["one", "other"]
abbrev N_time_of : List Str := ["line", "place"]
abbrev ps_time_of : List Str := ["line", "place"]
abbrev N_comes_on : List Str := ["one", "other", "turn"]
abbrev ps_comes_on : List Str := ["one", "other"]
abbrev N_outermost : List Str := ["places", "first", "last", "one", "other"]
abbrev ps_outermost : List Str := ["places"]
abbrev N_middle_line : List Str := ["first", "last"]
abbrev ps_middle_line : List Str := ["first", "last"]
abbrev N_line_over : List Str := ["places", "ends"]
abbrev ps_line_over : List Str := ["places"]
abbrev N_led_to : List Str := ["item", "size"]
abbrev ps_led_to : List Str := ["item", "size"]
abbrev N_tile_steps_of : List Str := ["steps", "height", "width", "found", "x", "y", "down", "across", "place"]
abbrev ps_tile_steps_of : List Str := ["steps", "height", "width"]
abbrev N_tile_order : List Str := ["steps", "height", "width"]
abbrev ps_tile_order : List Str := ["steps", "height", "width"]
abbrev N__law_ahead : List Str := ["_law_moves_here", "_law_spot", "_law_high", "_law_wide", "_law_found", "_law_x", "_law_y", "_law_one"]
abbrev ps__law_ahead : List Str := ["_law_moves_here", "_law_spot", "_law_high", "_law_wide"]
abbrev N__law_waits : List Str := ["_law_moves_here", "_law_tall", "_law_broad", "_law_found", "_law_i", "_law_j", "_law_x", "_law_y", "_law_here", "_law_there"]
abbrev ps__law_waits : List Str := ["_law_moves_here", "_law_tall", "_law_broad"]
abbrev N__law_can_end : List Str := ["_law_waits_here", "_law_left", "_law_free", "_law_spot", "_law_one"]
abbrev ps__law_can_end : List Str := ["_law_waits_here"]
abbrev N__law_at : List Str := ["_law_line", "_law_spot"]
abbrev ps__law_at : List Str := ["_law_line", "_law_spot"]
abbrev N__law_right : List Str := ["_law_moves_here", "_law_tall", "_law_broad", "_law_there", "_law_line", "_law_waits_here", "_law_here"]
abbrev ps__law_right : List Str := ["_law_moves_here", "_law_tall", "_law_broad"]
abbrev N__law_draw : List Str := ["_law_source_here", "_law_count", "_law_mixed", "_law_digit"]
abbrev ps__law_draw : List Str := ["_law_source_here", "_law_count"]
abbrev N__law_move : List Str := ["_law_source_here", "_law_far", "_law_across"]
abbrev ps__law_move : List Str := ["_law_source_here", "_law_far"]
abbrev N__law_moves : List Str := ["_law_source_here", "_law_far", "_law_most_many", "_law_found", "_law_turn", "_law_move_here"]
abbrev ps__law_moves : List Str := ["_law_source_here", "_law_far", "_law_most_many"]
abbrev N_law : List Str := ["_law_script", "_law_k", "_law_cell", "_law_source_here", "_law_turn"]
abbrev ps_law : List Str := ["_law_script"]
def okD (d : D) : Bool := (clsD d).isSome
def intD : D → Bool
  | .int _ => true
  | _ => false
def rngD (d : D) (lo hi : Int) : Bool := match d with
  | .int v => decide (lo ≤ v) && decide (v ≤ hi)
  | _ => false
def okE (d : D) : Bool := match d with
  | .tup ds => ds.all okD
  | d => okD d
def pairD (d : D) : Bool := match d with
  | .tup ds => decide (ds.length = 2) && ds.all intD
  | _ => false
def vecD (d : D) : Bool := match d with
  | .tup [.int a, .int b] => !(decide (a = 0) && decide (b = 0))
  | _ => false
def inB (r c x y : Int) : Prop := 0 ≤ x ∧ x < r ∧ 0 ≤ y ∧ y < c
instance inst_inB {r c x y : Int} : Decidable (inB r c x y) := by unfold inB; infer_instance
def prLt (p q : Int × Int) : Prop := p.1 < q.1 ∨ (p.1 = q.1 ∧ p.2 < q.2)
def stepOk (p : Int × Int) : Prop := 0 ≤ p.1 ∧ p.1 ≤ 6 ∧ -6 ≤ p.2 ∧ p.2 ≤ 6 ∧ (p.1 = 0 → 1 ≤ p.2)
instance inst_stepOk {p : Int × Int} : Decidable (stepOk p) := by unfold stepOk; infer_instance
def stepTo (f : Int) (p : Int × Int) : Prop := 0 ≤ p.1 ∧ p.1 ≤ f ∧ -f ≤ p.2 ∧ p.2 ≤ f ∧ (p.1 = 0 → 1 ≤ p.2)
def StepsOk (ms : List (Int × Int)) : Prop := 1 ≤ ms.length ∧ ms.length ≤ 4 ∧ (∀ p ∈ ms, stepOk p) ∧ ms.Nodup
def stepD (d : D) : Bool := match d with
  | .tup [.int a, .int b] => decide (stepOk (a, b))
  | _ => false
def pairOf (d : D) : Int × Int := match d with
  | .tup [.int a, .int b] => (a, b)
  | _ => (0, 0)
def okL (d : D) : Bool := match d with
  | .lst ds => ds.all okE
  | d => okD d
def faultAt (ps : List (Int × Int)) : List D → D
  | [] => .tup []
  | d :: r => if stepD d = true then (if pairOf d ∈ ps then .tup [.int ps.length] else faultAt (ps ++ [pairOf d]) r) else .tup [.int ps.length]
def faultD (d : D) : D := match d with
  | .lst ds => if 1 ≤ ds.length ∧ ds.length ≤ 4 then faultAt [] ds else .tup [.non]
  | _ => .tup [.non]
def tim (l p : Int × Int) : Int := l.1 * p.1 + l.2 * p.2
def dt (p q : Int × Int) : Int := p.1 * q.2 - p.2 * q.1
def comesB (p q : Int × Int) : Bool := decide (0 < dt p q) || (decide (dt p q = 0) && decide (0 < tim p q))
def firstsL (ps : List (Int × Int)) : List (Int × Int) := ps.filter fun p => ps.all fun q => comesB p q
def lastsL (ps : List (Int × Int)) : List (Int × Int) := ps.filter fun p => ps.all fun q => comesB q p
def outE (ps : List (Int × Int)) : Option ((Int × Int) × (Int × Int)) := match firstsL ps, lastsL ps with
  | f :: _, l :: _ => some (f, l)
  | _, _ => none
def outD : Option ((Int × Int) × (Int × Int)) → D
  | some (f, l) => .tup [.tup [.int f.1, .int f.2], .tup [.int l.1, .int l.2]]
  | none => .non
def midL (f l : Int × Int) : Int × Int := if dt f l = 0 then f else (l.2 - f.2, f.1 - l.1)
def lineO (ps : List (Int × Int)) : Option (Int × Int) := (outE ps).map fun e => midL e.1 e.2
def optD : Option (Int × Int) → D
  | some p => .tup [.int p.1, .int p.2]
  | none => .non
def spotOk (p : Int × Int) : Prop := p.1.natAbs < 10 ^ 80 ∧ p.2.natAbs < 10 ^ 80
def PlacesOk (ps : List (Int × Int)) : Prop := 1 ≤ ps.length ∧ ps.length ≤ 20 ∧ ∀ p ∈ ps, spotOk p ∧ ¬ (p.1 = 0 ∧ p.2 = 0)
def keyP (p : Int × Int) : List Key := [.inl p.1, .inl p.2]
def dictD (F : List (Int × Int)) : List (List Key × D) := F.map fun p => (keyP p, .bl true)
inductive Reach (ms : List (Int × Int)) (A lo hi : Int) : Int × Int → Prop
  | zero : Reach ms A lo hi (0, 0)
  | step {p s : Int × Int} : Reach ms A lo hi p → s ∈ ms → p.1 + s.1 ≤ A → lo ≤ p.2 + s.2 → p.2 + s.2 ≤ hi → Reach ms A lo hi (p.1 + s.1, p.2 + s.2)
def insE (F : List (Int × Int)) (p : Int × Int) : List (Int × Int) := if p ∈ F then F else F ++ [p]
def insAll (F L : List (Int × Int)) : List (Int × Int) := L.foldl insE F
instance inst_prLt {p q : Int × Int} : Decidable (prLt p q) := by unfold prLt; infer_instance
def SortSet (S : Int × Int → Prop) (qs : List (Int × Int)) : Prop := qs.Pairwise prLt ∧ ∀ p, p ∈ qs ↔ S p
def ledL (x n : Int) : List Int := if x.fmod n = 0 then [x.fdiv n] else [x.fdiv n, x.fdiv n + 1]
def tileG (a b : Int) (ms : List (Int × Int)) : List (Int × Int) := ms.flatMap fun s => (ledL s.1 a).flatMap fun d => (ledL s.2 b).map fun c => (d, c)
def TileP (ms : List (Int × Int)) (a b : Int) (p : Int × Int) : Prop := p ≠ (0, 0) ∧ ∃ s ∈ ms, p.1 ∈ ledL s.1 a ∧ p.2 ∈ ledL s.2 b
def sizeOk (n : Int) : Prop := 1 ≤ n ∧ n ≤ 999999999999999999999999999999
def boxB (r c : Int) (p : Int × Int) : Bool := decide (0 ≤ p.1) && decide (p.1 < r) && (decide (0 ≤ p.2) && decide (p.2 < c))
def RedP (ms : List (Int × Int)) (r c : Int) (p q : Int × Int) : Prop := inB r c q.1 q.2 ∧ ∃ s ∈ ms, q = (p.1 + s.1, p.2 + s.2)
def HasKeys (es : List (List Key × D)) (F : List (Int × Int)) : Prop := ∀ a b : Int, (valD es [.inl a, .inl b]).isSome = decide ((a, b) ∈ F)
def addAt : List Int → Nat → Int → List Int
  | [], _, _ => []
  | n :: ns, 0, v => (n + v) :: ns
  | n :: ns, i + 1, v => n :: addAt ns i v
abbrev Ent := Int × Int × List Int
abbrev Dic := List ((Int × Int) × List Ent)
def lookE (F : Dic) (k : Int × Int) : List Ent := match F with
  | [] => []
  | (q, l) :: r => if q = k then l else lookE r k
def putE (F : Dic) (k : Int × Int) (l : List Ent) : Dic := if F.any (fun kv => decide (kv.1 = k)) then F.map (fun kv => if kv.1 = k then (kv.1, l) else kv) else F ++ [(k, l)]
def leE (f e : Ent) : Bool := decide (f.1 ≤ e.1) && decide (f.2.1 ≤ e.2.1)
def gtrB (l : List Ent) (e : Ent) : Bool := l.any fun f => leE f e
def kOf (w : Int) (e : Ent) : Int × Int := (e.1.fmod w, e.2.1.fmod w)
def lessE (l : List Ent) (e : Ent) : List Ent := l.filter fun f => decide (f.1 < e.1) || decide (f.2.1 < e.2.1)
def insF (w : Int) (F : Dic) (e : Ent) : Dic := putE F (kOf w e) (lessE (lookE F (kOf w e)) e ++ [e])
structure DicOk (w B : Int) (n : Nat) (F : Dic) : Prop where
  nd : (F.map (·.1)).Nodup
  rg : ∀ k ∈ F.map (·.1), (0 ≤ k.1 ∧ k.1 < w) ∧ (0 ≤ k.2 ∧ k.2 < w)
  en : ∀ k, ∀ f ∈ lookE F k, (0 ≤ f.1 ∧ f.1 ≤ B) ∧ (0 ≤ f.2.1 ∧ f.2.1 ≤ B) ∧ f.2.2.length = n
  an : ∀ k, (lookE F k).Pairwise fun f g => f.1 ≠ g.1
abbrev LEnt := Int × List Int
abbrev LDic := List (Int × LEnt)
def lookL (F : LDic) (k : Int) : Option LEnt := match F with
  | [] => none
  | (q, l) :: r => if q = k then some l else lookL r k
def putL' (F : LDic) (k : Int) (l : LEnt) : LDic := if F.any (fun kv => decide (kv.1 = k)) then F.map (fun kv => if kv.1 = k then (kv.1, l) else kv) else F ++ [(k, l)]
def pushR (short : Int) (e : LEnt) : List Int → Nat → List LEnt → List LEnt
  | [], _, ws => ws
  | z :: r, i, ws => pushR short e r (i + 1) (if z ≠ short then (e.1 + z, addAt e.2 i 1) :: ws else ws)
structure LinI (short : Int) (F : LDic) (ws : List LEnt) : Prop where
  nd : (F.map (·.1)).Nodup
  rg : ∀ k ∈ F.map (·.1), 0 ≤ k ∧ k < short
  ps : ∀ e ∈ ws, 0 ≤ e.1
abbrev Wy := Option (Int × Int × Int)
def wC : Wy → Wy → Wy
  | none, b => b
  | some a, none => some a
  | some a, some b => some (a.1 + b.1, min a.2.1 b.2.1, max a.2.2 b.2.2)
def wU (w : Wy) : Wy := w.map fun a => (a.1, a.2.1 + 1, a.2.2 + 1)
def wS {α : Type} (l : List α) (f : α → Wy) : Wy := l.foldr (fun a r => wC (f a) r) none
def wyN (ms : List (Int × Int)) : Nat → Int → Int → Wy
  | 0, _, _ => none
  | n + 1, x, y => if x = 0 ∧ y = 0 then some (1, 0, 0) else wS ms fun d => wU (wyN ms n (x - d.1) (y - d.2))
def wy (ms : List (Int × Int)) (x y : Int) : Wy := wyN ms (7 * x + y + 1).toNat x y
def tripD (w : Int × Int × Int) : D := .tup [.int w.1, .int w.2.1, .int w.2.2]
def tiles : List (Int × Int) := (List.range 7).flatMap fun (i : Nat) => (List.range 7).map fun (j : Nat) => ((i : Int), (j : Int))
def mobT (A : Int × Int → Addr) (L : List (Int × Int)) : List (List Key × D) := L.map fun p => (keyP p, .mob (A p))
def tileOf (a b : Int) (s : Int × Int) : Int × Int := (s.1.fdiv a, s.2.fdiv b)
def WaitT (a b : Int) (T : Int × Int → Int × Int → Prop) (p q : Int × Int) : Prop := q ≠ p ∧ ∃ s r, T s r ∧ tileOf a b s = q ∧ tileOf a b r = p
def WtC (n N : Ct) (A : Int × Int → Addr) (I : Int × Int → List (Int × Int)) (L : List (Int × Int)) : Prop :=
  N.num = n.num ∧ (∀ x, n.h x ≠ none → N.h x = n.h x) ∧ (∀ p ∈ L, ∀ q ∈ L, A p = A q → p = q) ∧ (∀ p ∈ L, n.h (A p) = none) ∧ ∀ p ∈ L, N.h (A p) = some (.dT (dictD (I p)))
def AllT (ms : List (Int × Int)) (a b : Int) (s r : Int × Int) : Prop := inB (7 * a) (7 * b) s.1 s.2 ∧ RedP ms (7 * a) (7 * b) s r
def LkC (n : Ct) (A : Int × Int → Addr) (I : Int × Int → List (Int × Int)) : Prop := (∀ p ∈ tiles, ∀ q ∈ tiles, A p = A q → p = q) ∧ ∀ p ∈ tiles, ∃ o, n.h (A p) = some (.lkd o (.dT (dictD (I p))))
def Stuck (I : Int × Int → List (Int × Int)) : Prop := ∃ S : Int × Int → Prop, (∃ p ∈ tiles, S p) ∧ (∀ p, S p → p ∈ tiles) ∧ ∀ p, S p → ∃ q ∈ I p, S q
theorem okD_i {x : Int} : okD (.int x) = true := rfl
theorem okE_p {x y : Int} : okE (.tup [.int x, .int y]) = true := rfl
theorem intD_i {x : Int} : intD (.int x) = true := rfl
theorem rngD_i {x lo hi : Int} : rngD (.int x) lo hi = (decide (lo ≤ x) && decide (x ≤ hi)) := rfl
theorem pairD_p {x y : Int} : pairD (.tup [.int x, .int y]) = true := rfl
theorem vecD_p {x y : Int} : vecD (.tup [.int x, .int y]) = !(decide (x = 0) && decide (y = 0)) := rfl
theorem stepD_p {x y : Int} : stepD (.tup [.int x, .int y]) = decide (stepOk (x, y)) := rfl
def most : Nat := 63
def S_is_integer : DSp := fun n ds Q => match ds with
  | [d, .non, .non] => okD d = true ∧ Q (.dat (.bl (intD d))) n
  | [d, .int lo, .int hi] => okD d = true ∧ Q (.dat (.bl (rngD d lo hi))) n
  | [d, .int lo, .non] => okD d = true ∧ Q (.dat (.bl (intD d && (match d with | .int v => decide (lo ≤ v) | _ => false)))) n
  | _ => False
def S_is_pair : DSp := fun n ds Q => match ds with
  | [d] => okE d = true ∧ Q (.dat (.bl (pairD d))) n
  | _ => False
def A__law_draw : Nat → List D → (SV → Nat → Prop) → Prop := fun n ds Q => match ds with
  | [.src, .int m] => 1 ≤ m ∧ m.natAbs < 10 ^ 300 ∧ n < 10 ^ 18 ∧ ∀ (i : Int) (j : Nat), 0 ≤ i → i < m → n ≤ j → j ≤ n + 1 → Q (.dat (.int i)) j
  | _ => False
def S__law_draw : DSp := fun N ds Q => A__law_draw N.num ds fun r j => Q r (N.to j)
def S__law_source : DSp := fun n ds Q => match ds with
  | [.int _, .int k] => 0 ≤ k ∧ k < 1000 ∧ Q (.dat .src) n
  | _ => False
def S_need_size : DSp := fun n ds Q => match ds with
  | [.int a] => (1 ≤ a ∧ a ≤ 999999999999999999999999999999) ∧ Q (.dat .non) n
  | _ => False
def S_need_box : DSp := fun n ds Q => match ds with
  | [.int a, .int b] => (1 ≤ a ∧ a ≤ 999999999999999999999999999999) ∧ (1 ≤ b ∧ b ≤ 999999999999999999999999999999) ∧ Q (.dat .non) n
  | _ => False
def A__law_move : Nat → List D → (SV → Nat → Prop) → Prop := fun n ds Q => match ds with
  | [.src, .int f] => 1 ≤ f ∧ f ≤ 6 ∧ n + 2 ≤ 10 ^ 18 ∧ ∀ (p : Int × Int) (j : Nat), stepTo f p → n ≤ j → j ≤ n + 2 → Q (.dat (.tup [.int p.1, .int p.2])) j
  | _ => False
def S__law_move : DSp := fun N ds Q => A__law_move N.num ds fun r j => Q r (N.to j)
def A__law_moves : Nat → List D → (SV → Nat → Prop) → Prop := fun n ds Q => match ds with
  | [.src, .int f, .int m] => (1 ≤ f ∧ f ≤ 6) ∧ (1 ≤ m ∧ m ≤ 4) ∧ n + 9 ≤ 10 ^ 18 ∧ ∀ (ms : List (Int × Int)) (j : Nat), 1 ≤ ms.length → ms.length ≤ 4 → (∀ p ∈ ms, stepTo f p) → ms.Nodup → n ≤ j → j ≤ n + 9 → Q (.new (.lst (ms.map prD))) j
  | _ => False
def S__law_moves : DSp := fun N ds Q => A__law_moves N.num ds fun r j => Q r (N.to j)
def S_steps_fault : DSp := fun n ds Q => match ds with
  | [d] => okL d = true ∧ Q (.dat (faultD d)) n
  | _ => False
def S_need_steps : DSp := fun n ds Q => match ds with
  | [d] => okL d = true ∧ faultD d = .tup [] ∧ Q (.dat .non) n
  | _ => False
def S_is_step : DSp := fun n ds Q => match ds with
  | [d] => okE d = true ∧ Q (.dat (.bl (stepD d))) n
  | _ => False
def S_time_of : DSp := fun n ds Q => match ds with
  | [.tup [.int a, .int b], .tup [.int x, .int y]] => (a.natAbs < 10 ^ 300 ∧ b.natAbs < 10 ^ 300 ∧ x.natAbs < 10 ^ 300 ∧ y.natAbs < 10 ^ 300) ∧ Q (.dat (.int (tim (a, b) (x, y)))) n
  | _ => False
def S_det : DSp := fun n ds Q => match ds with
  | [.tup [.int a, .int b], .tup [.int x, .int y]] => (a.natAbs < 10 ^ 300 ∧ b.natAbs < 10 ^ 300 ∧ x.natAbs < 10 ^ 300 ∧ y.natAbs < 10 ^ 300) ∧ Q (.dat (.int (dt (a, b) (x, y)))) n
  | _ => False
def S_comes_on : DSp := fun n ds Q => match ds with
  | [.tup [.int a, .int b], .tup [.int x, .int y]] => (a.natAbs < 10 ^ 300 ∧ b.natAbs < 10 ^ 300 ∧ x.natAbs < 10 ^ 300 ∧ y.natAbs < 10 ^ 300) ∧ Q (.dat (.bl (comesB (a, b) (x, y)))) n
  | _ => False
def S_outermost : DSp := fun n ds Q => match ds with
  | [.lst ds] => (∃ ps, ds = ps.map prD ∧ PlacesOk ps ∧ Q (.dat (outD (outE ps))) n)
  | _ => False
def S_middle_line : DSp := fun n ds Q => match ds with
  | [.tup [.int a, .int b], .tup [.int x, .int y]] => (a.natAbs < 10 ^ 300 ∧ b.natAbs < 10 ^ 300 ∧ x.natAbs < 10 ^ 300 ∧ y.natAbs < 10 ^ 300) ∧ Q (.dat (.tup [.int (midL (a, b) (x, y)).1, .int (midL (a, b) (x, y)).2])) n
  | _ => False
def S_line_over : DSp := fun n ds Q => match ds with
  | [.lst ds] => (∃ ps, ds = ps.map prD ∧ PlacesOk ps ∧ Q (.dat (optD (lineO ps))) n)
  | _ => False
def S_led_to : DSp := fun n ds Q => match ds with
  | [.int x, .int m] => sizeOk m ∧ Q (.new (.lst ((ledL x m).map D.int))) n
  | _ => False
def S_need_tiles : DSp := fun n ds Q => match ds with
  | [.lst ds, .int a, .int b] => (∃ ms, ds = ms.map prD ∧ StepsOk ms ∧ sizeOk a ∧ sizeOk b ∧ Q (.dat .non) n)
  | _ => False
def S_tile_steps_of : DSp := fun n ds Q => match ds with
  | [.lst ds, .int a, .int b] => (∃ ms, ds = ms.map prD ∧ StepsOk ms ∧ sizeOk a ∧ sizeOk b ∧ ∀ qs, SortSet (TileP ms a b) qs → Q (.new (.lst (qs.map prD))) n)
  | _ => False
def S__law_ahead : DSp := fun n ds Q => match ds with
  | [.lst ds, .tup [.int x, .int y], .int r, .int c] => (∃ ms, ds = ms.map prD ∧ StepsOk ms ∧ ∀ qs, SortSet (RedP ms r c (x, y)) qs → Q (.new (.lst (qs.map prD))) n)
  | _ => False
def S_tile_order : DSp := fun n ds Q => match ds with
  | [.lst ds, .int a, .int b] => (∃ ms, ds = ms.map prD ∧ StepsOk ms ∧ sizeOk a ∧ sizeOk b ∧ ∀ qs, SortSet (TileP ms a b) qs → Q (.dat (optD (lineO qs))) n)
  | _ => False
def S__law_at : DSp := fun n ds Q => match ds with
  | [.tup [.int a, .int b], .tup [.int x, .int y]] => (a.natAbs < 10 ^ 300 ∧ b.natAbs < 10 ^ 300 ∧ x.natAbs < 10 ^ 300 ∧ y.natAbs < 10 ^ 300) ∧ Q (.dat (.int (tim (a, b) (x, y)))) n
  | _ => False
def S__law_waits : DSp := fun n ds Q => match ds with
  | [.lst ds, .int a, .int b] => (∃ ms, ds = ms.map prD ∧ StepsOk ms ∧ (1 ≤ a ∧ a ≤ 3) ∧ (1 ≤ b ∧ b ≤ 3) ∧ ∀ (A : Int × Int → Addr) (I : Int × Int → List (Int × Int)) (N : Ct), N.num = n.num → WtC n N A I tiles → (∀ p ∈ tiles, (I p).length ≤ 49 ∧ ∀ q, q ∈ I p ↔ WaitT a b (AllT ms a b) p q) → Q (.new (.dT (mobT A tiles))) N)
  | _ => False
def S__law_can_end : DSp := fun n ds Q => match ds with
  | [.dT es] => (∃ A I, es = mobT A tiles ∧ LkC n A I ∧ (∀ p ∈ tiles, (I p).length ≤ 49) ∧ ∀ (b : Bool) (N : Ct), N.num = n.num → (∀ x, n.h x ≠ none → N.h x = n.h x) → (b = true ↔ ¬ Stuck I) → Q (.dat (.bl b)) N)
  | _ => False
def S__law_right : DSp := fun n ds Q => match ds with
  | [.lst ds, .int a, .int b] => (∃ ms, ds = ms.map prD ∧ StepsOk ms ∧ (∀ p ∈ ms, stepTo 3 p) ∧ (1 ≤ a ∧ a ≤ 3) ∧ (1 ≤ b ∧ b ≤ 3) ∧ ∀ N : Ct, N.num = n.num → Q (.dat (.bl true)) N)
  | _ => False
def S_law : DSp := lawS most
def t__law_source : DS := dSeq (dAsg (dUn dAbs (dVar 0)) (dgName 2))
    (dRet (dSrcE (dLst (dCons (dBn dMax2 (dCons (dC (.int 0)) (dCons (dBin dSub (dVar 2) (dBin dPow (dC (.int 10)) (dC (.int 18)))) (dNil)))) (dCons (dBin dAdd (dBin dAdd (dBin dMul (dBin dMod (dUn dInt (dVar 2)) (dBin dAdd (dBin dPow (dC (.int 10)) (dC (.int 41))) (dC (.int 81)))) (dC (.int 97))) (dBin dMul (dC (.int 2)) (dVar 1))) (dUn dInt (dBin dLt (dVar 0) (dC (.int 0))))) (dCons (dC (.int 0)) (dNil)))))))
def t_is_integer : DS := dSeq (dIfS (dOrT (dNotT (dTst (dBn dIsi (dCons (dVar 0) (dCons (dC (.ty "int")) (dNil)))))) (dTst (dBn dIsi (dCons (dVar 0) (dCons (dC (.ty "bool")) (dNil)))))) (dRet (dC (.bl false))) (dNext))
    (dRet (dAndV (dOrV (dBin dIs (dVar 1) (dC (.non))) (dBin dGe (dVar 0) (dVar 1))) (dOrV (dBin dIs (dVar 2) (dC (.non))) (dBin dLe (dVar 0) (dVar 2)))))
def t_is_pair : DS := dRet (dAndV (dBn dIsi (dCons (dVar 0) (dCons (dC (.ty "tuple")) (dNil)))) (dAndV (dBin dEq (dUn dLen (dVar 0)) (dC (.int 2))) (dUn dAll (dLc [1] (dWalk (dVar 0)) (dgName 1) (dYes) (dCall 1 0 S_is_integer (fun ds es => sel [0, 1, 2] (ds ++ es ++ dd_is_integer)) (dCons (dVar 1) (dNil)) dNil)))))
def t_is_step : DS := dSeq (dIfS (dOrT (dNotT (dTst (dCall 1 0 S_is_pair (fun ds _ => ds) (dCons (dVar 0) (dNil)) dNil))) (dNotT (dTst (dChn dLe dLe (dC (.int 0)) (dBin dIx (dVar 0) (dC (.int 0))) (dC (.int 6)))))) (dRet (dC (.bl false))) (dNext))
    (dRet (dChn dLe dLe (dIf (dTst (dBin dEq (dBin dIx (dVar 0) (dC (.int 0))) (dC (.int 0)))) (dC (.int 1)) (dUn dNeg (dC (.int 6)))) (dBin dIx (dVar 0) (dC (.int 1))) (dC (.int 6))))
def t_steps_fault : DS := dSeq (dIfS (dOrT (dNotT (dTst (dBn dIsi (dCons (dVar 0) (dCons (dC (.ty "list")) (dNil)))))) (dNotT (dTst (dChn dLe dLe (dC (.int 1)) (dUn dLen (dVar 0)) (dC (.int 4)))))) (dRet (dTup (dCons (dC (.non)) (dNil)))) (dNext))
    (dSeq (dFor (dEnum (dCons (dVar 0) (dNil))) (dgTup 2 (dgCons (dgName 1) (dgCons (dgName 2) (dgNil)))) (dIfS (dOrT (dNotT (dTst (dCall 1 0 S_is_step (fun ds _ => ds) (dCons (dVar 2) (dNil)) dNil))) (dTst (dBin dIn (dVar 2) (dSl (dVar 0) (dNoP) (dPart (dVar 1)))))) (dRet (dTup (dCons (dVar 1) (dNil)))) (dNext)))
    (dRet (dTup (dNil))))
def t_need_steps : DS := dSeq (dAsg (dCall 1 0 S_steps_fault (fun ds _ => ds) (dCons (dVar 0) (dNil)) dNil) (dgName 1))
    (dIfS (dTst (dBin dNe (dVar 1) (dTup (dNil)))) (dNever) (dNext))
def t_need_size : DS := dIfS (dNotT (dTst (dCall 3 0 S_is_integer (fun ds es => sel [0, 1, 2] (ds ++ es ++ dd_is_integer)) (dCons (dVar 0) (dCons (dC (.int 1)) (dCons (dC (.int 999999999999999999999999999999)) (dNil)))) dNil))) (dNever) (dNext)
def t_need_box : DS := dSeq (dDrop (dCall 1 0 S_need_size (fun ds _ => ds) (dCons (dVar 0) (dNil)) dNil))
    (dDrop (dCall 1 0 S_need_size (fun ds _ => ds) (dCons (dVar 1) (dNil)) dNil))
def t_need_tiles : DS := dSeq (dDrop (dCall 1 0 S_need_steps (fun ds _ => ds) (dCons (dVar 0) (dNil)) dNil))
    (dDrop (dCall 2 0 S_need_box (fun ds _ => ds) (dCons (dVar 1) (dCons (dVar 2) (dNil))) dNil))
def t_det : DS := dRet (dBin dSub (dBin dMul (dBin dIx (dVar 0) (dC (.int 0))) (dBin dIx (dVar 1) (dC (.int 1)))) (dBin dMul (dBin dIx (dVar 0) (dC (.int 1))) (dBin dIx (dVar 1) (dC (.int 0)))))
def t_time_of : DS := dRet (dBin dAdd (dBin dMul (dBin dIx (dVar 0) (dC (.int 0))) (dBin dIx (dVar 1) (dC (.int 0)))) (dBin dMul (dBin dIx (dVar 0) (dC (.int 1))) (dBin dIx (dVar 1) (dC (.int 1)))))
def t_comes_on : DS := dSeq (dAsg (dCall 2 0 S_det (fun ds _ => ds) (dCons (dVar 0) (dCons (dVar 1) (dNil))) dNil) (dgName 2))
    (dRet (dOrV (dBin dGt (dVar 2) (dC (.int 0))) (dAndV (dBin dEq (dVar 2) (dC (.int 0))) (dBin dGt (dCall 2 0 S_time_of (fun ds _ => ds) (dCons (dVar 0) (dCons (dVar 1) (dNil))) dNil) (dC (.int 0))))))
def t_outermost : DS := dSeq (dAsg (dLc [3] (dWalk (dVar 0)) (dgName 3) (dTst (dUn dAll (dLc [4] (dWalk (dVar 0)) (dgName 4) (dYes) (dCall 2 0 S_comes_on (fun ds _ => ds) (dCons (dVar 3) (dCons (dVar 4) (dNil))) dNil)))) (dVar 3)) (dgName 1))
    (dSeq (dAsg (dLc [3] (dWalk (dVar 0)) (dgName 3) (dTst (dUn dAll (dLc [4] (dWalk (dVar 0)) (dgName 4) (dYes) (dCall 2 0 S_comes_on (fun ds _ => ds) (dCons (dVar 4) (dCons (dVar 3) (dNil))) dNil)))) (dVar 3)) (dgName 2))
    (dRet (dIf (dTst (dBin dNe (dVar 1) (dLst (dNil)))) (dTup (dCons (dBin dIx (dVar 1) (dC (.int 0))) (dCons (dBin dIx (dVar 2) (dC (.int 0))) (dNil)))) (dC (.non)))))
def t_middle_line : DS := dSeq (dIfS (dTst (dBin dEq (dCall 2 0 S_det (fun ds _ => ds) (dCons (dVar 0) (dCons (dVar 1) (dNil))) dNil) (dC (.int 0)))) (dRet (dVar 0)) (dNext))
    (dRet (dTup (dCons (dBin dSub (dBin dIx (dVar 1) (dC (.int 1))) (dBin dIx (dVar 0) (dC (.int 1)))) (dCons (dBin dSub (dBin dIx (dVar 0) (dC (.int 0))) (dBin dIx (dVar 1) (dC (.int 0)))) (dNil)))))
def t_line_over : DS := dSeq (dAsg (dCall 1 0 S_outermost (fun ds _ => ds) (dCons (dVar 0) (dNil)) dNil) (dgName 1))
    (dRet (dIf (dTst (dBin dIsn (dVar 1) (dC (.non)))) (dCall 2 0 S_middle_line (fun ds _ => ds) (dCons (dBin dIx (dVar 1) (dC (.int 0))) (dCons (dBin dIx (dVar 1) (dC (.int 1))) (dNil))) dNil) (dC (.non))))
def t_led_to : DS := dRet (dIf (dTst (dBin dEq (dBin dMod (dVar 0) (dVar 1)) (dC (.int 0)))) (dLst (dCons (dBin dFdv (dVar 0) (dVar 1)) (dNil))) (dLst (dCons (dBin dFdv (dVar 0) (dVar 1)) (dCons (dBin dAdd (dBin dFdv (dVar 0) (dVar 1)) (dC (.int 1))) (dNil)))))
def t_tile_steps_of : DS := dSeq (dAsg (dDnT) (dgName 3))
    (dSeq (dFor (dWalk (dVar 0)) (dgTup 2 (dgCons (dgName 4) (dgCons (dgName 5) (dgNil)))) (dFor (dWalk (dCall 2 0 S_led_to (fun ds _ => ds) (dCons (dVar 4) (dCons (dVar 1) (dNil))) dNil)) (dgName 6) (dFor (dWalk (dCall 2 0 S_led_to (fun ds _ => ds) (dCons (dVar 5) (dCons (dVar 2) (dNil))) dNil)) (dgName 7) (dPut 3 (dC (.bl true)) (dTup (dCons (dVar 6) (dCons (dVar 7) (dNil))))))))
    (dRet (dUn dSorted (dLc [8] (dKeys 3) (dgName 8) (dTst (dBin dNe (dVar 8) (dTup (dCons (dC (.int 0)) (dCons (dC (.int 0)) (dNil)))))) (dVar 8)))))
def t_tile_order : DS := dSeq (dDrop (dCall 3 0 S_need_tiles (fun ds _ => ds) (dCons (dVar 0) (dCons (dVar 1) (dCons (dVar 2) (dNil)))) dNil))
    (dRet (dCall 1 0 S_line_over (fun ds _ => ds) (dCons (dCall 3 0 S_tile_steps_of (fun ds _ => ds) (dCons (dVar 0) (dCons (dVar 1) (dCons (dVar 2) (dNil)))) dNil) (dNil)) dNil))
def t__law_ahead : DS := dSeq (dAsg (dLc [5, 6] (dWalk (dVar 0)) (dgTup 2 (dgCons (dgName 5) (dgCons (dgName 6) (dgNil)))) (dYes) (dTup (dCons (dBin dAdd (dBin dIx (dVar 1) (dC (.int 0))) (dVar 5)) (dCons (dBin dAdd (dBin dIx (dVar 1) (dC (.int 1))) (dVar 6)) (dNil))))) (dgName 4))
    (dRet (dUn dSorted (dLc [7] (dWalk (dVar 4)) (dgName 7) (dAndT (dTst (dChn dLe dLt (dC (.int 0)) (dBin dIx (dVar 7) (dC (.int 0))) (dVar 2))) (dTst (dChn dLe dLt (dC (.int 0)) (dBin dIx (dVar 7) (dC (.int 1))) (dVar 3)))) (dVar 7))))
def t__law_waits : DS := dSeq (dAsg (dDnT) (dgName 3))
    (dSeq (dFor (dRng1 (dCons (dC (.int 7)) (dNil))) (dgName 4) (dFor (dRng1 (dCons (dC (.int 7)) (dNil))) (dgName 5) (dPut 3 (dMut (dDnT)) (dTup (dCons (dVar 4) (dCons (dVar 5) (dNil)))))))
    (dSeq (dFor (dRng1 (dCons (dBin dMul (dC (.int 7)) (dVar 1)) (dNil))) (dgName 4) (dFor (dRng1 (dCons (dBin dMul (dC (.int 7)) (dVar 2)) (dNil))) (dgName 5) (dFor (dWalk (dCall 4 0 S__law_ahead (fun ds _ => ds) (dCons (dVar 0) (dCons (dTup (dCons (dVar 4) (dCons (dVar 5) (dNil)))) (dCons (dBin dMul (dC (.int 7)) (dVar 1)) (dCons (dBin dMul (dC (.int 7)) (dVar 2)) (dNil))))) dNil)) (dgTup 2 (dgCons (dgName 6) (dgCons (dgName 7) (dgNil)))) (dSeq (dPar2 8 9 (dTup (dCons (dBin dFdv (dVar 4) (dVar 1)) (dCons (dBin dFdv (dVar 5) (dVar 2)) (dNil)))) (dTup (dCons (dBin dFdv (dVar 6) (dVar 1)) (dCons (dBin dFdv (dVar 7) (dVar 2)) (dNil)))))
    (dIfS (dTst (dBin dNe (dVar 8) (dVar 9))) (dPutM (dBin dIx (dVar 3) (dVar 9)) (dC (.bl true)) (dVar 8)) (dNext))))))
    (dRet (dVar 3))))
def t__law_can_end : DS := dSeq (dAsg (dMut (dUn dDictC (dVar 0))) (dgName 1))
    (dSeq (dAsg (dLcN [3] (1) (dgName 3) (dTst (dBin dEqE (dLcL [4] (dWalkLk (dBinK dIx (dVar 1) (dVar 3))) (dgName 4) (dTst (dBinK dIn (dVar 4) (dVar 1))) (dC (.int 1))) (dLst (dNil)))) (dVar 3)) (dgName 2))
    (dSeq (dWhile (dTst (dBin dNeE (dVar 2) (dLst (dNil)))) (dSeq (dFor (dWalk (dVar 2)) (dgName 3) (dDrop (dPopM 1 (dVar 3))))
    (dAsg (dLcN [3] (1) (dgName 3) (dTst (dBin dEqE (dLcL [4] (dWalkLk (dBinK dIx (dVar 1) (dVar 3))) (dgName 4) (dTst (dBinK dIn (dVar 4) (dVar 1))) (dC (.int 1))) (dLst (dNil)))) (dVar 3)) (dgName 2))))
    (dRet (dBinK dEqT (dVar 1) (dDnK)))))
def t__law_at : DS := dRet (dBin dAdd (dBin dMul (dBin dIx (dVar 0) (dC (.int 0))) (dBin dIx (dVar 1) (dC (.int 0)))) (dBin dMul (dBin dIx (dVar 0) (dC (.int 1))) (dBin dIx (dVar 1) (dC (.int 1)))))
def t__law_right : DS := dSeq (dPar2 4 5 (dCall 3 0 S_tile_order (fun ds _ => ds) (dCons (dVar 0) (dCons (dVar 1) (dCons (dVar 2) (dNil)))) dNil) (dHold (dCall 3 0 S__law_waits (fun ds _ => ds) (dCons (dVar 0) (dCons (dVar 1) (dCons (dVar 2) (dNil)))) dNil)))
    (dSeq (dIfS (dTst (dBin dNe (dBin dIsn (dVar 4) (dC (.non))) (dCall 1 0 S__law_can_end (fun ds _ => ds) (dCons (dVar 5) (dNil)) dNil))) (dRet (dC (.bl false))) (dNext))
    (dSeq (dIfS (dTst (dBin dIs (dVar 4) (dC (.non)))) (dRet (dC (.bl true))) (dNext))
    (dSeq (dFor (dKeys 5) (dgName 3) (dIfS (dTst (dBin dNeE (dLcL [6] (dWalkLk (dBin dIx (dVar 5) (dVar 3))) (dgName 6) (dTst (dBin dGe (dCall 2 0 S__law_at (fun ds _ => ds) (dCons (dVar 4) (dCons (dVar 6) (dNil))) dNil) (dCall 2 0 S__law_at (fun ds _ => ds) (dCons (dVar 4) (dCons (dVar 3) (dNil))) dNil))) (dC (.int 1))) (dLst (dNil)))) (dRet (dC (.bl false))) (dNext)))
    (dRet (dC (.bl true))))))
def t__law_draw : DS := dSeq (dIfS (dTst (dBin dGt (dSrcIx 0 0) (dC (.int 0)))) (dSeq (dAsg (dBin dMod (dUn dInt (dSrcIx 0 0)) (dVar 1)) (dgName 3))
    (dSeq (dSrcSet 0 0 (dBin dFdv (dSrcIx 0 0) (dVar 1)))
    (dRet (dVar 3)))) (dNext))
    (dSeq (dSrcSet 0 2 (dBin dAdd (dSrcIx 0 2) (dC (.int 1))))
    (dSeq (dAsg (dBin dMod (dUn dInt (dBin dPow (dBin dAdd (dSrcIx 0 1) (dBin dMul (dC (.int 900007)) (dSrcIx 0 2))) (dC (.int 3)))) (dBin dAdd (dBin dPow (dC (.int 10)) (dC (.int 37))) (dC (.int 43)))) (dgName 2))
    (dSeq (dAsg (dBin dMod (dUn dInt (dBin dPow (dBin dAdd (dBin dMul (dVar 2) (dSrcIx 0 2)) (dC (.int 80021))) (dC (.int 3)))) (dBin dAdd (dBin dPow (dC (.int 10)) (dC (.int 39))) (dC (.int 3)))) (dgName 2))
    (dRet (dBin dMod (dUn dInt (dBin dFdv (dVar 2) (dC (.int 65539)))) (dVar 1))))))
def t__law_move : DS := dSeq (dAsg (dCall 2 0 S__law_draw (fun ds _ => ds) (dCons (dVar 0) (dCons (dBin dAdd (dVar 1) (dC (.int 1))) (dNil))) dNil) (dgName 2))
    (dSeq (dIfS (dTst (dBin dEq (dVar 2) (dC (.int 0)))) (dRet (dTup (dCons (dC (.int 0)) (dCons (dBin dAdd (dC (.int 1)) (dCall 2 0 S__law_draw (fun ds _ => ds) (dCons (dVar 0) (dCons (dVar 1) (dNil))) dNil)) (dNil))))) (dNext))
    (dRet (dTup (dCons (dVar 2) (dCons (dBin dSub (dCall 2 0 S__law_draw (fun ds _ => ds) (dCons (dVar 0) (dCons (dBin dAdd (dBin dMul (dC (.int 2)) (dVar 1)) (dC (.int 1))) (dNil))) dNil) (dVar 1)) (dNil))))))
def t__law_moves : DS := dSeq (dAsg (dLst (dNil)) (dgName 3))
    (dSeq (dFor (dRng1 (dCons (dBin dAdd (dC (.int 1)) (dCall 2 0 S__law_draw (fun ds _ => ds) (dCons (dVar 0) (dCons (dVar 2) (dNil))) dNil)) (dNil))) (dgName 4) (dSeq (dAsg (dCall 2 0 S__law_move (fun ds _ => ds) (dCons (dVar 0) (dCons (dVar 1) (dNil))) dNil) (dgName 5))
    (dIfS (dTst (dBin dNotIn (dVar 5) (dVar 3))) (dDrop (dOwnL 3 mApp (dCons (dVar 5) (dNil)))) (dNext))))
    (dRet (dVar 3)))
def t_law : DS := dSeq (dFor (dEnum (dCons (dSl (dBin dAdd (dVar 0) (dLst (dCons (dC (.int 0)) (dNil)))) (dNoP) (dPart (dBn dMax2 (dCons (dC (.int 1)) (dCons (dBn dMin2 (dCons (dUn dLen (dVar 0)) (dCons (dC (.int 8)) (dNil)))) (dNil)))))) (dNil))) (dgTup 2 (dgCons (dgName 1) (dgCons (dgName 2) (dgNil)))) (dSeq (dAsg (dCall 2 0 S__law_source (fun ds _ => ds) (dCons (dVar 2) (dCons (dVar 1) (dNil))) dNil) (dgName 3))
    (dFor (dRng1 (dCons (dBin dIx (dLst (dCons (dC (.int 1)) (dCons (dC (.int 3)) (dNil)))) (dUn dInt (dBin dNe (dVar 0) (dLst (dNil))))) (dNil))) (dgName 4) (dIfS (dNotT (dTst (dCall 3 0 S__law_right (fun ds _ => ds) (dCons (dCall 3 0 S__law_moves (fun ds _ => ds) (dCons (dVar 3) (dCons (dC (.int 3)) (dCons (dC (.int 3)) (dNil)))) dNil) (dCons (dBin dAdd (dC (.int 1)) (dCall 2 0 S__law_draw (fun ds _ => ds) (dCons (dVar 3) (dCons (dC (.int 3)) (dNil))) dNil)) (dCons (dBin dAdd (dC (.int 1)) (dCall 2 0 S__law_draw (fun ds _ => ds) (dCons (dVar 3) (dCons (dC (.int 3)) (dNil))) dNil)) (dNil)))) dNil))) (dRet (dC (.bl false))) (dNext)))))
    (dRet (dNotV (dCall 1 0 S__law_can_end (fun ds _ => ds) (dCons (dHold (dCall 3 0 S__law_waits (fun ds _ => ds) (dCons (dLst (dCons (dTup (dCons (dC (.int 1)) (dCons (dUn dNeg (dC (.int 1))) (dNil)))) (dCons (dTup (dCons (dC (.int 1)) (dCons (dC (.int 1)) (dNil)))) (dNil)))) (dCons (dC (.int 2)) (dCons (dC (.int 2)) (dNil)))) dNil)) (dNil)) dNil)))
theorem u_is_integer_0 {n : Ct} {Q : SV → Ct → Prop} {d : D} : S_is_integer n [d, .non, .non] Q = (okD d = true ∧ Q (.dat (.bl (intD d))) n) := rfl
theorem u_is_integer_1 {n : Ct} {Q : SV → Ct → Prop} {lo : Int} {hi : Int} {d : D} : S_is_integer n [d, .int lo, .int hi] Q = (okD d = true ∧ Q (.dat (.bl (rngD d lo hi))) n) := rfl
theorem u_is_integer_2 {n : Ct} {Q : SV → Ct → Prop} {lo : Int} {d : D} : S_is_integer n [d, .int lo, .non] Q = (okD d = true ∧ Q (.dat (.bl (intD d && (match d with | .int v => decide (lo ≤ v) | _ => false)))) n) := rfl
theorem u_is_pair_0 {n : Ct} {Q : SV → Ct → Prop} {d : D} : S_is_pair n [d] Q = (okE d = true ∧ Q (.dat (.bl (pairD d))) n) := rfl
theorem u__law_draw_0 {N : Ct} {Q0 : SV → Ct → Prop} {m : Int} : S__law_draw N [.src, .int m] Q0 = ((fun (n : Nat) (Q : SV → Nat → Prop) => 1 ≤ m ∧ m.natAbs < 10 ^ 300 ∧ n < 10 ^ 18 ∧ ∀ (i : Int) (j : Nat), 0 ≤ i → i < m → n ≤ j → j ≤ n + 1 → Q (.dat (.int i)) j) N.num fun r j => Q0 r (N.to j)) := rfl
theorem u__law_source_0 {n : Ct} {Q : SV → Ct → Prop} {w1_ : Int} {k : Int} : S__law_source n [.int w1_, .int k] Q = (0 ≤ k ∧ k < 1000 ∧ Q (.dat .src) n) := rfl
theorem u_need_size_0 {n : Ct} {Q : SV → Ct → Prop} {a : Int} : S_need_size n [.int a] Q = ((1 ≤ a ∧ a ≤ 999999999999999999999999999999) ∧ Q (.dat .non) n) := rfl
theorem u_need_box_0 {n : Ct} {Q : SV → Ct → Prop} {a : Int} {b : Int} : S_need_box n [.int a, .int b] Q = ((1 ≤ a ∧ a ≤ 999999999999999999999999999999) ∧ (1 ≤ b ∧ b ≤ 999999999999999999999999999999) ∧ Q (.dat .non) n) := rfl
theorem u__law_move_0 {N : Ct} {Q0 : SV → Ct → Prop} {f : Int} : S__law_move N [.src, .int f] Q0 = ((fun (n : Nat) (Q : SV → Nat → Prop) => 1 ≤ f ∧ f ≤ 6 ∧ n + 2 ≤ 10 ^ 18 ∧ ∀ (p : Int × Int) (j : Nat), stepTo f p → n ≤ j → j ≤ n + 2 → Q (.dat (.tup [.int p.1, .int p.2])) j) N.num fun r j => Q0 r (N.to j)) := rfl
theorem u__law_moves_0 {N : Ct} {Q0 : SV → Ct → Prop} {f : Int} {m : Int} : S__law_moves N [.src, .int f, .int m] Q0 = ((fun (n : Nat) (Q : SV → Nat → Prop) => (1 ≤ f ∧ f ≤ 6) ∧ (1 ≤ m ∧ m ≤ 4) ∧ n + 9 ≤ 10 ^ 18 ∧ ∀ (ms : List (Int × Int)) (j : Nat), 1 ≤ ms.length → ms.length ≤ 4 → (∀ p ∈ ms, stepTo f p) → ms.Nodup → n ≤ j → j ≤ n + 9 → Q (.new (.lst (ms.map prD))) j) N.num fun r j => Q0 r (N.to j)) := rfl
theorem u_steps_fault_0 {n : Ct} {Q : SV → Ct → Prop} {d : D} : S_steps_fault n [d] Q = (okL d = true ∧ Q (.dat (faultD d)) n) := rfl
theorem u_need_steps_0 {n : Ct} {Q : SV → Ct → Prop} {d : D} : S_need_steps n [d] Q = (okL d = true ∧ faultD d = .tup [] ∧ Q (.dat .non) n) := rfl
theorem u_is_step_0 {n : Ct} {Q : SV → Ct → Prop} {d : D} : S_is_step n [d] Q = (okE d = true ∧ Q (.dat (.bl (stepD d))) n) := rfl
theorem u_time_of_0 {n : Ct} {Q : SV → Ct → Prop} {a : Int} {b : Int} {x : Int} {y : Int} : S_time_of n [.tup [.int a, .int b], .tup [.int x, .int y]] Q = ((a.natAbs < 10 ^ 300 ∧ b.natAbs < 10 ^ 300 ∧ x.natAbs < 10 ^ 300 ∧ y.natAbs < 10 ^ 300) ∧ Q (.dat (.int (tim (a, b) (x, y)))) n) := rfl
theorem u_det_0 {n : Ct} {Q : SV → Ct → Prop} {a : Int} {b : Int} {x : Int} {y : Int} : S_det n [.tup [.int a, .int b], .tup [.int x, .int y]] Q = ((a.natAbs < 10 ^ 300 ∧ b.natAbs < 10 ^ 300 ∧ x.natAbs < 10 ^ 300 ∧ y.natAbs < 10 ^ 300) ∧ Q (.dat (.int (dt (a, b) (x, y)))) n) := rfl
theorem u_comes_on_0 {n : Ct} {Q : SV → Ct → Prop} {a : Int} {b : Int} {x : Int} {y : Int} : S_comes_on n [.tup [.int a, .int b], .tup [.int x, .int y]] Q = ((a.natAbs < 10 ^ 300 ∧ b.natAbs < 10 ^ 300 ∧ x.natAbs < 10 ^ 300 ∧ y.natAbs < 10 ^ 300) ∧ Q (.dat (.bl (comesB (a, b) (x, y)))) n) := rfl
theorem u_outermost_0 {n : Ct} {Q : SV → Ct → Prop} {ds : List D} : S_outermost n [.lst ds] Q = ((∃ ps, ds = ps.map prD ∧ PlacesOk ps ∧ Q (.dat (outD (outE ps))) n)) := rfl
theorem u_middle_line_0 {n : Ct} {Q : SV → Ct → Prop} {a : Int} {b : Int} {x : Int} {y : Int} : S_middle_line n [.tup [.int a, .int b], .tup [.int x, .int y]] Q = ((a.natAbs < 10 ^ 300 ∧ b.natAbs < 10 ^ 300 ∧ x.natAbs < 10 ^ 300 ∧ y.natAbs < 10 ^ 300) ∧ Q (.dat (.tup [.int (midL (a, b) (x, y)).1, .int (midL (a, b) (x, y)).2])) n) := rfl
theorem u_line_over_0 {n : Ct} {Q : SV → Ct → Prop} {ds : List D} : S_line_over n [.lst ds] Q = ((∃ ps, ds = ps.map prD ∧ PlacesOk ps ∧ Q (.dat (optD (lineO ps))) n)) := rfl
theorem u_led_to_0 {n : Ct} {Q : SV → Ct → Prop} {x : Int} {m : Int} : S_led_to n [.int x, .int m] Q = (sizeOk m ∧ Q (.new (.lst ((ledL x m).map D.int))) n) := rfl
theorem u_need_tiles_0 {n : Ct} {Q : SV → Ct → Prop} {ds : List D} {a : Int} {b : Int} : S_need_tiles n [.lst ds, .int a, .int b] Q = ((∃ ms, ds = ms.map prD ∧ StepsOk ms ∧ sizeOk a ∧ sizeOk b ∧ Q (.dat .non) n)) := rfl
theorem u_tile_steps_of_0 {n : Ct} {Q : SV → Ct → Prop} {ds : List D} {a : Int} {b : Int} : S_tile_steps_of n [.lst ds, .int a, .int b] Q = ((∃ ms, ds = ms.map prD ∧ StepsOk ms ∧ sizeOk a ∧ sizeOk b ∧ ∀ qs, SortSet (TileP ms a b) qs → Q (.new (.lst (qs.map prD))) n)) := rfl
theorem u__law_ahead_0 {n : Ct} {Q : SV → Ct → Prop} {ds : List D} {x : Int} {y : Int} {r : Int} {c : Int} : S__law_ahead n [.lst ds, .tup [.int x, .int y], .int r, .int c] Q = ((∃ ms, ds = ms.map prD ∧ StepsOk ms ∧ ∀ qs, SortSet (RedP ms r c (x, y)) qs → Q (.new (.lst (qs.map prD))) n)) := rfl
theorem u_tile_order_0 {n : Ct} {Q : SV → Ct → Prop} {ds : List D} {a : Int} {b : Int} : S_tile_order n [.lst ds, .int a, .int b] Q = ((∃ ms, ds = ms.map prD ∧ StepsOk ms ∧ sizeOk a ∧ sizeOk b ∧ ∀ qs, SortSet (TileP ms a b) qs → Q (.dat (optD (lineO qs))) n)) := rfl
theorem u__law_at_0 {n : Ct} {Q : SV → Ct → Prop} {a : Int} {b : Int} {x : Int} {y : Int} : S__law_at n [.tup [.int a, .int b], .tup [.int x, .int y]] Q = ((a.natAbs < 10 ^ 300 ∧ b.natAbs < 10 ^ 300 ∧ x.natAbs < 10 ^ 300 ∧ y.natAbs < 10 ^ 300) ∧ Q (.dat (.int (tim (a, b) (x, y)))) n) := rfl
theorem u__law_waits_0 {n : Ct} {Q : SV → Ct → Prop} {ds : List D} {a : Int} {b : Int} : S__law_waits n [.lst ds, .int a, .int b] Q = ((∃ ms, ds = ms.map prD ∧ StepsOk ms ∧ (1 ≤ a ∧ a ≤ 3) ∧ (1 ≤ b ∧ b ≤ 3) ∧ ∀ (A : Int × Int → Addr) (I : Int × Int → List (Int × Int)) (N : Ct), N.num = n.num → WtC n N A I tiles → (∀ p ∈ tiles, (I p).length ≤ 49 ∧ ∀ q, q ∈ I p ↔ WaitT a b (AllT ms a b) p q) → Q (.new (.dT (mobT A tiles))) N)) := rfl
theorem u__law_can_end_0 {n : Ct} {Q : SV → Ct → Prop} {es : List (List Key × D)} : S__law_can_end n [.dT es] Q = ((∃ A I, es = mobT A tiles ∧ LkC n A I ∧ (∀ p ∈ tiles, (I p).length ≤ 49) ∧ ∀ (b : Bool) (N : Ct), N.num = n.num → (∀ x, n.h x ≠ none → N.h x = n.h x) → (b = true ↔ ¬ Stuck I) → Q (.dat (.bl b)) N)) := rfl
theorem u__law_right_0 {n : Ct} {Q : SV → Ct → Prop} {ds : List D} {a : Int} {b : Int} : S__law_right n [.lst ds, .int a, .int b] Q = ((∃ ms, ds = ms.map prD ∧ StepsOk ms ∧ (∀ p ∈ ms, stepTo 3 p) ∧ (1 ≤ a ∧ a ≤ 3) ∧ (1 ≤ b ∧ b ≤ 3) ∧ ∀ N : Ct, N.num = n.num → Q (.dat (.bl true)) N)) := rfl
theorem XU : (type_of% @okD_i) ∧ (type_of% @okE_p) ∧ (type_of% @intD_i) ∧ (type_of% @rngD_i) ∧ (type_of% @pairD_p) ∧ (type_of% @vecD_p) ∧ (type_of% @stepD_p) ∧ (type_of% @u_is_integer_0) ∧ (type_of% @u_is_integer_1) ∧ (type_of% @u_is_integer_2) ∧ (type_of% @u_is_pair_0) ∧ (type_of% @u__law_draw_0) ∧ (type_of% @u__law_source_0) ∧ (type_of% @u_need_size_0) ∧ (type_of% @u_need_box_0) ∧ (type_of% @u__law_move_0) ∧ (type_of% @u__law_moves_0) ∧ (type_of% @u_steps_fault_0) ∧ (type_of% @u_need_steps_0) ∧ (type_of% @u_is_step_0) ∧ (type_of% @u_time_of_0) ∧ (type_of% @u_det_0) ∧ (type_of% @u_comes_on_0) ∧ (type_of% @u_outermost_0) ∧ (type_of% @u_middle_line_0) ∧ (type_of% @u_line_over_0) ∧ (type_of% @u_led_to_0) ∧ (type_of% @u_need_tiles_0) ∧ (type_of% @u_tile_steps_of_0) ∧ (type_of% @u__law_ahead_0) ∧ (type_of% @u_tile_order_0) ∧ (type_of% @u__law_at_0) ∧ (type_of% @u__law_waits_0) ∧ (type_of% @u__law_can_end_0) ∧ (type_of% @u__law_right_0) := ⟨@okD_i, @okE_p, @intD_i, @rngD_i, @pairD_p, @vecD_p, @stepD_p, @u_is_integer_0, @u_is_integer_1, @u_is_integer_2, @u_is_pair_0, @u__law_draw_0, @u__law_source_0, @u_need_size_0, @u_need_box_0, @u__law_move_0, @u__law_moves_0, @u_steps_fault_0, @u_need_steps_0, @u_is_step_0, @u_time_of_0, @u_det_0, @u_comes_on_0, @u_outermost_0, @u_middle_line_0, @u_line_over_0, @u_led_to_0, @u_need_tiles_0, @u_tile_steps_of_0, @u__law_ahead_0, @u_tile_order_0, @u__law_at_0, @u__law_waits_0, @u__law_can_end_0, @u__law_right_0⟩
theorem L_is_integer : ∀ n ds Q, S_is_integer n ds Q → ds.length = ps_is_integer.length := by
  intro n ds Q h
  unfold S_is_integer at h
  split at h <;> first | exact h.elim | rfl
set_option maxHeartbeats 0 in
theorem l_is_integer : ∀ n ds Q, S_is_integer n ds Q → t_is_integer (defE Q) (startG n N_is_integer ds) := by
  intro n ds Q h
  unfold S_is_integer at h
  split at h
  · rename_i d
    show t_is_integer (defE Q) ⟨[some (.dat (d)), some (.dat (.non)), some (.dat (.non))], n⟩
    obtain ⟨ok, h⟩ := h
    cases d <;> first | exact absurd ok Bool.false_ne_true | (simp -implicitDefEqProofs only [t_is_integer, ↓XB, XB, ↓XDm, XDm, ↓XRw, XRw, ↓XTx, XTx, ↓XC, XC, ↓XD, XD, ↓XT, XT, ↓XH, XH, ↓XA, XA, ↓XO, XO, ↓XL, XL, ↓XQE, XQE, ↓XW, XW, ↓XHd, XHd, ↓XP, ↓x_ifs, ↓XU, XU, XQ, eq_self, List.reverse_cons, List.reverse_nil, Int.cast_ofNat_Int, List.length_cons, List.length_nil, List.nil_append, List.cons_append, ne_eq, Nat.reduceAdd, Nat.reduceLeDiff, Int.reduceEq, Int.reduceLT, Int.reduceLE, Int.reduceToNat, Int.reducePow, Int.reduceAdd, Int.reduceMul, Int.reduceSub, Int.reduceNeg, List.getElem?_cons_zero, List.getElem?_cons_succ, dd_is_integer]; exact h)
  · rename_i d lo hi
    show t_is_integer (defE Q) ⟨[some (.dat (d)), some (.dat (.int lo)), some (.dat (.int hi))], n⟩
    obtain ⟨ok, h⟩ := h
    cases d <;> first | exact absurd ok Bool.false_ne_true | (simp -implicitDefEqProofs only [t_is_integer, ↓XB, XB, ↓XDm, XDm, ↓XRw, XRw, ↓XTx, XTx, ↓XC, XC, ↓XD, XD, ↓XT, XT, ↓XH, XH, ↓XA, XA, ↓XO, XO, ↓XL, XL, ↓XQE, XQE, ↓XW, XW, ↓XHd, XHd, ↓XP, ↓x_ifs, ↓XU, XU, XQ, eq_self, List.reverse_cons, List.reverse_nil, Int.cast_ofNat_Int, List.length_cons, List.length_nil, List.nil_append, List.cons_append, ne_eq, Nat.reduceAdd, Nat.reduceLeDiff, Int.reduceEq, Int.reduceLT, Int.reduceLE, Int.reduceToNat, Int.reducePow, Int.reduceAdd, Int.reduceMul, Int.reduceSub, Int.reduceNeg, List.getElem?_cons_zero, List.getElem?_cons_succ, dd_is_integer]; exact h) | skip
    rename_i v
    rw [rngD_i] at h
    simp -implicitDefEqProofs only [t_is_integer, ↓XB, XB, ↓XDm, XDm, ↓XRw, XRw, ↓XTx, XTx, ↓XC, XC, ↓XD, XD, ↓XT, XT, ↓XH, XH, ↓XA, XA, ↓XO, XO, ↓XL, XL, ↓XQE, XQE, ↓XW, XW, ↓XHd, XHd, ↓XP, ↓x_ifs, ↓XU, XU, XQ, eq_self, List.reverse_cons, List.reverse_nil, Int.cast_ofNat_Int, List.length_cons, List.length_nil, List.nil_append, List.cons_append, ne_eq, Nat.reduceAdd, Nat.reduceLeDiff, Int.reduceEq, Int.reduceLT, Int.reduceLE, Int.reduceToNat, Int.reducePow, Int.reduceAdd, Int.reduceMul, Int.reduceSub, Int.reduceNeg, List.getElem?_cons_zero, List.getElem?_cons_succ, dd_is_integer]
    by_cases c : lo ≤ v
    · rw [decide_eq_true c] at h ⊢
      simp -implicitDefEqProofs only [t_is_integer, ↓XB, XB, ↓XDm, XDm, ↓XRw, XRw, ↓XTx, XTx, ↓XC, XC, ↓XD, XD, ↓XT, XT, ↓XH, XH, ↓XA, XA, ↓XO, XO, ↓XL, XL, ↓XQE, XQE, ↓XW, XW, ↓XHd, XHd, ↓XP, ↓x_ifs, ↓XU, XU, XQ, eq_self, List.reverse_cons, List.reverse_nil, Int.cast_ofNat_Int, List.length_cons, List.length_nil, List.nil_append, List.cons_append, ne_eq, Nat.reduceAdd, Nat.reduceLeDiff, Int.reduceEq, Int.reduceLT, Int.reduceLE, Int.reduceToNat, Int.reducePow, Int.reduceAdd, Int.reduceMul, Int.reduceSub, Int.reduceNeg, List.getElem?_cons_zero, List.getElem?_cons_succ, dd_is_integer]
      exact h
    · rw [decide_eq_false c] at h ⊢
      simp -implicitDefEqProofs only [t_is_integer, ↓XB, XB, ↓XDm, XDm, ↓XRw, XRw, ↓XTx, XTx, ↓XC, XC, ↓XD, XD, ↓XT, XT, ↓XH, XH, ↓XA, XA, ↓XO, XO, ↓XL, XL, ↓XQE, XQE, ↓XW, XW, ↓XHd, XHd, ↓XP, ↓x_ifs, ↓XU, XU, XQ, eq_self, List.reverse_cons, List.reverse_nil, Int.cast_ofNat_Int, List.length_cons, List.length_nil, List.nil_append, List.cons_append, ne_eq, Nat.reduceAdd, Nat.reduceLeDiff, Int.reduceEq, Int.reduceLT, Int.reduceLE, Int.reduceToNat, Int.reducePow, Int.reduceAdd, Int.reduceMul, Int.reduceSub, Int.reduceNeg, List.getElem?_cons_zero, List.getElem?_cons_succ, dd_is_integer]
      exact h
  · rename_i d lo
    show t_is_integer (defE Q) ⟨[some (.dat (d)), some (.dat (.int lo)), some (.dat (.non))], n⟩
    obtain ⟨ok, h⟩ := h
    cases d <;> first | exact absurd ok Bool.false_ne_true | (simp -implicitDefEqProofs only [t_is_integer, ↓XB, XB, ↓XDm, XDm, ↓XRw, XRw, ↓XTx, XTx, ↓XC, XC, ↓XD, XD, ↓XT, XT, ↓XH, XH, ↓XA, XA, ↓XO, XO, ↓XL, XL, ↓XQE, XQE, ↓XW, XW, ↓XHd, XHd, ↓XP, ↓x_ifs, ↓XU, XU, XQ, eq_self, List.reverse_cons, List.reverse_nil, Int.cast_ofNat_Int, List.length_cons, List.length_nil, List.nil_append, List.cons_append, ne_eq, Nat.reduceAdd, Nat.reduceLeDiff, Int.reduceEq, Int.reduceLT, Int.reduceLE, Int.reduceToNat, Int.reducePow, Int.reduceAdd, Int.reduceMul, Int.reduceSub, Int.reduceNeg, List.getElem?_cons_zero, List.getElem?_cons_succ, dd_is_integer]; exact h) | skip
    rename_i v
    simp -implicitDefEqProofs only [t_is_integer, ↓XB, XB, ↓XDm, XDm, ↓XRw, XRw, ↓XTx, XTx, ↓XC, XC, ↓XD, XD, ↓XT, XT, ↓XH, XH, ↓XA, XA, ↓XO, XO, ↓XL, XL, ↓XQE, XQE, ↓XW, XW, ↓XHd, XHd, ↓XP, ↓x_ifs, ↓XU, XU, XQ, eq_self, List.reverse_cons, List.reverse_nil, Int.cast_ofNat_Int, List.length_cons, List.length_nil, List.nil_append, List.cons_append, ne_eq, Nat.reduceAdd, Nat.reduceLeDiff, Int.reduceEq, Int.reduceLT, Int.reduceLE, Int.reduceToNat, Int.reducePow, Int.reduceAdd, Int.reduceMul, Int.reduceSub, Int.reduceNeg, List.getElem?_cons_zero, List.getElem?_cons_succ, dd_is_integer]
    by_cases c : lo ≤ v
    · simp -implicitDefEqProofs only [t_is_integer, ↓XB, XB, ↓XDm, XDm, ↓XRw, XRw, ↓XTx, XTx, ↓XC, XC, ↓XD, XD, ↓XT, XT, ↓XH, XH, ↓XA, XA, ↓XO, XO, ↓XL, XL, ↓XQE, XQE, ↓XW, XW, ↓XHd, XHd, ↓XP, ↓x_ifs, ↓XU, XU, XQ, eq_self, List.reverse_cons, List.reverse_nil, Int.cast_ofNat_Int, List.length_cons, List.length_nil, List.nil_append, List.cons_append, ne_eq, Nat.reduceAdd, Nat.reduceLeDiff, Int.reduceEq, Int.reduceLT, Int.reduceLE, Int.reduceToNat, Int.reducePow, Int.reduceAdd, Int.reduceMul, Int.reduceSub, Int.reduceNeg, List.getElem?_cons_zero, List.getElem?_cons_succ, dd_is_integer, c]
      simpa [intD, c] using h
    · simp -implicitDefEqProofs only [t_is_integer, ↓XB, XB, ↓XDm, XDm, ↓XRw, XRw, ↓XTx, XTx, ↓XC, XC, ↓XD, XD, ↓XT, XT, ↓XH, XH, ↓XA, XA, ↓XO, XO, ↓XL, XL, ↓XQE, XQE, ↓XW, XW, ↓XHd, XHd, ↓XP, ↓x_ifs, ↓XU, XU, XQ, eq_self, List.reverse_cons, List.reverse_nil, Int.cast_ofNat_Int, List.length_cons, List.length_nil, List.nil_append, List.cons_append, ne_eq, Nat.reduceAdd, Nat.reduceLeDiff, Int.reduceEq, Int.reduceLT, Int.reduceLE, Int.reduceToNat, Int.reducePow, Int.reduceAdd, Int.reduceMul, Int.reduceSub, Int.reduceNeg, List.getElem?_cons_zero, List.getElem?_cons_succ, dd_is_integer, c]
      simpa [intD, c] using h
  · exact h.elim
theorem pair_cases {d : D} (h : pairD d = true) : ∃ a b : Int, d = .tup [.int a, .int b] := by
  cases d <;> first | exact absurd h Bool.false_ne_true | skip
  rename_i ds
  simp only [pairD, Bool.and_eq_true, decide_eq_true_iff] at h
  obtain ⟨h1, h2⟩ := h
  match ds, h1, h2 with
  | [x, y], _, h2 =>
    simp only [List.all_cons, List.all_nil, Bool.and_true, Bool.and_eq_true] at h2
    cases x <;> first | exact absurd h2.1 Bool.false_ne_true | skip
    cases y <;> first | exact absurd h2.2 Bool.false_ne_true | skip
    exact ⟨_, _, rfl⟩
theorem L_is_pair : ∀ n ds Q, S_is_pair n ds Q → ds.length = ps_is_pair.length := by
  intro n ds Q h
  unfold S_is_pair at h
  split at h <;> first | exact h.elim | rfl
set_option maxHeartbeats 0 in
theorem l_is_pair : ∀ n ds Q, S_is_pair n ds Q → t_is_pair (defE Q) (startG n N_is_pair ds) := by
  intro n ds Q h
  unfold S_is_pair at h
  split at h
  · rename_i d
    show t_is_pair (defE Q) ⟨[some (.dat (d)), none], n⟩
    obtain ⟨ok, h⟩ := h
    cases d <;> first | exact absurd ok Bool.false_ne_true | (simp -implicitDefEqProofs only [t_is_pair, ↓XB, XB, ↓XDm, XDm, ↓XRw, XRw, ↓XTx, XTx, ↓XC, XC, ↓XD, XD, ↓XT, XT, ↓XH, XH, ↓XA, XA, ↓XO, XO, ↓XL, XL, ↓XQE, XQE, ↓XW, XW, ↓XHd, XHd, ↓XP, ↓x_ifs, ↓XU, XU, XQ, eq_self, List.reverse_cons, List.reverse_nil, Int.cast_ofNat_Int, List.length_cons, List.length_nil, List.nil_append, List.cons_append, ne_eq, Nat.reduceAdd, Nat.reduceLeDiff, Int.reduceEq, Int.reduceLT, Int.reduceLE, Int.reduceToNat, Int.reducePow, Int.reduceAdd, Int.reduceMul, Int.reduceSub, Int.reduceNeg, List.getElem?_cons_zero, List.getElem?_cons_succ, dd_is_integer]; exact h) | skip
    rename_i ds
    by_cases c : ds.length = 2
    · obtain ⟨x, y, rfl⟩ : ∃ x y, ds = [x, y] := by
        match ds, c with
        | [x, y], _ => exact ⟨x, y, rfl⟩
      simp only [okE, List.all_cons, List.all_nil, Bool.and_true, Bool.and_eq_true] at ok
      obtain ⟨hx, hy⟩ := ok
      rw [show pairD (.tup [x, y]) = (intD x && intD y) by simp [pairD]] at h
      simp -implicitDefEqProofs only [t_is_pair, ↓XB, XB, ↓XDm, XDm, ↓XRw, XRw, ↓XTx, XTx, ↓XC, XC, ↓XD, XD, ↓XT, XT, ↓XH, XH, ↓XA, XA, ↓XO, XO, ↓XL, XL, ↓XQE, XQE, ↓XW, XW, ↓XHd, XHd, ↓XP, ↓x_ifs, ↓XU, XU, XQ, eq_self, List.reverse_cons, List.reverse_nil, Int.cast_ofNat_Int, List.length_cons, List.length_nil, List.nil_append, List.cons_append, ne_eq, Nat.reduceAdd, Nat.reduceLeDiff, Int.reduceEq, Int.reduceLT, Int.reduceLE, Int.reduceToNat, Int.reducePow, Int.reduceAdd, Int.reduceMul, Int.reduceSub, Int.reduceNeg, List.getElem?_cons_zero, List.getElem?_cons_succ, dd_is_integer, hx, hy]
      exact h
    · have c2 : ¬ ((ds.length : Int) = 2) := by omega
      rw [show pairD (.tup ds) = false by simp [pairD, c]] at h
      simp -implicitDefEqProofs only [t_is_pair, ↓XB, XB, ↓XDm, XDm, ↓XRw, XRw, ↓XTx, XTx, ↓XC, XC, ↓XD, XD, ↓XT, XT, ↓XH, XH, ↓XA, XA, ↓XO, XO, ↓XL, XL, ↓XQE, XQE, ↓XW, XW, ↓XHd, XHd, ↓XP, ↓x_ifs, ↓XU, XU, XQ, eq_self, List.reverse_cons, List.reverse_nil, Int.cast_ofNat_Int, List.length_cons, List.length_nil, List.nil_append, List.cons_append, ne_eq, Nat.reduceAdd, Nat.reduceLeDiff, Int.reduceEq, Int.reduceLT, Int.reduceLE, Int.reduceToNat, Int.reducePow, Int.reduceAdd, Int.reduceMul, Int.reduceSub, Int.reduceNeg, List.getElem?_cons_zero, List.getElem?_cons_succ, dd_is_integer, c2]
      exact h
  · exact h.elim
theorem L_need_size : ∀ n ds Q, S_need_size n ds Q → ds.length = ps_need_size.length := by
  intro n ds Q h
  unfold S_need_size at h
  split at h <;> first | exact h.elim | rfl
set_option maxHeartbeats 0 in
theorem l_need_size : ∀ n ds Q, S_need_size n ds Q → t_need_size (defE Q) (startG n N_need_size ds) := by
  intro n ds Q h
  unfold S_need_size at h
  split at h
  · rename_i a
    show t_need_size (defE Q) ⟨[some (.dat (.int a))], n⟩
    obtain ⟨⟨z1, z2⟩, h⟩ := h
    simp -implicitDefEqProofs only [t_need_size, ↓XB, XB, ↓XDm, XDm, ↓XRw, XRw, ↓XTx, XTx, ↓XC, XC, ↓XD, XD, ↓XT, XT, ↓XH, XH, ↓XA, XA, ↓XO, XO, ↓XL, XL, ↓XQE, XQE, ↓XW, XW, ↓XHd, XHd, ↓XP, ↓x_ifs, ↓XU, XU, XQ, eq_self, List.reverse_cons, List.reverse_nil, Int.cast_ofNat_Int, List.length_cons, List.length_nil, List.nil_append, List.cons_append, ne_eq, Nat.reduceAdd, Nat.reduceLeDiff, Int.reduceEq, Int.reduceLT, Int.reduceLE, Int.reduceToNat, Int.reducePow, Int.reduceAdd, Int.reduceMul, Int.reduceSub, Int.reduceNeg, List.getElem?_cons_zero, List.getElem?_cons_succ, dd_is_integer]
    rw [decide_eq_true z1, decide_eq_true z2]
    simp -implicitDefEqProofs only [t_need_size, ↓XB, XB, ↓XDm, XDm, ↓XRw, XRw, ↓XTx, XTx, ↓XC, XC, ↓XD, XD, ↓XT, XT, ↓XH, XH, ↓XA, XA, ↓XO, XO, ↓XL, XL, ↓XQE, XQE, ↓XW, XW, ↓XHd, XHd, ↓XP, ↓x_ifs, ↓XU, XU, XQ, eq_self, List.reverse_cons, List.reverse_nil, Int.cast_ofNat_Int, List.length_cons, List.length_nil, List.nil_append, List.cons_append, ne_eq, Nat.reduceAdd, Nat.reduceLeDiff, Int.reduceEq, Int.reduceLT, Int.reduceLE, Int.reduceToNat, Int.reducePow, Int.reduceAdd, Int.reduceMul, Int.reduceSub, Int.reduceNeg, List.getElem?_cons_zero, List.getElem?_cons_succ, dd_is_integer]
    exact h
  · exact h.elim
theorem L_need_box : ∀ n ds Q, S_need_box n ds Q → ds.length = ps_need_box.length := by
  intro n ds Q h
  unfold S_need_box at h
  split at h <;> first | exact h.elim | rfl
set_option maxHeartbeats 0 in
theorem l_need_box : ∀ n ds Q, S_need_box n ds Q → t_need_box (defE Q) (startG n N_need_box ds) := by
  intro n ds Q h
  unfold S_need_box at h
  split at h
  · rename_i a b
    show t_need_box (defE Q) ⟨[some (.dat (.int a)), some (.dat (.int b))], n⟩
    obtain ⟨z1, z2, h⟩ := h
    simp -implicitDefEqProofs only [t_need_box, ↓XB, XB, ↓XDm, XDm, ↓XRw, XRw, ↓XTx, XTx, ↓XC, XC, ↓XD, XD, ↓XT, XT, ↓XH, XH, ↓XA, XA, ↓XO, XO, ↓XL, XL, ↓XQE, XQE, ↓XW, XW, ↓XHd, XHd, ↓XP, ↓x_ifs, ↓XU, XU, XQ, eq_self, List.reverse_cons, List.reverse_nil, Int.cast_ofNat_Int, List.length_cons, List.length_nil, List.nil_append, List.cons_append, ne_eq, Nat.reduceAdd, Nat.reduceLeDiff, Int.reduceEq, Int.reduceLT, Int.reduceLE, Int.reduceToNat, Int.reducePow, Int.reduceAdd, Int.reduceMul, Int.reduceSub, Int.reduceNeg, List.getElem?_cons_zero, List.getElem?_cons_succ, dd_is_integer]
    exact ⟨z1, z2, h⟩
  · exact h.elim
theorem ib_le {x : Int} {k : Nat} (h : x.natAbs < 2 ^ k) (hk : 0 < k) : Builtin.Int.intBits x ≤ k := by
  unfold Builtin.Int.intBits
  split
  · omega
  · have := log2_lt h hk; omega
theorem pw3 {x : Int} (h : x.natAbs < 10 ^ 300) : (Builtin.Int.intBits x : Int) * 3 ≤ 134217728 := by
  have := ib_le (k := 1000) (Nat.lt_of_lt_of_le h (by decide +kernel)) (by decide)
  omega
theorem pw10 {k : Nat} (h : k ≤ 1000) : (Builtin.Int.intBits 10 : Int) * (k : Int) ≤ 134217728 := by
  have e : Builtin.Int.intBits 10 = 4 := by decide +kernel
  rw [e]; omega
theorem fm_lt {x m : Int} (h : 0 < m) : 0 ≤ x.fmod m ∧ x.fmod m < m := ⟨Int.fmod_nonneg_of_pos x h, Int.fmod_lt_of_pos x h⟩
theorem L__law_draw : ∀ n ds Q, S__law_draw n ds Q → ds.length = ps__law_draw.length := by
  intro n ds Q h
  replace h : A__law_draw n.num ds (fun r j => Q r (n.to j)) := h
  unfold A__law_draw at h
  split at h <;> first | exact h.elim | rfl
set_option maxHeartbeats 0 in
theorem l__law_draw : ∀ n ds Q, S__law_draw n ds Q → t__law_draw (defE Q) (startG n N__law_draw ds) := by
  rintro ⟨n, hp⟩ ds Q0 h
  let Q : SV → Nat → Prop := fun r j => Q0 r ⟨j, hp⟩
  replace h : A__law_draw n ds Q := h
  unfold A__law_draw at h
  split at h
  · rename_i m
    show t__law_draw (defE Q0) ⟨[some (.dat (.src)), some (.dat (.int m)), none, none], ⟨n, hp⟩⟩
    obtain ⟨h1, h2, h3, h⟩ := h
    simp -implicitDefEqProofs only [t__law_draw, ↓XB, XB, ↓XDm, XDm, ↓XRw, XRw, ↓XTx, XTx, ↓XC, XC, ↓XD, XD, ↓XT, XT, ↓XH, XH, ↓XA, XA, ↓XO, XO, ↓XL, XL, ↓XQE, XQE, ↓XW, XW, ↓XHd, XHd, ↓XP, ↓x_ifs, ↓XU, XU, XQ, eq_self, List.reverse_cons, List.reverse_nil, Int.cast_ofNat_Int, List.length_cons, List.length_nil, List.nil_append, List.cons_append, ne_eq, Nat.reduceAdd, Nat.reduceLeDiff, Int.reduceEq, Int.reduceLT, Int.reduceLE, Int.reduceToNat, Int.reducePow, Int.reduceAdd, Int.reduceMul, Int.reduceSub, Int.reduceNeg, List.getElem?_cons_zero, List.getElem?_cons_succ, dd_is_integer]
    intro v
    have fin : ∀ (x : Int) (j : Nat), n ≤ j → j ≤ n + 1 → Q (.dat (.int (x.fmod m))) j := fun x j => h _ j (fm_lt (by omega)).1 (fm_lt (by omega)).2
    by_cases c : 0 < v
    · rw [decide_eq_true c]
      simp -implicitDefEqProofs only [t__law_draw, ↓XB, XB, ↓XDm, XDm, ↓XRw, XRw, ↓XTx, XTx, ↓XC, XC, ↓XD, XD, ↓XT, XT, ↓XH, XH, ↓XA, XA, ↓XO, XO, ↓XL, XL, ↓XQE, XQE, ↓XW, XW, ↓XHd, XHd, ↓XP, ↓x_ifs, ↓XU, XU, XQ, eq_self, List.reverse_cons, List.reverse_nil, Int.cast_ofNat_Int, List.length_cons, List.length_nil, List.nil_append, List.cons_append, ne_eq, Nat.reduceAdd, Nat.reduceLeDiff, Int.reduceEq, Int.reduceLT, Int.reduceLE, Int.reduceToNat, Int.reducePow, Int.reduceAdd, Int.reduceMul, Int.reduceSub, Int.reduceNeg, List.getElem?_cons_zero, List.getElem?_cons_succ, dd_is_integer]
      intro w
      exact ⟨by omega, fun u => ⟨by omega, lg h2, fin _ _ (Nat.le_refl _) (Nat.le_succ _)⟩⟩
    · rw [decide_eq_false c]
      simp -implicitDefEqProofs only [t__law_draw, ↓XB, XB, ↓XDm, XDm, ↓XRw, XRw, ↓XTx, XTx, ↓XC, XC, ↓XD, XD, ↓XT, XT, ↓XH, XH, ↓XA, XA, ↓XO, XO, ↓XL, XL, ↓XQE, XQE, ↓XW, XW, ↓XHd, XHd, ↓XP, ↓x_ifs, ↓XU, XU, XQ, eq_self, List.reverse_cons, List.reverse_nil, Int.cast_ofNat_Int, List.length_cons, List.length_nil, List.nil_append, List.cons_append, ne_eq, Nat.reduceAdd, Nat.reduceLeDiff, Int.reduceEq, Int.reduceLT, Int.reduceLE, Int.reduceToNat, Int.reducePow, Int.reduceAdd, Int.reduceMul, Int.reduceSub, Int.reduceNeg, List.getElem?_cons_zero, List.getElem?_cons_succ, dd_is_integer]
      intro w w1 w2
      refine ⟨by omega, by omega, fun y y1 y2 z z1 z2 => ⟨cm (by decide +kernel) (by omega), pw3 (by omega), pw10 (k := 37) (by decide), fun u u1 u2 => ?_⟩⟩
      have f1 := fm_lt (x := (y + 900007 * z) ^ 3) (m := 10000000000000000000000000000000000043) (by decide)
      generalize ((y + 900007 * z) ^ 3).fmod 10000000000000000000000000000000000043 = g at f1 ⊢
      have f2 : 0 ≤ g * u ∧ g * u ≤ 10000000000000000000000000000000000043 * 10 ^ 19 := ⟨Int.mul_nonneg f1.1 u1, Int.mul_le_mul (by omega) (by omega) u1 (by decide)⟩
      refine ⟨cm (by omega) (by omega), pw3 (by omega), pw10 (k := 39) (by decide), lg (by decide +kernel), by omega, ?_⟩
      exact fin _ _ (Nat.le_succ _) (Nat.le_refl _)
  · exact h.elim
theorem L__law_source : ∀ n ds Q, S__law_source n ds Q → ds.length = ps__law_source.length := by
  intro n ds Q h
  unfold S__law_source at h
  split at h <;> first | exact h.elim | rfl
set_option maxHeartbeats 0 in
theorem l__law_source : ∀ n ds Q, S__law_source n ds Q → t__law_source (defE Q) (startG n N__law_source ds) := by
  intro n ds Q h
  unfold S__law_source at h
  split at h
  · rename_i a k
    show t__law_source (defE Q) ⟨[some (.dat (.int a)), some (.dat (.int k)), none], n⟩
    obtain ⟨h1, h2, h⟩ := h
    simp -implicitDefEqProofs only [t__law_source, ↓XB, XB, ↓XDm, XDm, ↓XRw, XRw, ↓XTx, XTx, ↓XC, XC, ↓XD, XD, ↓XT, XT, ↓XH, XH, ↓XA, XA, ↓XO, XO, ↓XL, XL, ↓XQE, XQE, ↓XW, XW, ↓XHd, XHd, ↓XP, ↓x_ifs, ↓XU, XU, XQ, eq_self, List.reverse_cons, List.reverse_nil, Int.cast_ofNat_Int, List.length_cons, List.length_nil, List.nil_append, List.cons_append, ne_eq, Nat.reduceAdd, Nat.reduceLeDiff, Int.reduceEq, Int.reduceLT, Int.reduceLE, Int.reduceToNat, Int.reducePow, Int.reduceAdd, Int.reduceMul, Int.reduceSub, Int.reduceNeg, List.getElem?_cons_zero, List.getElem?_cons_succ, dd_is_integer]
    have f := fm_lt (x := absI a) (m := 100000000000000000000000000000000000000081) (by decide)
    generalize absI a = g at f ⊢
    refine ⟨pw10 (k := 18) (by decide), pw10 (k := 41) (by decide), cm (by omega) (by decide), cm (by decide) (by omega), s_k ⟨?_, ?_, h⟩⟩
    · split <;> omega
    · split <;> omega
  · exact h.elim
theorem prLt_ne {p q : Int × Int} (h : prLt p q) : p ≠ q := fun e => by subst e; unfold prLt at h; omega
theorem so_prs {ps : List (Int × Int)} {q : SV → Prop} (h : ∀ qs : List (Int × Int), qs.Perm ps → qs.Pairwise prLe → q (.new (.lst (qs.map prD)))) : dSorted (.lst (ps.map prD)) q := by
  show (match prsOf (ps.map prD) with
    | some ps => ∀ qs : List (Int × Int), qs.Perm ps → qs.Pairwise prLe → q (.new (.lst (qs.map prD)))
    | none => match intsOf (ps.map prD) with
      | some ns => ∀ ms : List Int, ms.Perm ns → ms.Pairwise (· ≤ ·) → q (.new (.lst (ms.map D.int)))
      | none => False)
  rw [prsOf_map]; exact h
theorem stepTo_ok {f : Int} {p : Int × Int} (h : stepTo f p) (hf : f ≤ 6) : stepOk p := by
  unfold stepTo at h; unfold stepOk; omega
theorem eqD_prD {p q : Int × Int} : eqD (prD p) (prD q) = decide (p = q) := by
  obtain ⟨a, b⟩ := p
  obtain ⟨c, d⟩ := q
  unfold eqD prD
  simp only [toPy, toPys, PyData.eqv, PyData.eqvAll, Bool.and_true]
  rw [Bool.eq_iff_iff]; simp
theorem any_prD {ps : List (Int × Int)} {q : Int × Int} : ((ps.map prD).any fun z => eqD z (prD q)) = decide (q ∈ ps) := by
  rw [Bool.eq_iff_iff, decide_eq_true_iff, List.any_eq_true]
  constructor
  · rintro ⟨d, hd, h⟩
    obtain ⟨p, hp, rfl⟩ := List.mem_map.mp hd
    rw [eqD_prD, decide_eq_true_iff] at h
    subst h; exact hp
  · intro h
    exact ⟨prD q, List.mem_map.mpr ⟨q, h, rfl⟩, by rw [eqD_prD]; simp⟩
theorem pl_prD {n : Nat} {p : Int × Int} : Pl (n + 1) (prD p) := by
  intro e he
  simp only [List.mem_cons, List.not_mem_nil, or_false] at he
  rcases he with rfl | rfl <;> (cases n <;> trivial)
theorem pl_prs2 {n : Nat} {ps : List (Int × Int)} : Pl (n + 2) (.lst (ps.map prD)) := by
  intro d hd
  obtain ⟨p, _, rfl⟩ := List.mem_map.mp hd
  exact pl_prD
theorem in_prs {ps : List (Int × Int)} {a b : Int} {q : SV → Prop} (h : q (.dat (.bl (decide ((a, b) ∈ ps))))) : dIn (.tup [.int a, .int b]) (.lst (ps.map prD)) q := by
  refine ⟨pl_prD (p := (a, b)), pl_prs2, ?_⟩
  rw [show (List.map prD ps).any (fun z => eqD z (.tup [.int a, .int b])) = decide ((a, b) ∈ ps) from any_prD (q := (a, b))]
  exact h
theorem nin_prs {ps : List (Int × Int)} {a b : Int} {q : SV → Prop} (h : q (.dat (.bl (!decide ((a, b) ∈ ps))))) : dNotIn (.tup [.int a, .int b]) (.lst (ps.map prD)) q := by
  refine ⟨pl_prD (p := (a, b)), pl_prs2, ?_⟩
  rw [show (List.map prD ps).any (fun z => eqD z (.tup [.int a, .int b])) = decide ((a, b) ∈ ps) from any_prD (q := (a, b))]
  exact h
theorem shw_prs {ps : List (Int × Int)} (h : ∀ p ∈ ps, p.1.natAbs < 10 ^ 300 ∧ p.2.natAbs < 10 ^ 300) : Shw 2 (ps.length * 611 + 3) (.lst (ps.map prD)) := by
  refine (shw_lst (k := 1) (m := 609) fun d hd => ?_).mono (by decide) (by rw [List.length_map]; omega)
  obtain ⟨p, hp, rfl⟩ := List.mem_map.mp hd
  exact shw_pair (h p hp).1 (h p hp).2
theorem L__law_move : ∀ n ds Q, S__law_move n ds Q → ds.length = ps__law_move.length := by
  intro n ds Q h
  replace h : A__law_move n.num ds (fun r j => Q r (n.to j)) := h
  unfold A__law_move at h
  split at h <;> first | exact h.elim | rfl
set_option maxHeartbeats 0 in
theorem l__law_move : ∀ n ds Q, S__law_move n ds Q → t__law_move (defE Q) (startG n N__law_move ds) := by
  rintro ⟨n, hp⟩ ds Q0 h
  let Q : SV → Nat → Prop := fun r j => Q0 r ⟨j, hp⟩
  replace h : A__law_move n ds Q := h
  unfold A__law_move at h
  split at h
  · rename_i f
    show t__law_move (defE Q0) ⟨[some (.dat (.src)), some (.dat (.int f)), none], ⟨n, hp⟩⟩
    obtain ⟨f1, f2, h1, h⟩ := h
    simp -implicitDefEqProofs only [t__law_move, ↓XB, XB, ↓XDm, XDm, ↓XRw, XRw, ↓XTx, XTx, ↓XC, XC, ↓XD, XD, ↓XT, XT, ↓XH, XH, ↓XA, XA, ↓XO, XO, ↓XL, XL, ↓XQE, XQE, ↓XW, XW, ↓XHd, XHd, ↓XP, ↓x_ifs, ↓XU, XU, XQ, eq_self, List.reverse_cons, List.reverse_nil, Int.cast_ofNat_Int, List.length_cons, List.length_nil, List.nil_append, List.cons_append, ne_eq, Nat.reduceAdd, Nat.reduceLeDiff, Int.reduceEq, Int.reduceLT, Int.reduceLE, Int.reduceToNat, Int.reducePow, Int.reduceAdd, Int.reduceMul, Int.reduceSub, Int.reduceNeg, List.getElem?_cons_zero, List.getElem?_cons_succ, dd_is_integer]
    (repeat (refine ⟨by (first | omega | exact cm (by omega) (by omega) | exact lg (by omega) | exact pw10 (by decide) | decide +kernel), ?_⟩))
    intro x x_j x_a x_b x_c x_d
    try (simp -implicitDefEqProofs only [t__law_move, ↓XB, XB, ↓XDm, XDm, ↓XRw, XRw, ↓XTx, XTx, ↓XC, XC, ↓XD, XD, ↓XT, XT, ↓XH, XH, ↓XA, XA, ↓XO, XO, ↓XL, XL, ↓XQE, XQE, ↓XW, XW, ↓XHd, XHd, ↓XP, ↓x_ifs, ↓XU, XU, XQ, eq_self, List.reverse_cons, List.reverse_nil, Int.cast_ofNat_Int, List.length_cons, List.length_nil, List.nil_append, List.cons_append, ne_eq, Nat.reduceAdd, Nat.reduceLeDiff, Int.reduceEq, Int.reduceLT, Int.reduceLE, Int.reduceToNat, Int.reducePow, Int.reduceAdd, Int.reduceMul, Int.reduceSub, Int.reduceNeg, List.getElem?_cons_zero, List.getElem?_cons_succ, dd_is_integer])
    by_cases c : x = 0
    · subst c
      simp -implicitDefEqProofs only [t__law_move, ↓XB, XB, ↓XDm, XDm, ↓XRw, XRw, ↓XTx, XTx, ↓XC, XC, ↓XD, XD, ↓XT, XT, ↓XH, XH, ↓XA, XA, ↓XO, XO, ↓XL, XL, ↓XQE, XQE, ↓XW, XW, ↓XHd, XHd, ↓XP, ↓x_ifs, ↓XU, XU, XQ, eq_self, List.reverse_cons, List.reverse_nil, Int.cast_ofNat_Int, List.length_cons, List.length_nil, List.nil_append, List.cons_append, ne_eq, Nat.reduceAdd, Nat.reduceLeDiff, Int.reduceEq, Int.reduceLT, Int.reduceLE, Int.reduceToNat, Int.reducePow, Int.reduceAdd, Int.reduceMul, Int.reduceSub, Int.reduceNeg, List.getElem?_cons_zero, List.getElem?_cons_succ, dd_is_integer]
      (repeat (refine ⟨by (first | omega | exact cm (by omega) (by omega) | exact lg (by omega) | exact pw10 (by decide) | decide +kernel), ?_⟩))
      intro y y_j y_a y_b y_c y_d
      try (simp -implicitDefEqProofs only [t__law_move, ↓XB, XB, ↓XDm, XDm, ↓XRw, XRw, ↓XTx, XTx, ↓XC, XC, ↓XD, XD, ↓XT, XT, ↓XH, XH, ↓XA, XA, ↓XO, XO, ↓XL, XL, ↓XQE, XQE, ↓XW, XW, ↓XHd, XHd, ↓XP, ↓x_ifs, ↓XU, XU, XQ, eq_self, List.reverse_cons, List.reverse_nil, Int.cast_ofNat_Int, List.length_cons, List.length_nil, List.nil_append, List.cons_append, ne_eq, Nat.reduceAdd, Nat.reduceLeDiff, Int.reduceEq, Int.reduceLT, Int.reduceLE, Int.reduceToNat, Int.reducePow, Int.reduceAdd, Int.reduceMul, Int.reduceSub, Int.reduceNeg, List.getElem?_cons_zero, List.getElem?_cons_succ, dd_is_integer])
      exact h (0, 1 + y) _ (by unfold stepTo; omega) (by omega) (by omega)
    · simp -implicitDefEqProofs only [t__law_move, ↓XB, XB, ↓XDm, XDm, ↓XRw, XRw, ↓XTx, XTx, ↓XC, XC, ↓XD, XD, ↓XT, XT, ↓XH, XH, ↓XA, XA, ↓XO, XO, ↓XL, XL, ↓XQE, XQE, ↓XW, XW, ↓XHd, XHd, ↓XP, ↓x_ifs, ↓XU, XU, XQ, eq_self, List.reverse_cons, List.reverse_nil, Int.cast_ofNat_Int, List.length_cons, List.length_nil, List.nil_append, List.cons_append, ne_eq, Nat.reduceAdd, Nat.reduceLeDiff, Int.reduceEq, Int.reduceLT, Int.reduceLE, Int.reduceToNat, Int.reducePow, Int.reduceAdd, Int.reduceMul, Int.reduceSub, Int.reduceNeg, List.getElem?_cons_zero, List.getElem?_cons_succ, dd_is_integer, c]
      (repeat (refine ⟨by (first | omega | exact cm (by omega) (by omega) | exact lg (by omega) | exact pw10 (by decide) | decide +kernel), ?_⟩))
      intro y y_j y_a y_b y_c y_d
      try (simp -implicitDefEqProofs only [t__law_move, ↓XB, XB, ↓XDm, XDm, ↓XRw, XRw, ↓XTx, XTx, ↓XC, XC, ↓XD, XD, ↓XT, XT, ↓XH, XH, ↓XA, XA, ↓XO, XO, ↓XL, XL, ↓XQE, XQE, ↓XW, XW, ↓XHd, XHd, ↓XP, ↓x_ifs, ↓XU, XU, XQ, eq_self, List.reverse_cons, List.reverse_nil, Int.cast_ofNat_Int, List.length_cons, List.length_nil, List.nil_append, List.cons_append, ne_eq, Nat.reduceAdd, Nat.reduceLeDiff, Int.reduceEq, Int.reduceLT, Int.reduceLE, Int.reduceToNat, Int.reducePow, Int.reduceAdd, Int.reduceMul, Int.reduceSub, Int.reduceNeg, List.getElem?_cons_zero, List.getElem?_cons_succ, dd_is_integer])
      exact h (x, y - f) _ (by unfold stepTo; omega) (by omega) (by omega)
  · exact h.elim
theorem L__law_moves : ∀ n ds Q, S__law_moves n ds Q → ds.length = ps__law_moves.length := by
  intro n ds Q h
  replace h : A__law_moves n.num ds (fun r j => Q r (n.to j)) := h
  unfold A__law_moves at h
  split at h <;> first | exact h.elim | rfl
set_option maxHeartbeats 0 in
theorem l__law_moves : ∀ n ds Q, S__law_moves n ds Q → t__law_moves (defE Q) (startG n N__law_moves ds) := by
  rintro ⟨n, hp⟩ ds Q0 h
  let Q : SV → Nat → Prop := fun r j => Q0 r ⟨j, hp⟩
  replace h : A__law_moves n ds Q := h
  unfold A__law_moves at h
  split at h
  · rename_i f m
    show t__law_moves (defE Q0) ⟨[some (.dat (.src)), some (.dat (.int f)), some (.dat (.int m)), none, none, none], ⟨n, hp⟩⟩
    obtain ⟨⟨f1, f2⟩, ⟨m1, m2⟩, h1, h⟩ := h
    simp -implicitDefEqProofs only [t__law_moves, ↓XB, XB, ↓XDm, XDm, ↓XRw, XRw, ↓XTx, XTx, ↓XC, XC, ↓XD, XD, ↓XT, XT, ↓XH, XH, ↓XA, XA, ↓XO, XO, ↓XL, XL, ↓XQE, XQE, ↓XW, XW, ↓XHd, XHd, ↓XP, ↓x_ifs, ↓XU, XU, XQ, eq_self, List.reverse_cons, List.reverse_nil, Int.cast_ofNat_Int, List.length_cons, List.length_nil, List.nil_append, List.cons_append, ne_eq, Nat.reduceAdd, Nat.reduceLeDiff, Int.reduceEq, Int.reduceLT, Int.reduceLE, Int.reduceToNat, Int.reducePow, Int.reduceAdd, Int.reduceMul, Int.reduceSub, Int.reduceNeg, List.getElem?_cons_zero, List.getElem?_cons_succ, dd_is_integer]
    (repeat (refine ⟨by (first | omega | exact cm (by omega) (by omega) | exact lg (by omega) | exact pw10 (by decide) | decide +kernel), ?_⟩))
    intro v v_j v_a v_b v_c v_d
    try (simp -implicitDefEqProofs only [t__law_moves, ↓XB, XB, ↓XDm, XDm, ↓XRw, XRw, ↓XTx, XTx, ↓XC, XC, ↓XD, XD, ↓XT, XT, ↓XH, XH, ↓XA, XA, ↓XO, XO, ↓XL, XL, ↓XQE, XQE, ↓XW, XW, ↓XHd, XHd, ↓XP, ↓x_ifs, ↓XU, XU, XQ, eq_self, List.reverse_cons, List.reverse_nil, Int.cast_ofNat_Int, List.length_cons, List.length_nil, List.nil_append, List.cons_append, ne_eq, Nat.reduceAdd, Nat.reduceLeDiff, Int.reduceEq, Int.reduceLT, Int.reduceLE, Int.reduceToNat, Int.reducePow, Int.reduceAdd, Int.reduceMul, Int.reduceSub, Int.reduceNeg, List.getElem?_cons_zero, List.getElem?_cons_succ, dd_is_integer])
    have hr : (rangeD 0 (1 + v).toNat).length = (1 + v).toNat := rangeD_len _ _
    (repeat (refine ⟨by (first | omega | exact cm (by omega) (by omega) | exact lg (by omega) | exact pw10 (by decide) | decide +kernel), ?_⟩))
    refine for_inv (fun r G => ∃ (ms : List (Int × Int)) (o4 o5 : Option SC) (c : Nat), (ms = [] → 1 ≤ r.length) ∧ ms.length + r.length ≤ 4 ∧ (∀ p ∈ ms, stepTo f p) ∧ ms.Nodup ∧ (n ≤ c ∧ c + 2 * r.length ≤ n + 9) ∧ G = ⟨[some (.dat .src), some (.dat (.int f)), some (.dat (.int m)), some (.own (.lst (ms.map prD))), o4, o5], ⟨c, hp⟩⟩) ?_ _ ?_ _ ⟨[], none, none, v_j, fun _ => by omega, by show 0 + _ ≤ 4; omega, fun p hp => (by cases hp), List.nodup_nil, by omega, rfl⟩
    · rintro G ⟨ms, o4, o5, c, e1, e2, e3, e4, ⟨c1, c2⟩, rfl⟩
      simp -implicitDefEqProofs only [t__law_moves, ↓XB, XB, ↓XDm, XDm, ↓XRw, XRw, ↓XTx, XTx, ↓XC, XC, ↓XD, XD, ↓XT, XT, ↓XH, XH, ↓XA, XA, ↓XO, XO, ↓XL, XL, ↓XQE, XQE, ↓XW, XW, ↓XHd, XHd, ↓XP, ↓x_ifs, ↓XU, XU, XQ, eq_self, List.reverse_cons, List.reverse_nil, Int.cast_ofNat_Int, List.length_cons, List.length_nil, List.nil_append, List.cons_append, ne_eq, Nat.reduceAdd, Nat.reduceLeDiff, Int.reduceEq, Int.reduceLT, Int.reduceLE, Int.reduceToNat, Int.reducePow, Int.reduceAdd, Int.reduceMul, Int.reduceSub, Int.reduceNeg, List.getElem?_cons_zero, List.getElem?_cons_succ, dd_is_integer]
      simp only [List.length_nil, Nat.add_zero, Nat.mul_zero] at e1 e2 c2
      exact h ms c (by cases ms with | nil => exact absurd (e1 rfl) (by omega) | cons a l => simp) e2 e3 e4 (by omega) (by omega)
    · rintro d r G N hs ⟨ms, o4, o5, c, e1, e2, e3, e4, ⟨c1, c2⟩, rfl⟩ hN
      rw [List.length_cons] at e2 c2
      simp -implicitDefEqProofs only [t__law_moves, ↓XB, XB, ↓XDm, XDm, ↓XRw, XRw, ↓XTx, XTx, ↓XC, XC, ↓XD, XD, ↓XT, XT, ↓XH, XH, ↓XA, XA, ↓XO, XO, ↓XL, XL, ↓XQE, XQE, ↓XW, XW, ↓XHd, XHd, ↓XP, ↓x_ifs, ↓XU, XU, XQ, eq_self, List.reverse_cons, List.reverse_nil, Int.cast_ofNat_Int, List.length_cons, List.length_nil, List.nil_append, List.cons_append, ne_eq, Nat.reduceAdd, Nat.reduceLeDiff, Int.reduceEq, Int.reduceLT, Int.reduceLE, Int.reduceToNat, Int.reducePow, Int.reduceAdd, Int.reduceMul, Int.reduceSub, Int.reduceNeg, List.getElem?_cons_zero, List.getElem?_cons_succ, dd_is_integer]
      (repeat (refine ⟨by (first | omega | exact cm (by omega) (by omega) | exact lg (by omega) | exact pw10 (by decide) | decide +kernel), ?_⟩))
      intro p j hp j1 j2
      try (simp -implicitDefEqProofs only [t__law_moves, ↓XB, XB, ↓XDm, XDm, ↓XRw, XRw, ↓XTx, XTx, ↓XC, XC, ↓XD, XD, ↓XT, XT, ↓XH, XH, ↓XA, XA, ↓XO, XO, ↓XL, XL, ↓XQE, XQE, ↓XW, XW, ↓XHd, XHd, ↓XP, ↓x_ifs, ↓XU, XU, XQ, eq_self, List.reverse_cons, List.reverse_nil, Int.cast_ofNat_Int, List.length_cons, List.length_nil, List.nil_append, List.cons_append, ne_eq, Nat.reduceAdd, Nat.reduceLeDiff, Int.reduceEq, Int.reduceLT, Int.reduceLE, Int.reduceToNat, Int.reducePow, Int.reduceAdd, Int.reduceMul, Int.reduceSub, Int.reduceNeg, List.getElem?_cons_zero, List.getElem?_cons_succ, dd_is_integer])
      refine nin_prs ?_
      by_cases hm : (p.1, p.2) ∈ ms
      · simp -implicitDefEqProofs only [t__law_moves, ↓XB, XB, ↓XDm, XDm, ↓XRw, XRw, ↓XTx, XTx, ↓XC, XC, ↓XD, XD, ↓XT, XT, ↓XH, XH, ↓XA, XA, ↓XO, XO, ↓XL, XL, ↓XQE, XQE, ↓XW, XW, ↓XHd, XHd, ↓XP, ↓x_ifs, ↓XU, XU, XQ, eq_self, List.reverse_cons, List.reverse_nil, Int.cast_ofNat_Int, List.length_cons, List.length_nil, List.nil_append, List.cons_append, ne_eq, Nat.reduceAdd, Nat.reduceLeDiff, Int.reduceEq, Int.reduceLT, Int.reduceLE, Int.reduceToNat, Int.reducePow, Int.reduceAdd, Int.reduceMul, Int.reduceSub, Int.reduceNeg, List.getElem?_cons_zero, List.getElem?_cons_succ, dd_is_integer, hm]
        exact hN _ ⟨ms, _, _, _, fun z => (by rw [z] at hm; cases hm), by omega, e3, e4, by omega, rfl⟩
      · simp -implicitDefEqProofs only [t__law_moves, ↓XB, XB, ↓XDm, XDm, ↓XRw, XRw, ↓XTx, XTx, ↓XC, XC, ↓XD, XD, ↓XT, XT, ↓XH, XH, ↓XA, XA, ↓XO, XO, ↓XL, XL, ↓XQE, XQE, ↓XW, XW, ↓XHd, XHd, ↓XP, ↓x_ifs, ↓XU, XU, XQ, eq_self, List.reverse_cons, List.reverse_nil, Int.cast_ofNat_Int, List.length_cons, List.length_nil, List.nil_append, List.cons_append, ne_eq, Nat.reduceAdd, Nat.reduceLeDiff, Int.reduceEq, Int.reduceLT, Int.reduceLE, Int.reduceToNat, Int.reducePow, Int.reduceAdd, Int.reduceMul, Int.reduceSub, Int.reduceNeg, List.getElem?_cons_zero, List.getElem?_cons_succ, dd_is_integer, hm]
        refine ⟨by rw [List.length_map]; exact Nat.lt_of_lt_of_le (m := 5) (by omega) (by decide), ?_⟩
        rw [show ms.map prD ++ [D.tup [.int p.1, .int p.2]] = (ms ++ [p]).map prD by rw [List.map_append]; rfl]
        refine hN _ ⟨ms ++ [p], _, _, _, fun z => (by simp at z), by rw [List.length_append, List.length_singleton]; omega, fun q hq => ?_, ?_, by omega, rfl⟩
        · rcases List.mem_append.mp hq with hq | hq
          · exact e3 q hq
          · rw [List.mem_singleton] at hq; rw [hq]; exact hp
        · rw [List.nodup_append]
          refine ⟨e4, by simp, fun a ha b hb => ?_⟩
          rw [List.mem_singleton] at hb
          rintro rfl
          rw [hb] at ha
          exact hm ha
  · exact h.elim
theorem faultAt_ok : ∀ {ms ps : List (Int × Int)}, (∀ p ∈ ms, stepOk p) → (ps ++ ms).Nodup → faultAt ps (ms.map prD) = .tup []
  | [], _, _, _ => rfl
  | p :: ms, ps, h, hn => by
    have hp : p ∉ ps := fun z => by
      rw [List.nodup_append] at hn
      exact hn.2.2 p z p List.mem_cons_self rfl
    have e1 : stepD (prD p) = true := by
      show decide (stepOk (p.1, p.2)) = true
      exact decide_eq_true (h p List.mem_cons_self)
    have e2 : pairOf (prD p) = p := rfl
    rw [List.map_cons, faultAt, if_pos e1, e2, if_neg hp]
    exact faultAt_ok (fun q hq => h q (List.mem_cons_of_mem _ hq)) (by rw [List.append_assoc]; exact hn)
theorem steps_need {ms : List (Int × Int)} (h : StepsOk ms) : okL (.lst (ms.map prD)) = true ∧ faultD (.lst (ms.map prD)) = .tup [] := by
  refine ⟨?_, ?_⟩
  · show (ms.map prD).all okE = true
    rw [List.all_eq_true]
    intro d hd
    obtain ⟨p, _, rfl⟩ := List.mem_map.mp hd
    rfl
  · unfold faultD
    simp only [List.length_map]
    rw [if_pos ⟨h.1, h.2.1⟩]
    exact faultAt_ok h.2.2.1 (by simpa using h.2.2.2)
theorem cut_take {ds : List D} {k : Nat} (h : k ≤ ds.length) : dSlc.cutV' ds none (some (k : Int)) = ds.take k := by
  unfold dSlc.cutV'
  have e : HT.sIx ds.length ds.length (some (k : Int)) = k := by rw [HT.sIx_nat]; omega
  have e0 : HT.sIx ds.length 0 none = 0 := rfl
  rw [e, e0, List.drop_zero, Nat.sub_zero]
theorem q_tt0 {f : Bool → Prop} (hf : f true) : eqQ (.tup []) (.tup []) f := q_same (by intro d hd; cases hd) hf
theorem L_is_step : ∀ n ds Q, S_is_step n ds Q → ds.length = ps_is_step.length := by
  intro n ds Q h
  unfold S_is_step at h
  split at h <;> first | exact h.elim | rfl
set_option maxHeartbeats 0 in
theorem l_is_step : ∀ n ds Q, S_is_step n ds Q → t_is_step (defE Q) (startG n N_is_step ds) := by
  intro n ds Q h
  unfold S_is_step at h
  split at h
  · rename_i d
    show t_is_step (defE Q) ⟨[some (.dat (d))], n⟩
    obtain ⟨ok, h⟩ := h
    cases hp : pairD d with
    | true =>
      obtain ⟨a, b, rfl⟩ := pair_cases hp
      rw [stepD_p] at h
      unfold stepOk at h
      by_cases c1 : 0 ≤ a ∧ a ≤ 6
      · obtain ⟨c1, c2⟩ := c1
        by_cases c3 : a = 0
        · subst c3
          simp -implicitDefEqProofs only [t_is_step, ↓XB, XB, ↓XDm, XDm, ↓XRw, XRw, ↓XTx, XTx, ↓XC, XC, ↓XD, XD, ↓XT, XT, ↓XH, XH, ↓XA, XA, ↓XO, XO, ↓XL, XL, ↓XQE, XQE, ↓XW, XW, ↓XHd, XHd, ↓XP, ↓x_ifs, ↓XU, XU, XQ, eq_self, List.reverse_cons, List.reverse_nil, Int.cast_ofNat_Int, List.length_cons, List.length_nil, List.nil_append, List.cons_append, ne_eq, Nat.reduceAdd, Nat.reduceLeDiff, Int.reduceEq, Int.reduceLT, Int.reduceLE, Int.reduceToNat, Int.reducePow, Int.reduceAdd, Int.reduceMul, Int.reduceSub, Int.reduceNeg, List.getElem?_cons_zero, List.getElem?_cons_succ, dd_is_integer]
          by_cases c4 : 1 ≤ b
          · simp -implicitDefEqProofs only [t_is_step, ↓XB, XB, ↓XDm, XDm, ↓XRw, XRw, ↓XTx, XTx, ↓XC, XC, ↓XD, XD, ↓XT, XT, ↓XH, XH, ↓XA, XA, ↓XO, XO, ↓XL, XL, ↓XQE, XQE, ↓XW, XW, ↓XHd, XHd, ↓XP, ↓x_ifs, ↓XU, XU, XQ, eq_self, List.reverse_cons, List.reverse_nil, Int.cast_ofNat_Int, List.length_cons, List.length_nil, List.nil_append, List.cons_append, ne_eq, Nat.reduceAdd, Nat.reduceLeDiff, Int.reduceEq, Int.reduceLT, Int.reduceLE, Int.reduceToNat, Int.reducePow, Int.reduceAdd, Int.reduceMul, Int.reduceSub, Int.reduceNeg, List.getElem?_cons_zero, List.getElem?_cons_succ, dd_is_integer, c4]
            rw [show decide (0 ≤ (0 : Int) ∧ (0 : Int) ≤ 6 ∧ -6 ≤ b ∧ b ≤ 6 ∧ ((0 : Int) = 0 → 1 ≤ b)) = decide (b ≤ 6) from decide_eq_decide.mpr (by omega)] at h
            exact h
          · simp -implicitDefEqProofs only [t_is_step, ↓XB, XB, ↓XDm, XDm, ↓XRw, XRw, ↓XTx, XTx, ↓XC, XC, ↓XD, XD, ↓XT, XT, ↓XH, XH, ↓XA, XA, ↓XO, XO, ↓XL, XL, ↓XQE, XQE, ↓XW, XW, ↓XHd, XHd, ↓XP, ↓x_ifs, ↓XU, XU, XQ, eq_self, List.reverse_cons, List.reverse_nil, Int.cast_ofNat_Int, List.length_cons, List.length_nil, List.nil_append, List.cons_append, ne_eq, Nat.reduceAdd, Nat.reduceLeDiff, Int.reduceEq, Int.reduceLT, Int.reduceLE, Int.reduceToNat, Int.reducePow, Int.reduceAdd, Int.reduceMul, Int.reduceSub, Int.reduceNeg, List.getElem?_cons_zero, List.getElem?_cons_succ, dd_is_integer, c4]
            rw [show decide (0 ≤ (0 : Int) ∧ (0 : Int) ≤ 6 ∧ -6 ≤ b ∧ b ≤ 6 ∧ ((0 : Int) = 0 → 1 ≤ b)) = false from decide_eq_false (by omega)] at h
            exact h
        · simp -implicitDefEqProofs only [t_is_step, ↓XB, XB, ↓XDm, XDm, ↓XRw, XRw, ↓XTx, XTx, ↓XC, XC, ↓XD, XD, ↓XT, XT, ↓XH, XH, ↓XA, XA, ↓XO, XO, ↓XL, XL, ↓XQE, XQE, ↓XW, XW, ↓XHd, XHd, ↓XP, ↓x_ifs, ↓XU, XU, XQ, eq_self, List.reverse_cons, List.reverse_nil, Int.cast_ofNat_Int, List.length_cons, List.length_nil, List.nil_append, List.cons_append, ne_eq, Nat.reduceAdd, Nat.reduceLeDiff, Int.reduceEq, Int.reduceLT, Int.reduceLE, Int.reduceToNat, Int.reducePow, Int.reduceAdd, Int.reduceMul, Int.reduceSub, Int.reduceNeg, List.getElem?_cons_zero, List.getElem?_cons_succ, dd_is_integer, c1, c2, c3]
          by_cases c4 : -6 ≤ b
          · simp -implicitDefEqProofs only [t_is_step, ↓XB, XB, ↓XDm, XDm, ↓XRw, XRw, ↓XTx, XTx, ↓XC, XC, ↓XD, XD, ↓XT, XT, ↓XH, XH, ↓XA, XA, ↓XO, XO, ↓XL, XL, ↓XQE, XQE, ↓XW, XW, ↓XHd, XHd, ↓XP, ↓x_ifs, ↓XU, XU, XQ, eq_self, List.reverse_cons, List.reverse_nil, Int.cast_ofNat_Int, List.length_cons, List.length_nil, List.nil_append, List.cons_append, ne_eq, Nat.reduceAdd, Nat.reduceLeDiff, Int.reduceEq, Int.reduceLT, Int.reduceLE, Int.reduceToNat, Int.reducePow, Int.reduceAdd, Int.reduceMul, Int.reduceSub, Int.reduceNeg, List.getElem?_cons_zero, List.getElem?_cons_succ, dd_is_integer, c4]
            rw [show decide (0 ≤ a ∧ a ≤ 6 ∧ -6 ≤ b ∧ b ≤ 6 ∧ (a = 0 → 1 ≤ b)) = decide (b ≤ 6) from decide_eq_decide.mpr (by omega)] at h
            exact h
          · simp -implicitDefEqProofs only [t_is_step, ↓XB, XB, ↓XDm, XDm, ↓XRw, XRw, ↓XTx, XTx, ↓XC, XC, ↓XD, XD, ↓XT, XT, ↓XH, XH, ↓XA, XA, ↓XO, XO, ↓XL, XL, ↓XQE, XQE, ↓XW, XW, ↓XHd, XHd, ↓XP, ↓x_ifs, ↓XU, XU, XQ, eq_self, List.reverse_cons, List.reverse_nil, Int.cast_ofNat_Int, List.length_cons, List.length_nil, List.nil_append, List.cons_append, ne_eq, Nat.reduceAdd, Nat.reduceLeDiff, Int.reduceEq, Int.reduceLT, Int.reduceLE, Int.reduceToNat, Int.reducePow, Int.reduceAdd, Int.reduceMul, Int.reduceSub, Int.reduceNeg, List.getElem?_cons_zero, List.getElem?_cons_succ, dd_is_integer, c4]
            rw [show decide (0 ≤ a ∧ a ≤ 6 ∧ -6 ≤ b ∧ b ≤ 6 ∧ (a = 0 → 1 ≤ b)) = false from decide_eq_false (by omega)] at h
            exact h
      · rw [show decide (0 ≤ a ∧ a ≤ 6 ∧ -6 ≤ b ∧ b ≤ 6 ∧ (a = 0 → 1 ≤ b)) = false from decide_eq_false (by omega)] at h
        by_cases c2 : 0 ≤ a
        · have c3 : ¬ a ≤ 6 := by omega
          simp -implicitDefEqProofs only [t_is_step, ↓XB, XB, ↓XDm, XDm, ↓XRw, XRw, ↓XTx, XTx, ↓XC, XC, ↓XD, XD, ↓XT, XT, ↓XH, XH, ↓XA, XA, ↓XO, XO, ↓XL, XL, ↓XQE, XQE, ↓XW, XW, ↓XHd, XHd, ↓XP, ↓x_ifs, ↓XU, XU, XQ, eq_self, List.reverse_cons, List.reverse_nil, Int.cast_ofNat_Int, List.length_cons, List.length_nil, List.nil_append, List.cons_append, ne_eq, Nat.reduceAdd, Nat.reduceLeDiff, Int.reduceEq, Int.reduceLT, Int.reduceLE, Int.reduceToNat, Int.reducePow, Int.reduceAdd, Int.reduceMul, Int.reduceSub, Int.reduceNeg, List.getElem?_cons_zero, List.getElem?_cons_succ, dd_is_integer, c2, c3]
          exact h
        · simp -implicitDefEqProofs only [t_is_step, ↓XB, XB, ↓XDm, XDm, ↓XRw, XRw, ↓XTx, XTx, ↓XC, XC, ↓XD, XD, ↓XT, XT, ↓XH, XH, ↓XA, XA, ↓XO, XO, ↓XL, XL, ↓XQE, XQE, ↓XW, XW, ↓XHd, XHd, ↓XP, ↓x_ifs, ↓XU, XU, XQ, eq_self, List.reverse_cons, List.reverse_nil, Int.cast_ofNat_Int, List.length_cons, List.length_nil, List.nil_append, List.cons_append, ne_eq, Nat.reduceAdd, Nat.reduceLeDiff, Int.reduceEq, Int.reduceLT, Int.reduceLE, Int.reduceToNat, Int.reducePow, Int.reduceAdd, Int.reduceMul, Int.reduceSub, Int.reduceNeg, List.getElem?_cons_zero, List.getElem?_cons_succ, dd_is_integer, c2]
          exact h
    | false =>
      have hv : stepD d = false := by
        unfold stepD
        split
        · exact absurd hp (by rw [pairD_p]; decide)
        · rfl
      rw [hv] at h
      simp -implicitDefEqProofs only [t_is_step, ↓XB, XB, ↓XDm, XDm, ↓XRw, XRw, ↓XTx, XTx, ↓XC, XC, ↓XD, XD, ↓XT, XT, ↓XH, XH, ↓XA, XA, ↓XO, XO, ↓XL, XL, ↓XQE, XQE, ↓XW, XW, ↓XHd, XHd, ↓XP, ↓x_ifs, ↓XU, XU, XQ, eq_self, List.reverse_cons, List.reverse_nil, Int.cast_ofNat_Int, List.length_cons, List.length_nil, List.nil_append, List.cons_append, ne_eq, Nat.reduceAdd, Nat.reduceLeDiff, Int.reduceEq, Int.reduceLT, Int.reduceLE, Int.reduceToNat, Int.reducePow, Int.reduceAdd, Int.reduceMul, Int.reduceSub, Int.reduceNeg, List.getElem?_cons_zero, List.getElem?_cons_succ, dd_is_integer, ok, hp]
      exact h
  · exact h.elim
theorem L_steps_fault : ∀ n ds Q, S_steps_fault n ds Q → ds.length = ps_steps_fault.length := by
  intro n ds Q h
  unfold S_steps_fault at h
  split at h <;> first | exact h.elim | rfl
set_option maxHeartbeats 0 in
theorem l_steps_fault : ∀ n ds Q, S_steps_fault n ds Q → t_steps_fault (defE Q) (startG n N_steps_fault ds) := by
  intro n ds Q h
  unfold S_steps_fault at h
  split at h
  · rename_i d
    show t_steps_fault (defE Q) ⟨[some (.dat (d)), none, none], n⟩
    obtain ⟨ok, h⟩ := h
    cases d <;> first | exact absurd ok Bool.false_ne_true | (simp -implicitDefEqProofs only [t_steps_fault, ↓XB, XB, ↓XDm, XDm, ↓XRw, XRw, ↓XTx, XTx, ↓XC, XC, ↓XD, XD, ↓XT, XT, ↓XH, XH, ↓XA, XA, ↓XO, XO, ↓XL, XL, ↓XQE, XQE, ↓XW, XW, ↓XHd, XHd, ↓XP, ↓x_ifs, ↓XU, XU, XQ, eq_self, List.reverse_cons, List.reverse_nil, Int.cast_ofNat_Int, List.length_cons, List.length_nil, List.nil_append, List.cons_append, ne_eq, Nat.reduceAdd, Nat.reduceLeDiff, Int.reduceEq, Int.reduceLT, Int.reduceLE, Int.reduceToNat, Int.reducePow, Int.reduceAdd, Int.reduceMul, Int.reduceSub, Int.reduceNeg, List.getElem?_cons_zero, List.getElem?_cons_succ, dd_is_integer]; exact h) | skip
    rename_i ds
    have ok : ds.all okE = true := ok
    by_cases c1 : 1 ≤ ds.length
    · by_cases c2 : ds.length ≤ 4
      · have c3 : (1 : Int) ≤ ds.length := by omega
        have c4 : (ds.length : Int) ≤ 4 := by omega
        rw [show faultD (.lst ds) = faultAt [] ds by unfold faultD; simp only; rw [if_pos ⟨c1, c2⟩]] at h
        simp -implicitDefEqProofs only [t_steps_fault, ↓XB, XB, ↓XDm, XDm, ↓XRw, XRw, ↓XTx, XTx, ↓XC, XC, ↓XD, XD, ↓XT, XT, ↓XH, XH, ↓XA, XA, ↓XO, XO, ↓XL, XL, ↓XQE, XQE, ↓XW, XW, ↓XHd, XHd, ↓XP, ↓x_ifs, ↓XU, XU, XQ, eq_self, List.reverse_cons, List.reverse_nil, Int.cast_ofNat_Int, List.length_cons, List.length_nil, List.nil_append, List.cons_append, ne_eq, Nat.reduceAdd, Nat.reduceLeDiff, Int.reduceEq, Int.reduceLT, Int.reduceLE, Int.reduceToNat, Int.reducePow, Int.reduceAdd, Int.reduceMul, Int.reduceSub, Int.reduceNeg, List.getElem?_cons_zero, List.getElem?_cons_succ, dd_is_integer, c3, c4]
        refine for_inv (fun r G => ∃ (ps : List (Int × Int)) (re : List D) (o1 o2 : Option SC), r = enumD (ps.length : Int) re ∧ ds = ps.map prD ++ re ∧ (∀ p ∈ ps, stepOk p) ∧ Q (.dat (faultAt ps re)) n ∧ G = ⟨[some (.dat (.lst ds)), o1, o2], n⟩) ?_ _ ?_ _ ⟨[], ds, none, none, rfl, rfl, fun p hp => (by cases hp), h, rfl⟩
        · rintro G ⟨ps, re, o1, o2, e1, e2, e3, h, rfl⟩
          cases re with
          | nil => simp -implicitDefEqProofs only [t_steps_fault, ↓XB, XB, ↓XDm, XDm, ↓XRw, XRw, ↓XTx, XTx, ↓XC, XC, ↓XD, XD, ↓XT, XT, ↓XH, XH, ↓XA, XA, ↓XO, XO, ↓XL, XL, ↓XQE, XQE, ↓XW, XW, ↓XHd, XHd, ↓XP, ↓x_ifs, ↓XU, XU, XQ, eq_self, List.reverse_cons, List.reverse_nil, Int.cast_ofNat_Int, List.length_cons, List.length_nil, List.nil_append, List.cons_append, ne_eq, Nat.reduceAdd, Nat.reduceLeDiff, Int.reduceEq, Int.reduceLT, Int.reduceLE, Int.reduceToNat, Int.reducePow, Int.reduceAdd, Int.reduceMul, Int.reduceSub, Int.reduceNeg, List.getElem?_cons_zero, List.getElem?_cons_succ, dd_is_integer]; exact h
          | cons d re => cases e1
        · rintro d r G N hs ⟨ps, re, o1, o2, e1, e2, e3, h, rfl⟩ hN
          cases re with
          | nil => cases e1
          | cons d' re =>
            obtain ⟨rfl, e4⟩ := List.cons.inj (show d :: r = .tup [.int (ps.length : Int), d'] :: enumD ((ps.length : Int) + 1) re from e1)
            have okd : okE d' = true := List.all_eq_true.mp ok d' (by rw [e2]; simp)
            cases hst : stepD d' with
            | false =>
              rw [faultAt, if_neg (by rw [hst]; decide)] at h
              simp -implicitDefEqProofs only [t_steps_fault, ↓XB, XB, ↓XDm, XDm, ↓XRw, XRw, ↓XTx, XTx, ↓XC, XC, ↓XD, XD, ↓XT, XT, ↓XH, XH, ↓XA, XA, ↓XO, XO, ↓XL, XL, ↓XQE, XQE, ↓XW, XW, ↓XHd, XHd, ↓XP, ↓x_ifs, ↓XU, XU, XQ, eq_self, List.reverse_cons, List.reverse_nil, Int.cast_ofNat_Int, List.length_cons, List.length_nil, List.nil_append, List.cons_append, ne_eq, Nat.reduceAdd, Nat.reduceLeDiff, Int.reduceEq, Int.reduceLT, Int.reduceLE, Int.reduceToNat, Int.reducePow, Int.reduceAdd, Int.reduceMul, Int.reduceSub, Int.reduceNeg, List.getElem?_cons_zero, List.getElem?_cons_succ, dd_is_integer, okd, hst]
              exact h
            | true =>
              obtain ⟨a, b, rfl⟩ : ∃ a b : Int, d' = .tup [.int a, .int b] := by
                unfold stepD at hst
                split at hst
                · exact ⟨_, _, rfl⟩
                · cases hst
              have hso : stepOk (a, b) := of_decide_eq_true hst
              rw [faultAt, if_pos hst] at h
              have hc : dSlc.cutV' ds none (some (ps.length : Int)) = ps.map prD := by
                rw [cut_take (by rw [e2, List.length_append, List.length_map]; omega), e2, ← List.length_map (f := prD), List.take_left']
                rfl
              simp -implicitDefEqProofs only [t_steps_fault, ↓XB, XB, ↓XDm, XDm, ↓XRw, XRw, ↓XTx, XTx, ↓XC, XC, ↓XD, XD, ↓XT, XT, ↓XH, XH, ↓XA, XA, ↓XO, XO, ↓XL, XL, ↓XQE, XQE, ↓XW, XW, ↓XHd, XHd, ↓XP, ↓x_ifs, ↓XU, XU, XQ, eq_self, List.reverse_cons, List.reverse_nil, Int.cast_ofNat_Int, List.length_cons, List.length_nil, List.nil_append, List.cons_append, ne_eq, Nat.reduceAdd, Nat.reduceLeDiff, Int.reduceEq, Int.reduceLT, Int.reduceLE, Int.reduceToNat, Int.reducePow, Int.reduceAdd, Int.reduceMul, Int.reduceSub, Int.reduceNeg, List.getElem?_cons_zero, List.getElem?_cons_succ, dd_is_integer, hso, hc]
              refine in_prs ?_
              by_cases hm : (a, b) ∈ ps
              · rw [if_pos (show pairOf (D.tup [.int a, .int b]) ∈ ps from hm)] at h
                simp -implicitDefEqProofs only [t_steps_fault, ↓XB, XB, ↓XDm, XDm, ↓XRw, XRw, ↓XTx, XTx, ↓XC, XC, ↓XD, XD, ↓XT, XT, ↓XH, XH, ↓XA, XA, ↓XO, XO, ↓XL, XL, ↓XQE, XQE, ↓XW, XW, ↓XHd, XHd, ↓XP, ↓x_ifs, ↓XU, XU, XQ, eq_self, List.reverse_cons, List.reverse_nil, Int.cast_ofNat_Int, List.length_cons, List.length_nil, List.nil_append, List.cons_append, ne_eq, Nat.reduceAdd, Nat.reduceLeDiff, Int.reduceEq, Int.reduceLT, Int.reduceLE, Int.reduceToNat, Int.reducePow, Int.reduceAdd, Int.reduceMul, Int.reduceSub, Int.reduceNeg, List.getElem?_cons_zero, List.getElem?_cons_succ, dd_is_integer, hm]
                exact h
              · rw [if_neg (show ¬ pairOf (D.tup [.int a, .int b]) ∈ ps from hm)] at h
                simp -implicitDefEqProofs only [t_steps_fault, ↓XB, XB, ↓XDm, XDm, ↓XRw, XRw, ↓XTx, XTx, ↓XC, XC, ↓XD, XD, ↓XT, XT, ↓XH, XH, ↓XA, XA, ↓XO, XO, ↓XL, XL, ↓XQE, XQE, ↓XW, XW, ↓XHd, XHd, ↓XP, ↓x_ifs, ↓XU, XU, XQ, eq_self, List.reverse_cons, List.reverse_nil, Int.cast_ofNat_Int, List.length_cons, List.length_nil, List.nil_append, List.cons_append, ne_eq, Nat.reduceAdd, Nat.reduceLeDiff, Int.reduceEq, Int.reduceLT, Int.reduceLE, Int.reduceToNat, Int.reducePow, Int.reduceAdd, Int.reduceMul, Int.reduceSub, Int.reduceNeg, List.getElem?_cons_zero, List.getElem?_cons_succ, dd_is_integer, hm]
                refine hN _ ⟨ps ++ [(a, b)], re, _, _, ?_, ?_, fun p hp => ?_, h, rfl⟩
                · rw [e4, List.length_append, List.length_singleton]; rfl
                · rw [e2, List.map_append, List.append_assoc]; rfl
                · rcases List.mem_append.mp hp with hp | hp
                  · exact e3 p hp
                  · rw [List.mem_singleton] at hp; rw [hp]; exact hso
      · have c3 : (1 : Int) ≤ ds.length := by omega
        have c4 : ¬ (ds.length : Int) ≤ 4 := by omega
        rw [show faultD (.lst ds) = .tup [.non] by unfold faultD; simp only; rw [if_neg (fun z => c2 z.2)]] at h
        simp -implicitDefEqProofs only [t_steps_fault, ↓XB, XB, ↓XDm, XDm, ↓XRw, XRw, ↓XTx, XTx, ↓XC, XC, ↓XD, XD, ↓XT, XT, ↓XH, XH, ↓XA, XA, ↓XO, XO, ↓XL, XL, ↓XQE, XQE, ↓XW, XW, ↓XHd, XHd, ↓XP, ↓x_ifs, ↓XU, XU, XQ, eq_self, List.reverse_cons, List.reverse_nil, Int.cast_ofNat_Int, List.length_cons, List.length_nil, List.nil_append, List.cons_append, ne_eq, Nat.reduceAdd, Nat.reduceLeDiff, Int.reduceEq, Int.reduceLT, Int.reduceLE, Int.reduceToNat, Int.reducePow, Int.reduceAdd, Int.reduceMul, Int.reduceSub, Int.reduceNeg, List.getElem?_cons_zero, List.getElem?_cons_succ, dd_is_integer, c3, c4]
        exact h
    · have c3 : ¬ (1 : Int) ≤ ds.length := by omega
      rw [show faultD (.lst ds) = .tup [.non] by unfold faultD; simp only; rw [if_neg (fun z => c1 z.1)]] at h
      simp -implicitDefEqProofs only [t_steps_fault, ↓XB, XB, ↓XDm, XDm, ↓XRw, XRw, ↓XTx, XTx, ↓XC, XC, ↓XD, XD, ↓XT, XT, ↓XH, XH, ↓XA, XA, ↓XO, XO, ↓XL, XL, ↓XQE, XQE, ↓XW, XW, ↓XHd, XHd, ↓XP, ↓x_ifs, ↓XU, XU, XQ, eq_self, List.reverse_cons, List.reverse_nil, Int.cast_ofNat_Int, List.length_cons, List.length_nil, List.nil_append, List.cons_append, ne_eq, Nat.reduceAdd, Nat.reduceLeDiff, Int.reduceEq, Int.reduceLT, Int.reduceLE, Int.reduceToNat, Int.reducePow, Int.reduceAdd, Int.reduceMul, Int.reduceSub, Int.reduceNeg, List.getElem?_cons_zero, List.getElem?_cons_succ, dd_is_integer, c3]
      exact h
  · exact h.elim
theorem L_need_steps : ∀ n ds Q, S_need_steps n ds Q → ds.length = ps_need_steps.length := by
  intro n ds Q h
  unfold S_need_steps at h
  split at h <;> first | exact h.elim | rfl
set_option maxHeartbeats 0 in
theorem l_need_steps : ∀ n ds Q, S_need_steps n ds Q → t_need_steps (defE Q) (startG n N_need_steps ds) := by
  intro n ds Q h
  unfold S_need_steps at h
  split at h
  · rename_i d
    show t_need_steps (defE Q) ⟨[some (.dat (d)), none], n⟩
    obtain ⟨ok, hf, h⟩ := h
    simp -implicitDefEqProofs only [t_need_steps, ↓XB, XB, ↓XDm, XDm, ↓XRw, XRw, ↓XTx, XTx, ↓XC, XC, ↓XD, XD, ↓XT, XT, ↓XH, XH, ↓XA, XA, ↓XO, XO, ↓XL, XL, ↓XQE, XQE, ↓XW, XW, ↓XHd, XHd, ↓XP, ↓x_ifs, ↓XU, XU, XQ, eq_self, List.reverse_cons, List.reverse_nil, Int.cast_ofNat_Int, List.length_cons, List.length_nil, List.nil_append, List.cons_append, ne_eq, Nat.reduceAdd, Nat.reduceLeDiff, Int.reduceEq, Int.reduceLT, Int.reduceLE, Int.reduceToNat, Int.reducePow, Int.reduceAdd, Int.reduceMul, Int.reduceSub, Int.reduceNeg, List.getElem?_cons_zero, List.getElem?_cons_succ, dd_is_integer, ok, hf]
    refine q_tt0 ?_
    simp -implicitDefEqProofs only [t_need_steps, ↓XB, XB, ↓XDm, XDm, ↓XRw, XRw, ↓XTx, XTx, ↓XC, XC, ↓XD, XD, ↓XT, XT, ↓XH, XH, ↓XA, XA, ↓XO, XO, ↓XL, XL, ↓XQE, XQE, ↓XW, XW, ↓XHd, XHd, ↓XP, ↓x_ifs, ↓XU, XU, XQ, eq_self, List.reverse_cons, List.reverse_nil, Int.cast_ofNat_Int, List.length_cons, List.length_nil, List.nil_append, List.cons_append, ne_eq, Nat.reduceAdd, Nat.reduceLeDiff, Int.reduceEq, Int.reduceLT, Int.reduceLE, Int.reduceToNat, Int.reducePow, Int.reduceAdd, Int.reduceMul, Int.reduceSub, Int.reduceNeg, List.getElem?_cons_zero, List.getElem?_cons_succ, dd_is_integer]
    exact h
  · exact h.elim
theorem L_time_of : ∀ n ds Q, S_time_of n ds Q → ds.length = ps_time_of.length := by
  intro n ds Q h
  unfold S_time_of at h
  split at h <;> first | exact h.elim | rfl
set_option maxHeartbeats 0 in
theorem l_time_of : ∀ n ds Q, S_time_of n ds Q → t_time_of (defE Q) (startG n N_time_of ds) := by
  intro n ds Q h
  unfold S_time_of at h
  split at h
  · rename_i a b x y
    show t_time_of (defE Q) ⟨[some (.dat (.tup [.int a, .int b])), some (.dat (.tup [.int x, .int y]))], n⟩
    obtain ⟨⟨h1, h2, h3, h4⟩, h⟩ := h
    simp -implicitDefEqProofs only [t_time_of, ↓XB, XB, ↓XDm, XDm, ↓XRw, XRw, ↓XTx, XTx, ↓XC, XC, ↓XD, XD, ↓XT, XT, ↓XH, XH, ↓XA, XA, ↓XO, XO, ↓XL, XL, ↓XQE, XQE, ↓XW, XW, ↓XHd, XHd, ↓XP, ↓x_ifs, ↓XU, XU, XQ, eq_self, List.reverse_cons, List.reverse_nil, Int.cast_ofNat_Int, List.length_cons, List.length_nil, List.nil_append, List.cons_append, ne_eq, Nat.reduceAdd, Nat.reduceLeDiff, Int.reduceEq, Int.reduceLT, Int.reduceLE, Int.reduceToNat, Int.reducePow, Int.reduceAdd, Int.reduceMul, Int.reduceSub, Int.reduceNeg, List.getElem?_cons_zero, List.getElem?_cons_succ, dd_is_integer]
    exact ⟨cm h1 h3, cm h2 h4, h⟩
  · exact h.elim
theorem cells2 (n : Nat) {ns : List Int} (hn : 1 ≤ n) (hs : n ≤ 64) : (dSlc.cutV' (ns.map D.int ++ [D.int 0]) none (some (maxI 1 (minI (ns.length : Int) n)))).length ≤ n ∧ ∀ d ∈ dSlc.cutV' (ns.map D.int ++ [D.int 0]) none (some (maxI 1 (minI (ns.length : Int) n))), ∃ i, d = .int i := by
  obtain ⟨k, hk, hk2⟩ : ∃ k : Nat, maxI 1 (minI (ns.length : Int) n) = (k : Int) ∧ k ≤ n := ⟨(maxI 1 (minI (ns.length : Int) n)).toNat, by simp only [maxI_eq, minI_eq]; omega, by simp only [maxI_eq, minI_eq]; omega⟩
  rw [hk]
  refine ⟨?_, fun d hd => ?_⟩
  · unfold dSlc.cutV'
    rw [List.length_take]
    have e : ∀ l, HT.sIx l l (some (k : Int)) = min k l := fun l => HT.sIx_nat _ _ k
    rw [e]; omega
  · rcases List.mem_append.mp (cut_mem hd) with hd | hd
    · obtain ⟨i, _, rfl⟩ := List.mem_map.mp hd
      exact ⟨i, rfl⟩
    · exact ⟨0, List.mem_singleton.mp hd⟩
theorem add_sl {ns : List Int} {b : List D} {q : SV → Prop} : dAdd (.scr ns) (.lst b) q = (ns.length + b.length ≤ sizeLine ∧ q (.new (.lst (ns.map D.int ++ b)))) := rfl
theorem len_scr {ns : List Int} {q : SV → Prop} : dLen (.scr ns) q = q (.dat (.int ns.length)) := rfl
def comesP (p q : Int × Int) : Prop := 0 < dt p q ∨ (dt p q = 0 ∧ 0 < tim p q)
theorem sq_pos {p : Int × Int} (h : p ≠ (0, 0)) : 0 < tim p p := by
  obtain ⟨a, b⟩ := p
  show 0 < a * a + b * b
  have h1 : 0 ≤ a * a := by rcases Int.le_total 0 a with z | z; exact Int.mul_nonneg z z; exact Int.mul_nonneg_of_nonpos_of_nonpos z z
  have h2 : 0 ≤ b * b := by rcases Int.le_total 0 b with z | z; exact Int.mul_nonneg z z; exact Int.mul_nonneg_of_nonpos_of_nonpos z z
  by_cases za : a = 0
  · subst za
    have zb : b ≠ 0 := fun z => h (by rw [z])
    have : b * b ≠ 0 := Int.mul_ne_zero zb zb
    omega
  · have : a * a ≠ 0 := Int.mul_ne_zero za za
    omega
theorem mul_sign {a b c : Int} (e : a * b = c) (ha : 0 < a) (hc : 0 < c) : 0 < b := by
  rcases Int.lt_trichotomy b 0 with z | z | z
  · have := Int.mul_neg_of_pos_of_neg ha z; omega
  · subst z; omega
  · exact z
theorem mul_sign0 {a b c : Int} (e : a * b = c) (ha : 0 < a) (hc : 0 ≤ c) : 0 ≤ b := by
  rcases Int.lt_or_le b 0 with z | z
  · have := Int.mul_neg_of_pos_of_neg ha z; omega
  · exact z
theorem cp0 {f p : Int × Int} (h : comesP f p) : 0 ≤ dt f p := by unfold comesP at h; omega
theorem par_pos {f p q : Int × Int} (hp : p ≠ (0, 0)) (hq : q ≠ (0, 0)) (fp : comesP f p) (fq : comesP f q) (e : dt p q = 0) : 0 < tim p q := by
  have p2 := sq_pos hp
  have q2 := sq_pos hq
  have i1 : dt f q * tim p q = dt f p * tim q q + tim f q * dt p q := by unfold dt tim; grind
  have i2 : dt f q * tim p p = dt f p * tim p q + tim f p * dt p q := by unfold dt tim; grind
  have i3 : tim f f * tim p q = tim f p * tim f q + dt f p * dt f q := by unfold dt tim; grind
  rw [e, Int.mul_zero, Int.add_zero] at i1 i2
  have hp0 := cp0 fp
  have hq0 := cp0 fq
  by_cases zq : dt f q = 0
  · rw [zq, Int.zero_mul] at i1
    have zp : dt f p = 0 := by
      rcases Int.mul_eq_zero.mp i1.symm with z | z
      · exact z
      · omega
    have fp' : 0 < tim f p := by unfold comesP at fp; omega
    have fq' : 0 < tim f q := by unfold comesP at fq; omega
    rw [zp, Int.zero_mul, Int.add_zero] at i3
    have ff : 0 < tim f f := by
      refine sq_pos fun z => ?_
      subst z
      unfold tim at fp'
      simp at fp'
    exact mul_sign i3 ff (Int.mul_pos fp' fq')
  · by_cases zp : dt f p = 0
    · rw [zp, Int.zero_mul] at i2
      rcases Int.mul_eq_zero.mp i2 with z | z <;> omega
    · exact mul_sign i1 (by omega) (Int.mul_pos (by omega) q2)
theorem comes_of {f p q : Int × Int} (hp : p ≠ (0, 0)) (hq : q ≠ (0, 0)) (fp : comesP f p) (fq : comesP f q) (e : 0 ≤ dt p q) : comesP p q := by
  by_cases z : dt p q = 0
  · exact .inr ⟨z, par_pos hp hq fp fq z⟩
  · exact .inl (by omega)
theorem dt_swap {p q : Int × Int} : dt q p = - dt p q := by unfold dt; grind
theorem comes_trans {f a b c : Int × Int} (hf : f ≠ (0, 0)) (ha : a ≠ (0, 0)) (hc : c ≠ (0, 0)) (fa : comesP f a) (fb : comesP f b) (fc : comesP f c) (ab : comesP a b) (bc : comesP b c) : comesP a c := by
  refine comes_of ha hc fa fc ?_
  have f2 := sq_pos hf
  have a0 := cp0 fa
  have b0 := cp0 fb
  have c0 := cp0 fc
  have ab0 := cp0 ab
  have bc0 := cp0 bc
  have i1 : dt f b * dt a c = dt f a * dt b c + dt f c * dt a b := by unfold dt; grind
  have i2 : tim f f * dt a b = tim a f * dt f b - dt f a * tim f b := by unfold dt tim; grind
  have i3 : tim f f * dt a c = tim a f * dt f c - dt f a * tim f c := by unfold dt tim; grind
  by_cases zb : dt f b = 0
  · have tb : 0 < tim f b := by unfold comesP at fb; omega
    rw [zb, Int.mul_zero] at i2
    have h1 := Int.mul_nonneg (Int.le_of_lt f2) ab0
    have za : dt f a = 0 := by
      by_cases z : dt f a = 0
      · exact z
      · have := Int.mul_pos (show 0 < dt f a by omega) tb
        omega
    have ta : 0 < tim f a := by unfold comesP at fa; omega
    have ta' : 0 < tim a f := by unfold tim at ta ⊢; rw [Int.mul_comm a.1, Int.mul_comm a.2]; exact ta
    rw [za, Int.zero_mul, Int.sub_zero] at i3
    exact mul_sign0 i3 f2 (Int.mul_nonneg (by omega) c0)
  · refine mul_sign0 i1 (by omega) ?_
    have := Int.mul_nonneg a0 bc0
    have := Int.mul_nonneg c0 ab0
    omega
theorem last_ex {f : Int × Int} (hf : f ≠ (0, 0)) : ∀ {L : List (Int × Int)}, L ≠ [] → (∀ p ∈ L, p ≠ (0, 0)) → (∀ p ∈ L, comesP f p) → ∃ l ∈ L, ∀ o ∈ L, comesP o l
  | [], h, _, _ => absurd rfl h
  | [p], _, hz, hc => ⟨p, List.mem_singleton_self p, fun o ho => by
      rw [List.mem_singleton] at ho
      subst ho
      exact .inr ⟨by unfold dt; grind, sq_pos (hz _ (List.mem_singleton_self _))⟩⟩
  | p :: q :: L, _, hz, hc => by
    obtain ⟨l, hl, hall⟩ := last_ex hf (L := q :: L) (by simp) (fun x hx => hz x (List.mem_cons_of_mem _ hx)) (fun x hx => hc x (List.mem_cons_of_mem _ hx))
    have hl' := List.mem_cons_of_mem p hl
    have hp := List.mem_cons_self (a := p) (l := q :: L)
    have self : comesP p p := .inr ⟨by unfold dt; grind, sq_pos (hz _ hp)⟩
    rcases Int.le_total 0 (dt l p) with z | z
    · have lp := comes_of (hz l hl') (hz p hp) (hc l hl') (hc p hp) z
      refine ⟨p, hp, fun o ho => ?_⟩
      rcases List.mem_cons.mp ho with rfl | ho
      · exact self
      · have ho' := List.mem_cons_of_mem p ho
        exact comes_trans hf (hz o ho') (hz p hp) (hc o ho') (hc l hl') (hc p hp) (hall o ho) lp
    · have pl := comes_of (hz p hp) (hz l hl') (hc p hp) (hc l hl') (by rw [dt_swap]; omega)
      refine ⟨l, hl', fun o ho => ?_⟩
      rcases List.mem_cons.mp ho with rfl | ho
      · exact pl
      · exact hall o ho
theorem comesB_iff {p q : Int × Int} : comesB p q = true ↔ comesP p q := by unfold comesB comesP; simp
theorem lc_prs {vs : List Nat} {g : DG} {c : DT} {e : DE} {Qe : List D → Gm → Prop} {ms : List (Int × Int)} {G : Gm} (p : Int × Int → Bool) (f : Int × Int → D) (st : ∀ m ∈ ms, ∀ (k : D → Gm → Prop) (k' : Gm → Prop), (if p m = true then k (f m) G else k' G) → lcT vs g c e (.tup [.int m.1, .int m.2]) G k k')
    (q : Qe ((ms.filter p).map f) G) : lcL vs g c e Qe (ms.map prD) [] G := by
  refine lc_map (f := fun d => if p (pairOf d) = true then some (f (pairOf d)) else none) (fun d hd k k' h => ?_) ?_
  · obtain ⟨m, hm, rfl⟩ := List.mem_map.mp hd
    refine st m hm k k' ?_
    have h : (match (if p m = true then some (f m) else none) with | some y => k y G | none => k' G) := h
    by_cases hb : p m = true
    · rw [if_pos hb]; rw [if_pos hb] at h; exact h
    · rw [if_neg hb]; rw [if_neg hb] at h; exact h
  · rw [List.nil_append]
    have e : (ms.map prD).filterMap (fun d => if p (pairOf d) = true then some (f (pairOf d)) else none) = (ms.filter p).map f := by
      clear q st
      induction ms with
      | nil => rfl
      | cons m ms ih =>
        rw [List.map_cons, List.filterMap_cons, ih]
        rw [show pairOf (prD m) = m from rfl]
        by_cases hb : p m = true
        · rw [List.filter_cons, if_pos hb, if_pos hb, List.map_cons]
        · rw [List.filter_cons, if_neg hb, if_neg hb]
    rw [e]; exact q
theorem lc_prs1 {vs : List Nat} {g : DG} {c : DT} {e : DE} {Qe : List D → Gm → Prop} {ms : List (Int × Int)} {G : Gm} (f : Int × Int → D) (st : ∀ m ∈ ms, ∀ (k : D → Gm → Prop) (k' : Gm → Prop), k (f m) G → lcT vs g c e (.tup [.int m.1, .int m.2]) G k k')
    (q : Qe (ms.map f) G) : lcL vs g c e Qe (ms.map prD) [] G := by
  refine lc_prs (fun _ => true) f (fun m hm k k' h => st m hm k k' h) ?_
  rw [List.filter_eq_self.mpr (fun _ _ => rfl)]; exact q
theorem all_prs {ms : List (Int × Int)} {f : Int × Int → Bool} {q : SV → Prop} (h : q (.dat (.bl (ms.all f)))) : dAll (.lst (ms.map fun p => D.bl (f p))) q := by
  rw [b_all (ns := ms.map f) (by rw [List.map_map]; rfl), List.all_map]
  exact h
theorem plP {ps : List (Int × Int)} : Pl 20 (.lst (ps.map fun p => D.tup [.int p.1, .int p.2])) := pl_prs2 (n := 18)
theorem q_cons {p : Int × Int} {ps : List (Int × Int)} {f : Bool → Prop} (h : f false) : eqQ (.lst (D.tup [.int p.1, .int p.2] :: ps.map fun p => D.tup [.int p.1, .int p.2])) (.lst []) f := by
  have e : eqD (.lst (D.tup [.int p.1, .int p.2] :: ps.map fun p => D.tup [.int p.1, .int p.2])) (.lst []) = false := by
    unfold eqD; simp [toPy, toPys, PyData.eqv, PyData.eqvAll]
  show Pl 20 _ ∧ Pl 20 _ ∧ f (eqD _ _)
  rw [e]
  exact ⟨plP (ps := p :: ps), fun d hd => (by cases hd), h⟩
theorem L_det : ∀ n ds Q, S_det n ds Q → ds.length = ps_det.length := by
  intro n ds Q h
  unfold S_det at h
  split at h <;> first | exact h.elim | rfl
set_option maxHeartbeats 0 in
theorem l_det : ∀ n ds Q, S_det n ds Q → t_det (defE Q) (startG n N_det ds) := by
  intro n ds Q h
  unfold S_det at h
  split at h
  · rename_i a b x y
    show t_det (defE Q) ⟨[some (.dat (.tup [.int a, .int b])), some (.dat (.tup [.int x, .int y]))], n⟩
    obtain ⟨⟨h1, h2, h3, h4⟩, h⟩ := h
    simp -implicitDefEqProofs only [t_det, ↓XB, XB, ↓XDm, XDm, ↓XRw, XRw, ↓XTx, XTx, ↓XC, XC, ↓XD, XD, ↓XT, XT, ↓XH, XH, ↓XA, XA, ↓XO, XO, ↓XL, XL, ↓XQE, XQE, ↓XW, XW, ↓XHd, XHd, ↓XP, ↓x_ifs, ↓XU, XU, XQ, eq_self, List.reverse_cons, List.reverse_nil, Int.cast_ofNat_Int, List.length_cons, List.length_nil, List.nil_append, List.cons_append, ne_eq, Nat.reduceAdd, Nat.reduceLeDiff, Int.reduceEq, Int.reduceLT, Int.reduceLE, Int.reduceToNat, Int.reducePow, Int.reduceAdd, Int.reduceMul, Int.reduceSub, Int.reduceNeg, List.getElem?_cons_zero, List.getElem?_cons_succ, dd_is_integer]
    exact ⟨cm h1 h4, cm h2 h3, h⟩
  · exact h.elim
theorem L_comes_on : ∀ n ds Q, S_comes_on n ds Q → ds.length = ps_comes_on.length := by
  intro n ds Q h
  unfold S_comes_on at h
  split at h <;> first | exact h.elim | rfl
set_option maxHeartbeats 0 in
theorem l_comes_on : ∀ n ds Q, S_comes_on n ds Q → t_comes_on (defE Q) (startG n N_comes_on ds) := by
  intro n ds Q h
  unfold S_comes_on at h
  split at h
  · rename_i a b x y
    show t_comes_on (defE Q) ⟨[some (.dat (.tup [.int a, .int b])), some (.dat (.tup [.int x, .int y])), none], n⟩
    obtain ⟨⟨h1, h2, h3, h4⟩, h⟩ := h
    have h : Q (.dat (.bl (decide (0 < dt (a, b) (x, y)) || (decide (dt (a, b) (x, y) = 0) && decide (0 < tim (a, b) (x, y)))))) n := h
    by_cases c1 : dt (a, b) (x, y) > 0
    · have c2 : 0 < dt (a, b) (x, y) := c1
      rw [decide_eq_true c2, Bool.true_or] at h
      simp -implicitDefEqProofs only [t_comes_on, ↓XB, XB, ↓XDm, XDm, ↓XRw, XRw, ↓XTx, XTx, ↓XC, XC, ↓XD, XD, ↓XT, XT, ↓XH, XH, ↓XA, XA, ↓XO, XO, ↓XL, XL, ↓XQE, XQE, ↓XW, XW, ↓XHd, XHd, ↓XP, ↓x_ifs, ↓XU, XU, XQ, eq_self, List.reverse_cons, List.reverse_nil, Int.cast_ofNat_Int, List.length_cons, List.length_nil, List.nil_append, List.cons_append, ne_eq, Nat.reduceAdd, Nat.reduceLeDiff, Int.reduceEq, Int.reduceLT, Int.reduceLE, Int.reduceToNat, Int.reducePow, Int.reduceAdd, Int.reduceMul, Int.reduceSub, Int.reduceNeg, List.getElem?_cons_zero, List.getElem?_cons_succ, dd_is_integer, c1, c2]
      exact ⟨⟨h1, h2, h3, h4⟩, h⟩
    · have c2 : ¬ 0 < dt (a, b) (x, y) := c1
      rw [decide_eq_false c2, Bool.false_or] at h
      by_cases c3 : dt (a, b) (x, y) = 0
      · rw [decide_eq_true c3, Bool.true_and] at h
        simp -implicitDefEqProofs only [t_comes_on, ↓XB, XB, ↓XDm, XDm, ↓XRw, XRw, ↓XTx, XTx, ↓XC, XC, ↓XD, XD, ↓XT, XT, ↓XH, XH, ↓XA, XA, ↓XO, XO, ↓XL, XL, ↓XQE, XQE, ↓XW, XW, ↓XHd, XHd, ↓XP, ↓x_ifs, ↓XU, XU, XQ, eq_self, List.reverse_cons, List.reverse_nil, Int.cast_ofNat_Int, List.length_cons, List.length_nil, List.nil_append, List.cons_append, ne_eq, Nat.reduceAdd, Nat.reduceLeDiff, Int.reduceEq, Int.reduceLT, Int.reduceLE, Int.reduceToNat, Int.reducePow, Int.reduceAdd, Int.reduceMul, Int.reduceSub, Int.reduceNeg, List.getElem?_cons_zero, List.getElem?_cons_succ, dd_is_integer, c1, c2, c3]
        exact ⟨⟨h1, h2, h3, h4⟩, ⟨h1, h2, h3, h4⟩, h⟩
      · rw [decide_eq_false c3, Bool.false_and] at h
        simp -implicitDefEqProofs only [t_comes_on, ↓XB, XB, ↓XDm, XDm, ↓XRw, XRw, ↓XTx, XTx, ↓XC, XC, ↓XD, XD, ↓XT, XT, ↓XH, XH, ↓XA, XA, ↓XO, XO, ↓XL, XL, ↓XQE, XQE, ↓XW, XW, ↓XHd, XHd, ↓XP, ↓x_ifs, ↓XU, XU, XQ, eq_self, List.reverse_cons, List.reverse_nil, Int.cast_ofNat_Int, List.length_cons, List.length_nil, List.nil_append, List.cons_append, ne_eq, Nat.reduceAdd, Nat.reduceLeDiff, Int.reduceEq, Int.reduceLT, Int.reduceLE, Int.reduceToNat, Int.reducePow, Int.reduceAdd, Int.reduceMul, Int.reduceSub, Int.reduceNeg, List.getElem?_cons_zero, List.getElem?_cons_succ, dd_is_integer, c1, c2, c3]
        exact ⟨⟨h1, h2, h3, h4⟩, h⟩
  · exact h.elim
theorem L_outermost : ∀ n ds Q, S_outermost n ds Q → ds.length = ps_outermost.length := by
  intro n ds Q h
  unfold S_outermost at h
  split at h <;> first | exact h.elim | rfl
set_option maxHeartbeats 0 in
theorem l_outermost : ∀ n ds Q, S_outermost n ds Q → t_outermost (defE Q) (startG n N_outermost ds) := by
  intro n ds Q h
  unfold S_outermost at h
  split at h
  · rename_i ds
    show t_outermost (defE Q) ⟨[some (.dat (.lst ds)), none, none, none, none], n⟩
    obtain ⟨ps, rfl, ⟨p1, p2, p3⟩, h⟩ := h
    have sm : ∀ p ∈ ps, p.1.natAbs < 10 ^ 300 ∧ p.2.natAbs < 10 ^ 300 := fun p hp => by
      have := (p3 p hp).1
      unfold spotOk at this
      omega
    simp -implicitDefEqProofs only [t_outermost, ↓XB, XB, ↓XDm, XDm, ↓XRw, XRw, ↓XTx, XTx, ↓XC, XC, ↓XD, XD, ↓XT, XT, ↓XH, XH, ↓XA, XA, ↓XO, XO, ↓XL, XL, ↓XQE, XQE, ↓XW, XW, ↓XHd, XHd, ↓XP, ↓x_ifs, ↓XU, XU, XQ, eq_self, List.reverse_cons, List.reverse_nil, Int.cast_ofNat_Int, List.length_cons, List.length_nil, List.nil_append, List.cons_append, ne_eq, Nat.reduceAdd, Nat.reduceLeDiff, Int.reduceEq, Int.reduceLT, Int.reduceLE, Int.reduceToNat, Int.reducePow, Int.reduceAdd, Int.reduceMul, Int.reduceSub, Int.reduceNeg, List.getElem?_cons_zero, List.getElem?_cons_succ, dd_is_integer]
    refine ⟨by rw [List.length_map]; exact Nat.le_trans (m := 20) (by omega) (by decide), ?_⟩
    refine lc_prs (fun p => ps.all fun q => comesB p q) (fun p => .tup [.int p.1, .int p.2]) (fun m hm k k' h => ?_) ?_
    · simp -implicitDefEqProofs only [t_outermost, ↓XB, XB, ↓XDm, XDm, ↓XRw, XRw, ↓XTx, XTx, ↓XC, XC, ↓XD, XD, ↓XT, XT, ↓XH, XH, ↓XA, XA, ↓XO, XO, ↓XL, XL, ↓XQE, XQE, ↓XW, XW, ↓XHd, XHd, ↓XP, ↓x_ifs, ↓XU, XU, XQ, eq_self, List.reverse_cons, List.reverse_nil, Int.cast_ofNat_Int, List.length_cons, List.length_nil, List.nil_append, List.cons_append, ne_eq, Nat.reduceAdd, Nat.reduceLeDiff, Int.reduceEq, Int.reduceLT, Int.reduceLE, Int.reduceToNat, Int.reducePow, Int.reduceAdd, Int.reduceMul, Int.reduceSub, Int.reduceNeg, List.getElem?_cons_zero, List.getElem?_cons_succ, dd_is_integer]
      refine ⟨by rw [List.length_map]; exact Nat.le_trans (m := 20) (by omega) (by decide), ?_⟩
      refine lc_prs1 (fun q => .bl (comesB m q)) (fun o ho k k' h => ?_) ?_
      · simp -implicitDefEqProofs only [t_outermost, ↓XB, XB, ↓XDm, XDm, ↓XRw, XRw, ↓XTx, XTx, ↓XC, XC, ↓XD, XD, ↓XT, XT, ↓XH, XH, ↓XA, XA, ↓XO, XO, ↓XL, XL, ↓XQE, XQE, ↓XW, XW, ↓XHd, XHd, ↓XP, ↓x_ifs, ↓XU, XU, XQ, eq_self, List.reverse_cons, List.reverse_nil, Int.cast_ofNat_Int, List.length_cons, List.length_nil, List.nil_append, List.cons_append, ne_eq, Nat.reduceAdd, Nat.reduceLeDiff, Int.reduceEq, Int.reduceLT, Int.reduceLE, Int.reduceToNat, Int.reducePow, Int.reduceAdd, Int.reduceMul, Int.reduceSub, Int.reduceNeg, List.getElem?_cons_zero, List.getElem?_cons_succ, dd_is_integer]
        exact ⟨⟨(sm m hm).1, (sm m hm).2, (sm o ho).1, (sm o ho).2⟩, h⟩
      · try (simp -implicitDefEqProofs only [t_outermost, ↓XB, XB, ↓XDm, XDm, ↓XRw, XRw, ↓XTx, XTx, ↓XC, XC, ↓XD, XD, ↓XT, XT, ↓XH, XH, ↓XA, XA, ↓XO, XO, ↓XL, XL, ↓XQE, XQE, ↓XW, XW, ↓XHd, XHd, ↓XP, ↓x_ifs, ↓XU, XU, XQ, eq_self, List.reverse_cons, List.reverse_nil, Int.cast_ofNat_Int, List.length_cons, List.length_nil, List.nil_append, List.cons_append, ne_eq, Nat.reduceAdd, Nat.reduceLeDiff, Int.reduceEq, Int.reduceLT, Int.reduceLE, Int.reduceToNat, Int.reducePow, Int.reduceAdd, Int.reduceMul, Int.reduceSub, Int.reduceNeg, List.getElem?_cons_zero, List.getElem?_cons_succ, dd_is_integer])
        refine all_prs ?_
        simp -implicitDefEqProofs only [t_outermost, ↓XB, XB, ↓XDm, XDm, ↓XRw, XRw, ↓XTx, XTx, ↓XC, XC, ↓XD, XD, ↓XT, XT, ↓XH, XH, ↓XA, XA, ↓XO, XO, ↓XL, XL, ↓XQE, XQE, ↓XW, XW, ↓XHd, XHd, ↓XP, ↓x_ifs, ↓XU, XU, XQ, eq_self, List.reverse_cons, List.reverse_nil, Int.cast_ofNat_Int, List.length_cons, List.length_nil, List.nil_append, List.cons_append, ne_eq, Nat.reduceAdd, Nat.reduceLeDiff, Int.reduceEq, Int.reduceLT, Int.reduceLE, Int.reduceToNat, Int.reducePow, Int.reduceAdd, Int.reduceMul, Int.reduceSub, Int.reduceNeg, List.getElem?_cons_zero, List.getElem?_cons_succ, dd_is_integer]
        exact h
    simp -implicitDefEqProofs only [t_outermost, ↓XB, XB, ↓XDm, XDm, ↓XRw, XRw, ↓XTx, XTx, ↓XC, XC, ↓XD, XD, ↓XT, XT, ↓XH, XH, ↓XA, XA, ↓XO, XO, ↓XL, XL, ↓XQE, XQE, ↓XW, XW, ↓XHd, XHd, ↓XP, ↓x_ifs, ↓XU, XU, XQ, eq_self, List.reverse_cons, List.reverse_nil, Int.cast_ofNat_Int, List.length_cons, List.length_nil, List.nil_append, List.cons_append, ne_eq, Nat.reduceAdd, Nat.reduceLeDiff, Int.reduceEq, Int.reduceLT, Int.reduceLE, Int.reduceToNat, Int.reducePow, Int.reduceAdd, Int.reduceMul, Int.reduceSub, Int.reduceNeg, List.getElem?_cons_zero, List.getElem?_cons_succ, dd_is_integer]
    refine ⟨by rw [List.length_map]; exact Nat.le_trans (m := 20) (by omega) (by decide), ?_⟩
    refine lc_prs (fun p => ps.all fun q => comesB q p) (fun p => .tup [.int p.1, .int p.2]) (fun m hm k k' h => ?_) ?_
    · simp -implicitDefEqProofs only [t_outermost, ↓XB, XB, ↓XDm, XDm, ↓XRw, XRw, ↓XTx, XTx, ↓XC, XC, ↓XD, XD, ↓XT, XT, ↓XH, XH, ↓XA, XA, ↓XO, XO, ↓XL, XL, ↓XQE, XQE, ↓XW, XW, ↓XHd, XHd, ↓XP, ↓x_ifs, ↓XU, XU, XQ, eq_self, List.reverse_cons, List.reverse_nil, Int.cast_ofNat_Int, List.length_cons, List.length_nil, List.nil_append, List.cons_append, ne_eq, Nat.reduceAdd, Nat.reduceLeDiff, Int.reduceEq, Int.reduceLT, Int.reduceLE, Int.reduceToNat, Int.reducePow, Int.reduceAdd, Int.reduceMul, Int.reduceSub, Int.reduceNeg, List.getElem?_cons_zero, List.getElem?_cons_succ, dd_is_integer]
      refine ⟨by rw [List.length_map]; exact Nat.le_trans (m := 20) (by omega) (by decide), ?_⟩
      refine lc_prs1 (fun q => .bl (comesB q m)) (fun o ho k k' h => ?_) ?_
      · simp -implicitDefEqProofs only [t_outermost, ↓XB, XB, ↓XDm, XDm, ↓XRw, XRw, ↓XTx, XTx, ↓XC, XC, ↓XD, XD, ↓XT, XT, ↓XH, XH, ↓XA, XA, ↓XO, XO, ↓XL, XL, ↓XQE, XQE, ↓XW, XW, ↓XHd, XHd, ↓XP, ↓x_ifs, ↓XU, XU, XQ, eq_self, List.reverse_cons, List.reverse_nil, Int.cast_ofNat_Int, List.length_cons, List.length_nil, List.nil_append, List.cons_append, ne_eq, Nat.reduceAdd, Nat.reduceLeDiff, Int.reduceEq, Int.reduceLT, Int.reduceLE, Int.reduceToNat, Int.reducePow, Int.reduceAdd, Int.reduceMul, Int.reduceSub, Int.reduceNeg, List.getElem?_cons_zero, List.getElem?_cons_succ, dd_is_integer]
        exact ⟨⟨(sm o ho).1, (sm o ho).2, (sm m hm).1, (sm m hm).2⟩, h⟩
      · try (simp -implicitDefEqProofs only [t_outermost, ↓XB, XB, ↓XDm, XDm, ↓XRw, XRw, ↓XTx, XTx, ↓XC, XC, ↓XD, XD, ↓XT, XT, ↓XH, XH, ↓XA, XA, ↓XO, XO, ↓XL, XL, ↓XQE, XQE, ↓XW, XW, ↓XHd, XHd, ↓XP, ↓x_ifs, ↓XU, XU, XQ, eq_self, List.reverse_cons, List.reverse_nil, Int.cast_ofNat_Int, List.length_cons, List.length_nil, List.nil_append, List.cons_append, ne_eq, Nat.reduceAdd, Nat.reduceLeDiff, Int.reduceEq, Int.reduceLT, Int.reduceLE, Int.reduceToNat, Int.reducePow, Int.reduceAdd, Int.reduceMul, Int.reduceSub, Int.reduceNeg, List.getElem?_cons_zero, List.getElem?_cons_succ, dd_is_integer])
        refine all_prs ?_
        simp -implicitDefEqProofs only [t_outermost, ↓XB, XB, ↓XDm, XDm, ↓XRw, XRw, ↓XTx, XTx, ↓XC, XC, ↓XD, XD, ↓XT, XT, ↓XH, XH, ↓XA, XA, ↓XO, XO, ↓XL, XL, ↓XQE, XQE, ↓XW, XW, ↓XHd, XHd, ↓XP, ↓x_ifs, ↓XU, XU, XQ, eq_self, List.reverse_cons, List.reverse_nil, Int.cast_ofNat_Int, List.length_cons, List.length_nil, List.nil_append, List.cons_append, ne_eq, Nat.reduceAdd, Nat.reduceLeDiff, Int.reduceEq, Int.reduceLT, Int.reduceLE, Int.reduceToNat, Int.reducePow, Int.reduceAdd, Int.reduceMul, Int.reduceSub, Int.reduceNeg, List.getElem?_cons_zero, List.getElem?_cons_succ, dd_is_integer]
        exact h
    unfold outE at h
    change Q (.dat (outD (match firstsL ps, lastsL ps with | f :: _, l :: _ => some (f, l) | _, _ => none))) n at h
    have e1 : (ps.filter fun p => ps.all fun q => comesB p q) = firstsL ps := rfl
    have e2 : (ps.filter fun p => ps.all fun q => comesB q p) = lastsL ps := rfl
    rw [e1, e2]
    have hex : firstsL ps ≠ [] → lastsL ps ≠ [] := fun hne => by
      obtain ⟨f, hf⟩ := List.exists_mem_of_ne_nil _ hne
      obtain ⟨hf1, hf2⟩ := List.mem_filter.mp hf
      have nz : ∀ p ∈ ps, p ≠ (0, 0) := fun p hp z => by
        have := (p3 p hp).2
        rw [z] at this
        exact this ⟨rfl, rfl⟩
      obtain ⟨l, hl1, hl2⟩ := last_ex (f := f) (nz f hf1) (L := ps) (List.ne_nil_of_mem hf1) nz (fun p hp => comesB_iff.mp (List.all_eq_true.mp hf2 p hp))
      exact List.ne_nil_of_mem (List.mem_filter.mpr ⟨hl1, List.all_eq_true.mpr fun o ho => comesB_iff.mpr (hl2 o ho)⟩)
    cases hF : firstsL ps with
    | nil =>
      rw [hF] at h
      have h : Q (.dat .non) n := h
      simp -implicitDefEqProofs only [t_outermost, ↓XB, XB, ↓XDm, XDm, ↓XRw, XRw, ↓XTx, XTx, ↓XC, XC, ↓XD, XD, ↓XT, XT, ↓XH, XH, ↓XA, XA, ↓XO, XO, ↓XL, XL, ↓XQE, XQE, ↓XW, XW, ↓XHd, XHd, ↓XP, ↓x_ifs, ↓XU, XU, XQ, eq_self, List.reverse_cons, List.reverse_nil, Int.cast_ofNat_Int, List.length_cons, List.length_nil, List.nil_append, List.cons_append, ne_eq, Nat.reduceAdd, Nat.reduceLeDiff, Int.reduceEq, Int.reduceLT, Int.reduceLE, Int.reduceToNat, Int.reducePow, Int.reduceAdd, Int.reduceMul, Int.reduceSub, Int.reduceNeg, List.getElem?_cons_zero, List.getElem?_cons_succ, dd_is_integer, List.map_nil, q_00]
      exact h
    | cons f r =>
      cases hL : lastsL ps with
      | nil => exact absurd hL (hex (by rw [hF]; simp))
      | cons l s =>
        rw [hF, hL] at h
        have h : Q (.dat (.tup [.tup [.int f.1, .int f.2], .tup [.int l.1, .int l.2]])) n := h
        rw [List.map_cons, List.map_cons]
        simp -implicitDefEqProofs only [t_outermost, ↓XB, XB, ↓XDm, XDm, ↓XRw, XRw, ↓XTx, XTx, ↓XC, XC, ↓XD, XD, ↓XT, XT, ↓XH, XH, ↓XA, XA, ↓XO, XO, ↓XL, XL, ↓XQE, XQE, ↓XW, XW, ↓XHd, XHd, ↓XP, ↓x_ifs, ↓XU, XU, XQ, eq_self, List.reverse_cons, List.reverse_nil, Int.cast_ofNat_Int, List.length_cons, List.length_nil, List.nil_append, List.cons_append, ne_eq, Nat.reduceAdd, Nat.reduceLeDiff, Int.reduceEq, Int.reduceLT, Int.reduceLE, Int.reduceToNat, Int.reducePow, Int.reduceAdd, Int.reduceMul, Int.reduceSub, Int.reduceNeg, List.getElem?_cons_zero, List.getElem?_cons_succ, dd_is_integer]
        refine q_cons ?_
        simp -implicitDefEqProofs only [t_outermost, ↓XB, XB, ↓XDm, XDm, ↓XRw, XRw, ↓XTx, XTx, ↓XC, XC, ↓XD, XD, ↓XT, XT, ↓XH, XH, ↓XA, XA, ↓XO, XO, ↓XL, XL, ↓XQE, XQE, ↓XW, XW, ↓XHd, XHd, ↓XP, ↓x_ifs, ↓XU, XU, XQ, eq_self, List.reverse_cons, List.reverse_nil, Int.cast_ofNat_Int, List.length_cons, List.length_nil, List.nil_append, List.cons_append, ne_eq, Nat.reduceAdd, Nat.reduceLeDiff, Int.reduceEq, Int.reduceLT, Int.reduceLE, Int.reduceToNat, Int.reducePow, Int.reduceAdd, Int.reduceMul, Int.reduceSub, Int.reduceNeg, List.getElem?_cons_zero, List.getElem?_cons_succ, dd_is_integer]
        exact h
  · exact h.elim
theorem L_middle_line : ∀ n ds Q, S_middle_line n ds Q → ds.length = ps_middle_line.length := by
  intro n ds Q h
  unfold S_middle_line at h
  split at h <;> first | exact h.elim | rfl
set_option maxHeartbeats 0 in
theorem l_middle_line : ∀ n ds Q, S_middle_line n ds Q → t_middle_line (defE Q) (startG n N_middle_line ds) := by
  intro n ds Q h
  unfold S_middle_line at h
  split at h
  · rename_i a b x y
    show t_middle_line (defE Q) ⟨[some (.dat (.tup [.int a, .int b])), some (.dat (.tup [.int x, .int y]))], n⟩
    obtain ⟨⟨h1, h2, h3, h4⟩, h⟩ := h
    unfold midL at h
    by_cases c : dt (a, b) (x, y) = 0
    · rw [if_pos c] at h
      simp -implicitDefEqProofs only [t_middle_line, ↓XB, XB, ↓XDm, XDm, ↓XRw, XRw, ↓XTx, XTx, ↓XC, XC, ↓XD, XD, ↓XT, XT, ↓XH, XH, ↓XA, XA, ↓XO, XO, ↓XL, XL, ↓XQE, XQE, ↓XW, XW, ↓XHd, XHd, ↓XP, ↓x_ifs, ↓XU, XU, XQ, eq_self, List.reverse_cons, List.reverse_nil, Int.cast_ofNat_Int, List.length_cons, List.length_nil, List.nil_append, List.cons_append, ne_eq, Nat.reduceAdd, Nat.reduceLeDiff, Int.reduceEq, Int.reduceLT, Int.reduceLE, Int.reduceToNat, Int.reducePow, Int.reduceAdd, Int.reduceMul, Int.reduceSub, Int.reduceNeg, List.getElem?_cons_zero, List.getElem?_cons_succ, dd_is_integer, c]
      exact ⟨⟨h1, h2, h3, h4⟩, h⟩
    · rw [if_neg c] at h
      simp -implicitDefEqProofs only [t_middle_line, ↓XB, XB, ↓XDm, XDm, ↓XRw, XRw, ↓XTx, XTx, ↓XC, XC, ↓XD, XD, ↓XT, XT, ↓XH, XH, ↓XA, XA, ↓XO, XO, ↓XL, XL, ↓XQE, XQE, ↓XW, XW, ↓XHd, XHd, ↓XP, ↓x_ifs, ↓XU, XU, XQ, eq_self, List.reverse_cons, List.reverse_nil, Int.cast_ofNat_Int, List.length_cons, List.length_nil, List.nil_append, List.cons_append, ne_eq, Nat.reduceAdd, Nat.reduceLeDiff, Int.reduceEq, Int.reduceLT, Int.reduceLE, Int.reduceToNat, Int.reducePow, Int.reduceAdd, Int.reduceMul, Int.reduceSub, Int.reduceNeg, List.getElem?_cons_zero, List.getElem?_cons_succ, dd_is_integer, c]
      exact ⟨⟨h1, h2, h3, h4⟩, h⟩
  · exact h.elim
theorem L_line_over : ∀ n ds Q, S_line_over n ds Q → ds.length = ps_line_over.length := by
  intro n ds Q h
  unfold S_line_over at h
  split at h <;> first | exact h.elim | rfl
set_option maxHeartbeats 0 in
theorem l_line_over : ∀ n ds Q, S_line_over n ds Q → t_line_over (defE Q) (startG n N_line_over ds) := by
  intro n ds Q h
  unfold S_line_over at h
  split at h
  · rename_i ds
    show t_line_over (defE Q) ⟨[some (.dat (.lst ds)), none], n⟩
    obtain ⟨ps, rfl, hp, h⟩ := h
    simp -implicitDefEqProofs only [t_line_over, ↓XB, XB, ↓XDm, XDm, ↓XRw, XRw, ↓XTx, XTx, ↓XC, XC, ↓XD, XD, ↓XT, XT, ↓XH, XH, ↓XA, XA, ↓XO, XO, ↓XL, XL, ↓XQE, XQE, ↓XW, XW, ↓XHd, XHd, ↓XP, ↓x_ifs, ↓XU, XU, XQ, eq_self, List.reverse_cons, List.reverse_nil, Int.cast_ofNat_Int, List.length_cons, List.length_nil, List.nil_append, List.cons_append, ne_eq, Nat.reduceAdd, Nat.reduceLeDiff, Int.reduceEq, Int.reduceLT, Int.reduceLE, Int.reduceToNat, Int.reducePow, Int.reduceAdd, Int.reduceMul, Int.reduceSub, Int.reduceNeg, List.getElem?_cons_zero, List.getElem?_cons_succ, dd_is_integer]
    refine ⟨ps, rfl, hp, ?_⟩
    unfold lineO at h
    cases ho : outE ps with
    | none =>
      rw [ho] at h
      simp -implicitDefEqProofs only [t_line_over, ↓XB, XB, ↓XDm, XDm, ↓XRw, XRw, ↓XTx, XTx, ↓XC, XC, ↓XD, XD, ↓XT, XT, ↓XH, XH, ↓XA, XA, ↓XO, XO, ↓XL, XL, ↓XQE, XQE, ↓XW, XW, ↓XHd, XHd, ↓XP, ↓x_ifs, ↓XU, XU, XQ, eq_self, List.reverse_cons, List.reverse_nil, Int.cast_ofNat_Int, List.length_cons, List.length_nil, List.nil_append, List.cons_append, ne_eq, Nat.reduceAdd, Nat.reduceLeDiff, Int.reduceEq, Int.reduceLT, Int.reduceLE, Int.reduceToNat, Int.reducePow, Int.reduceAdd, Int.reduceMul, Int.reduceSub, Int.reduceNeg, List.getElem?_cons_zero, List.getElem?_cons_succ, dd_is_integer, outD, optD]
      exact h
    | some e =>
      obtain ⟨f, l⟩ := e
      rw [ho] at h
      have hfl : f ∈ ps ∧ l ∈ ps := by
        unfold outE at ho
        split at ho
        · rename_i h1 h2
          cases ho
          exact ⟨(List.mem_filter.mp (by show _ ∈ firstsL ps; rw [h1]; exact List.mem_cons_self)).1, (List.mem_filter.mp (by show _ ∈ lastsL ps; rw [h2]; exact List.mem_cons_self)).1⟩
        · cases ho
      have sf := (hp.2.2 f hfl.1).1
      have sl := (hp.2.2 l hfl.2).1
      unfold spotOk at sf sl
      simp -implicitDefEqProofs only [t_line_over, ↓XB, XB, ↓XDm, XDm, ↓XRw, XRw, ↓XTx, XTx, ↓XC, XC, ↓XD, XD, ↓XT, XT, ↓XH, XH, ↓XA, XA, ↓XO, XO, ↓XL, XL, ↓XQE, XQE, ↓XW, XW, ↓XHd, XHd, ↓XP, ↓x_ifs, ↓XU, XU, XQ, eq_self, List.reverse_cons, List.reverse_nil, Int.cast_ofNat_Int, List.length_cons, List.length_nil, List.nil_append, List.cons_append, ne_eq, Nat.reduceAdd, Nat.reduceLeDiff, Int.reduceEq, Int.reduceLT, Int.reduceLE, Int.reduceToNat, Int.reducePow, Int.reduceAdd, Int.reduceMul, Int.reduceSub, Int.reduceNeg, List.getElem?_cons_zero, List.getElem?_cons_succ, dd_is_integer, outD, optD]
      exact ⟨⟨by omega, by omega, by omega, by omega⟩, h⟩
  · exact h.elim
theorem out_mem {ps : List (Int × Int)} {f l : Int × Int} (ho : outE ps = some (f, l)) : f ∈ firstsL ps ∧ l ∈ lastsL ps := by
  unfold outE at ho
  split at ho
  · rename_i h1 h2
    cases ho
    exact ⟨by rw [h1]; exact List.mem_cons_self, by rw [h2]; exact List.mem_cons_self⟩
  · cases ho
theorem line_big {ps : List (Int × Int)} {q : Int × Int} (hp : PlacesOk ps) (h : lineO ps = some q) : q.1.natAbs < 10 ^ 90 ∧ q.2.natAbs < 10 ^ 90 := by
  unfold lineO at h
  cases ho : outE ps with
  | none => rw [ho] at h; cases h
  | some e =>
    obtain ⟨f, l⟩ := e
    rw [ho] at h
    obtain ⟨h1, h2⟩ := out_mem ho
    have sf := (hp.2.2 f (List.mem_filter.mp h1).1).1
    have sl := (hp.2.2 l (List.mem_filter.mp h2).1).1
    unfold spotOk at sf sl
    have h : some (midL f l) = some q := h
    cases h
    unfold midL
    split
    · omega
    · simp only; omega
theorem par_dt {p q r : Int × Int} (e : dt p q = 0) : tim p p * dt q r = tim p q * dt p r := by
  have : tim p p * dt q r = tim p q * dt p r - tim p r * dt p q + 0 := by unfold dt tim; grind
  rw [e] at this; omega
theorem mul_sgn {a b c d : Int} (e : a * b = c * d) (ha : 0 < a) (hc : 0 < c) : (0 < b ↔ 0 < d) ∧ (0 = b ↔ 0 = d) ∧ (b < 0 ↔ d < 0) := by
  rcases Int.lt_trichotomy b 0 with z | z | z <;> rcases Int.lt_trichotomy d 0 with w | w | w
  · omega
  · subst w; have := Int.mul_neg_of_pos_of_neg ha z; omega
  · have := Int.mul_neg_of_pos_of_neg ha z; have := Int.mul_pos hc w; omega
  · subst z; have := Int.mul_neg_of_pos_of_neg hc w; omega
  · omega
  · subst z; have := Int.mul_pos hc w; omega
  · have := Int.mul_neg_of_pos_of_neg hc w; have := Int.mul_pos ha z; omega
  · subst w; have := Int.mul_pos ha z; omega
  · omega
theorem ray_dt {p q r : Int × Int} (hp : p ≠ (0, 0)) (e : dt p q = 0) (t : 0 < tim p q) : (0 < dt q r ↔ 0 < dt p r) ∧ (0 = dt q r ↔ 0 = dt p r) ∧ (dt q r < 0 ↔ dt p r < 0) := mul_sgn (par_dt e) (sq_pos hp) t
theorem zero_of {a b p : Int × Int} (d : 0 < dt a b) (h1 : dt p b = 0) (h2 : dt a p = 0) : p = (0, 0) := by
  have i1 : dt a b * p.1 = dt p b * a.1 + dt a p * b.1 := by unfold dt; grind
  have i2 : dt a b * p.2 = dt p b * a.2 + dt a p * b.2 := by unfold dt; grind
  rw [h1, h2] at i1 i2
  simp only [Int.zero_mul, Int.add_zero] at i1 i2
  refine Prod.ext ?_ ?_
  · rcases Int.mul_eq_zero.mp i1 with z | z
    · omega
    · exact z
  · rcases Int.mul_eq_zero.mp i2 with z | z
    · omega
    · exact z
theorem mid_tim {f l p : Int × Int} (z : ¬ dt f l = 0) : tim (midL f l) p = dt p l + dt f p := by
  unfold midL; rw [if_neg z]; unfold tim dt; simp only; grind
theorem mid_legal {f l s : Int × Int} (hf : f ≠ (0, 0)) (fl : comesP f l) (fs : comesP f s) (sl : comesP s l) (hs : s ≠ (0, 0)) : 1 ≤ tim (midL f l) s := by
  have a := cp0 fs
  have b := cp0 sl
  by_cases z : dt f l = 0
  · have t0 : 0 < tim f l := by unfold comesP at fl; omega
    have := ray_dt (r := s) hf z t0
    rw [dt_swap (p := l) (q := s)] at b
    unfold midL; rw [if_pos z]
    unfold comesP at fs; omega
  · rw [mid_tim z]
    have := cp0 fl
    by_cases u : dt s l = 0
    · by_cases v : dt f s = 0
      · exact absurd (zero_of (by omega) u v) hs
      · omega
    · omega
theorem keyP_inj {p q : Int × Int} (h : keyP p = keyP q) : p = q := by
  unfold keyP at h
  have h1 := (List.cons.inj h).1
  have h2 := (List.cons.inj (List.cons.inj h).2).1
  exact Prod.ext (Sum.inl.inj h1) (Sum.inl.inj h2)
theorem dict_put {F : List (Int × Int)} {a b : Int} (h : (a, b) ∉ F) : putD (dictD F) [.inl a, .inl b] (.bl true) = dictD (F ++ [(a, b)]) := by
  unfold putD
  have e : ((dictD F).any fun kv => decide (kv.1 = [.inl a, .inl b])) = false := by
    rw [List.any_eq_false]
    intro kv hk
    obtain ⟨p, hp, rfl⟩ := List.mem_map.mp hk
    simp only [decide_eq_true_eq]
    intro z
    exact h (by rw [← keyP_inj (q := (a, b)) z]; exact hp)
  rw [if_neg (by rw [e]; decide)]
  unfold dictD
  rw [List.map_append]
  rfl
theorem nodup_le : ∀ {N : Nat} {l : List Nat}, l.Nodup → (∀ x ∈ l, x < N) → l.length ≤ N
  | 0, l, _, h => by
    cases l with
    | nil => exact Nat.le_refl 0
    | cons a l => exact absurd (h a List.mem_cons_self) (Nat.not_lt_zero _)
  | N + 1, l, hn, h => by
    have h1 : (l.erase N).Nodup := hn.erase N
    have h2 : ∀ x ∈ l.erase N, x < N := fun x hx => by
      have hx2 := List.mem_of_mem_erase hx
      have := h x hx2
      have hne : x ≠ N := fun z => by
        subst z
        exact (List.Nodup.not_mem_erase hn) hx
      omega
    have h3 := nodup_le h1 h2
    have h4 : l.length ≤ (l.erase N).length + 1 := by
      by_cases hm : N ∈ l
      · rw [List.length_erase_of_mem hm]; omega
      · rw [List.erase_of_not_mem hm]; omega
    omega
theorem box_le {F : List (Int × Int)} {A lo hi : Int} (hn : F.Nodup) (h : ∀ p ∈ F, 0 ≤ p.1 ∧ p.1 ≤ A ∧ lo ≤ p.2 ∧ p.2 ≤ hi) (hA : 0 ≤ A) (hl : lo ≤ hi) : F.length ≤ ((A + 1) * (hi - lo + 1)).toNat := by
  have key : ∀ p ∈ F, 0 ≤ p.1 * (hi - lo + 1) + (p.2 - lo) ∧ p.1 * (hi - lo + 1) + (p.2 - lo) < (A + 1) * (hi - lo + 1) := fun p hp => by
    obtain ⟨h1, h2, h3, h4⟩ := h p hp
    have m1 := Int.mul_nonneg h1 (show 0 ≤ hi - lo + 1 by omega)
    have m2 := Int.mul_le_mul_of_nonneg_right h2 (show 0 ≤ hi - lo + 1 by omega)
    rw [Int.add_mul, Int.one_mul]
    omega
  have := nodup_le (N := ((A + 1) * (hi - lo + 1)).toNat) (l := F.map fun p => (p.1 * (hi - lo + 1) + (p.2 - lo)).toNat) ?_ fun x hx => ?_
  · rw [List.length_map] at this; exact this
  · rw [List.nodup_iff_pairwise_ne, List.pairwise_map]
    rw [List.nodup_iff_pairwise_ne] at hn
    refine (List.Pairwise.and_mem.mp hn).imp fun {p q} hpq e => ?_
    obtain ⟨hp, hq, hne⟩ := hpq
    have kp := key p hp
    have kq := key q hq
    obtain ⟨p1, p2, p3, p4⟩ := h p hp
    obtain ⟨q1, q2, q3, q4⟩ := h q hq
    have e2 : p.1 * (hi - lo + 1) + (p.2 - lo) = q.1 * (hi - lo + 1) + (q.2 - lo) := by omega
    refine hne ?_
    have e3 : p.1 = q.1 := by
      rcases Int.lt_trichotomy p.1 q.1 with z | z | z
      · have := Int.mul_le_mul_of_nonneg_right (show p.1 + 1 ≤ q.1 by omega) (show 0 ≤ hi - lo + 1 by omega)
        rw [Int.add_mul, Int.one_mul] at this
        omega
      · exact z
      · have := Int.mul_le_mul_of_nonneg_right (show q.1 + 1 ≤ p.1 by omega) (show 0 ≤ hi - lo + 1 by omega)
        rw [Int.add_mul, Int.one_mul] at this
        omega
    rw [e3] at e2
    exact Prod.ext e3 (by omega)
  · obtain ⟨p, hp, rfl⟩ := List.mem_map.mp hx
    have := key p hp
    omega
structure WInv (ms : List (Int × Int)) (A lo hi : Int) (F ws : List (Int × Int)) : Prop where
  nd : F.Nodup
  rc : ∀ p ∈ F, Reach ms A lo hi p ∧ 0 ≤ p.1 ∧ p.1 ≤ A ∧ lo ≤ p.2 ∧ p.2 ≤ hi
  z : (0, 0) ∈ F
  wf : ∀ p ∈ ws, p ∈ F
  le : ws.length ≤ F.length
def ClosedAt (ms : List (Int × Int)) (A lo hi : Int) (F : List (Int × Int)) (p : Int × Int) (l : List (Int × Int)) : Prop := ∀ s ∈ l, p.1 + s.1 ≤ A → lo ≤ p.2 + s.2 → p.2 + s.2 ≤ hi → (p.1 + s.1, p.2 + s.2) ∈ F
theorem WInv.size {ms : List (Int × Int)} {A lo hi : Int} {F ws : List (Int × Int)} (h : WInv ms A lo hi F ws) (hA : 0 ≤ A) (hl : lo ≤ hi) : F.length ≤ ((A + 1) * (hi - lo + 1)).toNat := box_le h.nd (fun p hp => (h.rc p hp).2) hA hl
theorem WInv.fin {ms : List (Int × Int)} {A lo hi : Int} {F : List (Int × Int)} (h : WInv ms A lo hi F []) (c : ∀ p ∈ F, ClosedAt ms A lo hi F p ms) (p : Int × Int) : p ∈ F ↔ Reach ms A lo hi p := by
  refine ⟨fun hp => (h.rc p hp).1, fun hr => ?_⟩
  induction hr with
  | zero => exact h.z
  | step _ hs h1 h2 h3 ih => exact c _ ih _ hs h1 h2 h3
theorem insE_mem {F : List (Int × Int)} {p q : Int × Int} : q ∈ insE F p ↔ q ∈ F ∨ q = p := by
  unfold insE
  split
  · rename_i h
    exact ⟨.inl, fun z => z.elim id fun z => by subst z; exact h⟩
  · rw [List.mem_append, List.mem_singleton]
theorem insE_nodup {F : List (Int × Int)} {p : Int × Int} (h : F.Nodup) : (insE F p).Nodup := by
  unfold insE
  split
  · exact h
  · rename_i n
    rw [List.nodup_append]
    refine ⟨h, by simp, fun x hx y hy => ?_⟩
    rw [List.mem_singleton] at hy
    rintro rfl
    rw [hy] at hx
    exact n hx
theorem insE_len {F : List (Int × Int)} {p : Int × Int} : F.length ≤ (insE F p).length ∧ (insE F p).length ≤ F.length + 1 := by
  unfold insE
  split
  · omega
  · rw [List.length_append, List.length_singleton]; omega
theorem insAll_mem : ∀ {L F : List (Int × Int)} {q : Int × Int}, q ∈ insAll F L ↔ q ∈ F ∨ q ∈ L
  | [], F, q => by simp [insAll]
  | p :: L, F, q => by
    show q ∈ insAll (insE F p) L ↔ _
    rw [insAll_mem, insE_mem, List.mem_cons, or_assoc]
theorem insAll_nodup : ∀ {L F : List (Int × Int)}, F.Nodup → (insAll F L).Nodup
  | [], F, h => h
  | p :: L, F, h => insAll_nodup (L := L) (insE_nodup h)
theorem insAll_len : ∀ {L F : List (Int × Int)}, F.length ≤ (insAll F L).length ∧ (insAll F L).length ≤ F.length + L.length
  | [], F => ⟨Nat.le_refl _, Nat.le_refl _⟩
  | p :: L, F => by
    have h1 := insAll_len (L := L) (F := insE F p)
    have h2 := insE_len (F := F) (p := p)
    show F.length ≤ (insAll (insE F p) L).length ∧ (insAll (insE F p) L).length ≤ _
    rw [List.length_cons]
    omega
theorem dict_any {F : List (Int × Int)} {a b : Int} : ((dictD F).any fun kv => decide (kv.1 = [.inl a, .inl b])) = decide ((a, b) ∈ F) := by
  rw [Bool.eq_iff_iff, List.any_eq_true, decide_eq_true_iff]
  constructor
  · rintro ⟨kv, hk, e⟩
    obtain ⟨p, hp, rfl⟩ := List.mem_map.mp hk
    rw [← keyP_inj (p := p) (q := (a, b)) (of_decide_eq_true e)]
    exact hp
  · intro h
    exact ⟨_, List.mem_map.mpr ⟨(a, b), h, rfl⟩, decide_eq_true rfl⟩
theorem dict_set {F : List (Int × Int)} {a b : Int} : putD (dictD F) [.inl a, .inl b] (.bl true) = dictD (insE F (a, b)) := by
  by_cases h : (a, b) ∈ F
  · unfold putD insE
    rw [dict_any, decide_eq_true h, if_pos rfl, if_pos h]
    unfold dictD
    rw [List.map_map]
    refine List.map_congr_left fun p _ => ?_
    show (if keyP p = [.inl a, .inl b] then (keyP p, D.bl true) else (keyP p, D.bl true)) = _
    split <;> rfl
  · rw [dict_put h]
    unfold insE
    rw [if_neg h]
theorem keysT_dictD {F : List (Int × Int)} : keysT (dictD F) = F.map prD := by
  unfold keysT dictD
  rw [List.map_map]
  rfl
theorem len_dictD {F : List (Int × Int)} : (dictD F).length = F.length := List.length_map ..
theorem sort_set {F qs : List (Int × Int)} (hn : F.Nodup) (hp : qs.Perm F) (hs : qs.Pairwise prLe) : SortSet (· ∈ F) qs := by
  refine ⟨?_, fun p => hp.mem_iff⟩
  have h2 := List.nodup_iff_pairwise_ne.mp (hp.nodup_iff.mpr hn)
  refine (hs.and h2).imp fun {a b} h => ?_
  obtain ⟨h1, h2⟩ := h
  unfold prLe at h1
  unfold prLt
  rcases h1 with h1 | ⟨h1, h3⟩
  · exact .inl h1
  · refine .inr ⟨h1, ?_⟩
    have : a.2 ≠ b.2 := fun e => h2 (Prod.ext h1 e)
    omega
theorem SortSet.nodup {S : Int × Int → Prop} {qs : List (Int × Int)} (h : SortSet S qs) : qs.Nodup := List.nodup_iff_pairwise_ne.mpr (h.1.imp prLt_ne)
theorem SortSet.imp {S S' : Int × Int → Prop} {as : List (Int × Int)} (h : SortSet S as) (e : ∀ p, S p ↔ S' p) : SortSet S' as := ⟨h.1, fun p => (h.2 p).trans (e p)⟩
theorem nodup_sub {α : Type} [DecidableEq α] : ∀ {A B : List α}, A.Nodup → (∀ x ∈ A, x ∈ B) → A.length ≤ B.length
  | [], _, _, _ => Nat.zero_le _
  | x :: A, B, hn, h => by
    have hx := h x List.mem_cons_self
    obtain ⟨h1, h2⟩ := List.nodup_cons.mp hn
    have ih := nodup_sub (A := A) (B := B.erase x) h2 fun y hy => by
      have hne : y ≠ x := fun z => h1 (by rw [← z]; exact hy)
      exact (List.mem_erase_of_ne hne).mpr (h y (List.mem_cons_of_mem _ hy))
    rw [List.length_erase_of_mem hx] at ih
    have := List.length_pos_of_mem hx
    rw [List.length_cons]
    omega
theorem ledL_len {x n : Int} : (ledL x n).length ≤ 2 := by unfold ledL; split <;> simp
theorem tileG_len {a b : Int} : ∀ {ms : List (Int × Int)}, (tileG a b ms).length ≤ 4 * ms.length
  | [] => Nat.le_refl _
  | s :: ms => by
    have ih := tileG_len (a := a) (b := b) (ms := ms)
    unfold tileG at ih ⊢
    rw [List.flatMap_cons, List.length_append, List.length_cons]
    have h1 := ledL_len (x := s.1) (n := a)
    have h2 := ledL_len (x := s.2) (n := b)
    have : ((ledL s.1 a).flatMap fun d => (ledL s.2 b).map fun c => (d, c)).length ≤ 4 := by
      rw [List.length_flatMap]
      generalize ledL s.1 a = l at h1
      match l, h1 with
      | [], _ => simp
      | [_], _ => simp; omega
      | [_, _], _ => simp; omega
    omega
theorem tileG_mem {a b : Int} {ms : List (Int × Int)} {p : Int × Int} : p ∈ tileG a b ms ↔ ∃ s ∈ ms, p.1 ∈ ledL s.1 a ∧ p.2 ∈ ledL s.2 b := by
  unfold tileG
  simp only [List.mem_flatMap, List.mem_map]
  constructor
  · rintro ⟨s, hs, d, hd, c, hc, rfl⟩
    exact ⟨s, hs, hd, hc⟩
  · rintro ⟨s, hs, hd, hc⟩
    exact ⟨s, hs, p.1, hd, p.2, hc, rfl⟩
theorem L_led_to : ∀ n ds Q, S_led_to n ds Q → ds.length = ps_led_to.length := by
  intro n ds Q h
  unfold S_led_to at h
  split at h <;> first | exact h.elim | rfl
set_option maxHeartbeats 0 in
theorem l_led_to : ∀ n ds Q, S_led_to n ds Q → t_led_to (defE Q) (startG n N_led_to ds) := by
  intro n ds Q h
  unfold S_led_to at h
  split at h
  · rename_i x m
    show t_led_to (defE Q) ⟨[some (.dat (.int x)), some (.dat (.int m))], n⟩
    obtain ⟨⟨m1, m2⟩, h⟩ := h
    have hm : m ≠ 0 := by omega
    by_cases c : x.fmod m = 0
    · rw [show (ledL x m).map D.int = [.int (x.fdiv m)] by unfold ledL; rw [if_pos c]; rfl] at h
      simp -implicitDefEqProofs only [t_led_to, ↓XB, XB, ↓XDm, XDm, ↓XRw, XRw, ↓XTx, XTx, ↓XC, XC, ↓XD, XD, ↓XT, XT, ↓XH, XH, ↓XA, XA, ↓XO, XO, ↓XL, XL, ↓XQE, XQE, ↓XW, XW, ↓XHd, XHd, ↓XP, ↓x_ifs, ↓XU, XU, XQ, eq_self, List.reverse_cons, List.reverse_nil, Int.cast_ofNat_Int, List.length_cons, List.length_nil, List.nil_append, List.cons_append, ne_eq, Nat.reduceAdd, Nat.reduceLeDiff, Int.reduceEq, Int.reduceLT, Int.reduceLE, Int.reduceToNat, Int.reducePow, Int.reduceAdd, Int.reduceMul, Int.reduceSub, Int.reduceNeg, List.getElem?_cons_zero, List.getElem?_cons_succ, dd_is_integer, hm, c]
      exact ⟨lg (by omega), h⟩
    · rw [show (ledL x m).map D.int = [.int (x.fdiv m), .int (x.fdiv m + 1)] by unfold ledL; rw [if_neg c]; rfl] at h
      simp -implicitDefEqProofs only [t_led_to, ↓XB, XB, ↓XDm, XDm, ↓XRw, XRw, ↓XTx, XTx, ↓XC, XC, ↓XD, XD, ↓XT, XT, ↓XH, XH, ↓XA, XA, ↓XO, XO, ↓XL, XL, ↓XQE, XQE, ↓XW, XW, ↓XHd, XHd, ↓XP, ↓x_ifs, ↓XU, XU, XQ, eq_self, List.reverse_cons, List.reverse_nil, Int.cast_ofNat_Int, List.length_cons, List.length_nil, List.nil_append, List.cons_append, ne_eq, Nat.reduceAdd, Nat.reduceLeDiff, Int.reduceEq, Int.reduceLT, Int.reduceLE, Int.reduceToNat, Int.reducePow, Int.reduceAdd, Int.reduceMul, Int.reduceSub, Int.reduceNeg, List.getElem?_cons_zero, List.getElem?_cons_succ, dd_is_integer, hm, c]
      exact ⟨lg (by omega), lg (by omega), h⟩
  · exact h.elim
theorem L_need_tiles : ∀ n ds Q, S_need_tiles n ds Q → ds.length = ps_need_tiles.length := by
  intro n ds Q h
  unfold S_need_tiles at h
  split at h <;> first | exact h.elim | rfl
set_option maxHeartbeats 0 in
theorem l_need_tiles : ∀ n ds Q, S_need_tiles n ds Q → t_need_tiles (defE Q) (startG n N_need_tiles ds) := by
  intro n ds Q h
  unfold S_need_tiles at h
  split at h
  · rename_i ds a b
    show t_need_tiles (defE Q) ⟨[some (.dat (.lst ds)), some (.dat (.int a)), some (.dat (.int b))], n⟩
    obtain ⟨ms, rfl, hs, ha, hb, h⟩ := h
    obtain ⟨s1, s2⟩ := steps_need hs
    simp -implicitDefEqProofs only [t_need_tiles, ↓XB, XB, ↓XDm, XDm, ↓XRw, XRw, ↓XTx, XTx, ↓XC, XC, ↓XD, XD, ↓XT, XT, ↓XH, XH, ↓XA, XA, ↓XO, XO, ↓XL, XL, ↓XQE, XQE, ↓XW, XW, ↓XHd, XHd, ↓XP, ↓x_ifs, ↓XU, XU, XQ, eq_self, List.reverse_cons, List.reverse_nil, Int.cast_ofNat_Int, List.length_cons, List.length_nil, List.nil_append, List.cons_append, ne_eq, Nat.reduceAdd, Nat.reduceLeDiff, Int.reduceEq, Int.reduceLT, Int.reduceLE, Int.reduceToNat, Int.reducePow, Int.reduceAdd, Int.reduceMul, Int.reduceSub, Int.reduceNeg, List.getElem?_cons_zero, List.getElem?_cons_succ, dd_is_integer]
    exact ⟨s1, s2, ha, hb, h⟩
  · exact h.elim
theorem L_tile_steps_of : ∀ n ds Q, S_tile_steps_of n ds Q → ds.length = ps_tile_steps_of.length := by
  intro n ds Q h
  unfold S_tile_steps_of at h
  split at h <;> first | exact h.elim | rfl
set_option maxHeartbeats 0 in
theorem l_tile_steps_of : ∀ n ds Q, S_tile_steps_of n ds Q → t_tile_steps_of (defE Q) (startG n N_tile_steps_of ds) := by
  intro n ds Q h
  unfold S_tile_steps_of at h
  split at h
  · rename_i ds a b
    show t_tile_steps_of (defE Q) ⟨[some (.dat (.lst ds)), some (.dat (.int a)), some (.dat (.int b)), none, none, none, none, none, none], n⟩
    obtain ⟨ms, rfl, hs, ha, hb, h⟩ := h
    simp -implicitDefEqProofs only [t_tile_steps_of, ↓XB, XB, ↓XDm, XDm, ↓XRw, XRw, ↓XTx, XTx, ↓XC, XC, ↓XD, XD, ↓XT, XT, ↓XH, XH, ↓XA, XA, ↓XO, XO, ↓XL, XL, ↓XQE, XQE, ↓XW, XW, ↓XHd, XHd, ↓XP, ↓x_ifs, ↓XU, XU, XQ, eq_self, List.reverse_cons, List.reverse_nil, Int.cast_ofNat_Int, List.length_cons, List.length_nil, List.nil_append, List.cons_append, ne_eq, Nat.reduceAdd, Nat.reduceLeDiff, Int.reduceEq, Int.reduceLT, Int.reduceLE, Int.reduceToNat, Int.reducePow, Int.reduceAdd, Int.reduceMul, Int.reduceSub, Int.reduceNeg, List.getElem?_cons_zero, List.getElem?_cons_succ, dd_is_integer]
    have hT : (insAll [] (tileG a b ms)).length ≤ 16 := by
      have h1 := insAll_len (F := []) (L := tileG a b ms)
      have h2 := tileG_len (a := a) (b := b) (ms := ms)
      have h3 := hs.2.1
      simp only [List.length_nil] at h1
      omega
    generalize eT : insAll [] (tileG a b ms) = T at hT
    refine for_inv (fun r G => ∃ (F rest : List (Int × Int)) (o4 o5 o6 o7 : Option SC), r = rest.map prD ∧ insAll F (tileG a b rest) = T ∧ G = ⟨[some (.dat (.lst (ms.map prD))), some (.dat (.int a)), some (.dat (.int b)), some (.own (.dT (dictD F))), o4, o5, o6, o7, none], n⟩) ?_ _ ?_ _ ⟨[], ms, none, none, none, none, rfl, eT, rfl⟩
    · rintro G ⟨F, rest, o4, o5, o6, o7, e1, e2, rfl⟩
      cases rest with
      | cons s rest => cases e1
      | nil =>
        have e2 : F = T := e2
        subst e2
        simp -implicitDefEqProofs only [t_tile_steps_of, ↓XB, XB, ↓XDm, XDm, ↓XRw, XRw, ↓XTx, XTx, ↓XC, XC, ↓XD, XD, ↓XT, XT, ↓XH, XH, ↓XA, XA, ↓XO, XO, ↓XL, XL, ↓XQE, XQE, ↓XW, XW, ↓XHd, XHd, ↓XP, ↓x_ifs, ↓XU, XU, XQ, eq_self, List.reverse_cons, List.reverse_nil, Int.cast_ofNat_Int, List.length_cons, List.length_nil, List.nil_append, List.cons_append, ne_eq, Nat.reduceAdd, Nat.reduceLeDiff, Int.reduceEq, Int.reduceLT, Int.reduceLE, Int.reduceToNat, Int.reducePow, Int.reduceAdd, Int.reduceMul, Int.reduceSub, Int.reduceNeg, List.getElem?_cons_zero, List.getElem?_cons_succ, dd_is_integer, keysT_dictD]
        refine ⟨by rw [List.length_map]; exact Nat.le_trans hT (by decide), ?_⟩
        refine lc_prs (fun p => !(decide (p.1 = 0) && decide (p.2 = 0))) prD (fun m hm k k' q => ?_) ?_
        · cases e : (decide (m.1 = 0) && decide (m.2 = 0)) with
          | true =>
            rw [e] at q
            simp -implicitDefEqProofs only [t_tile_steps_of, ↓XB, XB, ↓XDm, XDm, ↓XRw, XRw, ↓XTx, XTx, ↓XC, XC, ↓XD, XD, ↓XT, XT, ↓XH, XH, ↓XA, XA, ↓XO, XO, ↓XL, XL, ↓XQE, XQE, ↓XW, XW, ↓XHd, XHd, ↓XP, ↓x_ifs, ↓XU, XU, XQ, eq_self, List.reverse_cons, List.reverse_nil, Int.cast_ofNat_Int, List.length_cons, List.length_nil, List.nil_append, List.cons_append, ne_eq, Nat.reduceAdd, Nat.reduceLeDiff, Int.reduceEq, Int.reduceLT, Int.reduceLE, Int.reduceToNat, Int.reducePow, Int.reduceAdd, Int.reduceMul, Int.reduceSub, Int.reduceNeg, List.getElem?_cons_zero, List.getElem?_cons_succ, dd_is_integer, e]
            exact q
          | false =>
            rw [e] at q
            simp -implicitDefEqProofs only [t_tile_steps_of, ↓XB, XB, ↓XDm, XDm, ↓XRw, XRw, ↓XTx, XTx, ↓XC, XC, ↓XD, XD, ↓XT, XT, ↓XH, XH, ↓XA, XA, ↓XO, XO, ↓XL, XL, ↓XQE, XQE, ↓XW, XW, ↓XHd, XHd, ↓XP, ↓x_ifs, ↓XU, XU, XQ, eq_self, List.reverse_cons, List.reverse_nil, Int.cast_ofNat_Int, List.length_cons, List.length_nil, List.nil_append, List.cons_append, ne_eq, Nat.reduceAdd, Nat.reduceLeDiff, Int.reduceEq, Int.reduceLT, Int.reduceLE, Int.reduceToNat, Int.reducePow, Int.reduceAdd, Int.reduceMul, Int.reduceSub, Int.reduceNeg, List.getElem?_cons_zero, List.getElem?_cons_succ, dd_is_integer, e]
            exact q
        · simp -implicitDefEqProofs only [t_tile_steps_of, ↓XB, XB, ↓XDm, XDm, ↓XRw, XRw, ↓XTx, XTx, ↓XC, XC, ↓XD, XD, ↓XT, XT, ↓XH, XH, ↓XA, XA, ↓XO, XO, ↓XL, XL, ↓XQE, XQE, ↓XW, XW, ↓XHd, XHd, ↓XP, ↓x_ifs, ↓XU, XU, XQ, eq_self, List.reverse_cons, List.reverse_nil, Int.cast_ofNat_Int, List.length_cons, List.length_nil, List.nil_append, List.cons_append, ne_eq, Nat.reduceAdd, Nat.reduceLeDiff, Int.reduceEq, Int.reduceLT, Int.reduceLE, Int.reduceToNat, Int.reducePow, Int.reduceAdd, Int.reduceMul, Int.reduceSub, Int.reduceNeg, List.getElem?_cons_zero, List.getElem?_cons_succ, dd_is_integer]
          refine so_prs fun qs q1 q2 => ?_
          simp -implicitDefEqProofs only [t_tile_steps_of, ↓XB, XB, ↓XDm, XDm, ↓XRw, XRw, ↓XTx, XTx, ↓XC, XC, ↓XD, XD, ↓XT, XT, ↓XH, XH, ↓XA, XA, ↓XO, XO, ↓XL, XL, ↓XQE, XQE, ↓XW, XW, ↓XHd, XHd, ↓XP, ↓x_ifs, ↓XU, XU, XQ, eq_self, List.reverse_cons, List.reverse_nil, Int.cast_ofNat_Int, List.length_cons, List.length_nil, List.nil_append, List.cons_append, ne_eq, Nat.reduceAdd, Nat.reduceLeDiff, Int.reduceEq, Int.reduceLT, Int.reduceLE, Int.reduceToNat, Int.reducePow, Int.reduceAdd, Int.reduceMul, Int.reduceSub, Int.reduceNeg, List.getElem?_cons_zero, List.getElem?_cons_succ, dd_is_integer]
          rw [← eT] at q1
          refine h qs ((sort_set ((insAll_nodup (F := []) List.nodup_nil).sublist List.filter_sublist) q1 q2).imp fun p => ?_)
          rw [List.mem_filter, insAll_mem]
          unfold TileP
          rw [tileG_mem]
          simp only [List.not_mem_nil, false_or]
          constructor
          · rintro ⟨h1, h2⟩
            refine ⟨fun z => ?_, h1⟩
            subst z
            cases h2
          · rintro ⟨h1, h2⟩
            refine ⟨h2, ?_⟩
            have : ¬ (p.1 = 0 ∧ p.2 = 0) := fun z => h1 (Prod.ext z.1 z.2)
            simp only [Bool.not_eq_true', Bool.and_eq_false_iff, decide_eq_false_iff_not]
            omega
    · rintro d r G N hq ⟨F, rest, o4, o5, o6, o7, e1, e2, rfl⟩ hN
      cases rest with
      | nil => cases e1
      | cons s rest =>
        obtain ⟨rfl, rfl⟩ := List.cons.inj (show d :: r = .tup [.int s.1, .int s.2] :: rest.map prD from e1)
        simp -implicitDefEqProofs only [t_tile_steps_of, ↓XB, XB, ↓XDm, XDm, ↓XRw, XRw, ↓XTx, XTx, ↓XC, XC, ↓XD, XD, ↓XT, XT, ↓XH, XH, ↓XA, XA, ↓XO, XO, ↓XL, XL, ↓XQE, XQE, ↓XW, XW, ↓XHd, XHd, ↓XP, ↓x_ifs, ↓XU, XU, XQ, eq_self, List.reverse_cons, List.reverse_nil, Int.cast_ofNat_Int, List.length_cons, List.length_nil, List.nil_append, List.cons_append, ne_eq, Nat.reduceAdd, Nat.reduceLeDiff, Int.reduceEq, Int.reduceLT, Int.reduceLE, Int.reduceToNat, Int.reducePow, Int.reduceAdd, Int.reduceMul, Int.reduceSub, Int.reduceNeg, List.getElem?_cons_zero, List.getElem?_cons_succ, dd_is_integer]
        refine ⟨ha, ?_⟩
        try (simp -implicitDefEqProofs only [t_tile_steps_of, ↓XB, XB, ↓XDm, XDm, ↓XRw, XRw, ↓XTx, XTx, ↓XC, XC, ↓XD, XD, ↓XT, XT, ↓XH, XH, ↓XA, XA, ↓XO, XO, ↓XL, XL, ↓XQE, XQE, ↓XW, XW, ↓XHd, XHd, ↓XP, ↓x_ifs, ↓XU, XU, XQ, eq_self, List.reverse_cons, List.reverse_nil, Int.cast_ofNat_Int, List.length_cons, List.length_nil, List.nil_append, List.cons_append, ne_eq, Nat.reduceAdd, Nat.reduceLeDiff, Int.reduceEq, Int.reduceLT, Int.reduceLE, Int.reduceToNat, Int.reducePow, Int.reduceAdd, Int.reduceMul, Int.reduceSub, Int.reduceNeg, List.getElem?_cons_zero, List.getElem?_cons_succ, dd_is_integer])
        refine for_inv (fun r G => ∃ (F : List (Int × Int)) (ds : List Int) (o6 o7 : Option SC), r = ds.map D.int ∧ insAll F ((ds.flatMap fun d => (ledL s.2 b).map fun c => (d, c)) ++ tileG a b rest) = T ∧ G = ⟨[some (.dat (.lst (ms.map prD))), some (.dat (.int a)), some (.dat (.int b)), some (.own (.dT (dictD F))), some (.dat (.int s.1)), some (.dat (.int s.2)), o6, o7, none], n⟩) ?_ _ ?_ _ ⟨F, ledL s.1 a, o6, o7, rfl, e2, rfl⟩
        · rintro G ⟨F, ds, o6, o7, e1, e2, rfl⟩
          cases ds with
          | cons d ds => cases e1
          | nil => exact hN _ ⟨F, rest, _, _, _, _, rfl, e2, rfl⟩
        · rintro d r G M hq2 ⟨F, ds, o6, o7, e1, e2, rfl⟩ hM
          cases ds with
          | nil => cases e1
          | cons d0 ds =>
            obtain ⟨rfl, rfl⟩ := List.cons.inj (show d :: r = .int d0 :: ds.map D.int from e1)
            simp -implicitDefEqProofs only [t_tile_steps_of, ↓XB, XB, ↓XDm, XDm, ↓XRw, XRw, ↓XTx, XTx, ↓XC, XC, ↓XD, XD, ↓XT, XT, ↓XH, XH, ↓XA, XA, ↓XO, XO, ↓XL, XL, ↓XQE, XQE, ↓XW, XW, ↓XHd, XHd, ↓XP, ↓x_ifs, ↓XU, XU, XQ, eq_self, List.reverse_cons, List.reverse_nil, Int.cast_ofNat_Int, List.length_cons, List.length_nil, List.nil_append, List.cons_append, ne_eq, Nat.reduceAdd, Nat.reduceLeDiff, Int.reduceEq, Int.reduceLT, Int.reduceLE, Int.reduceToNat, Int.reducePow, Int.reduceAdd, Int.reduceMul, Int.reduceSub, Int.reduceNeg, List.getElem?_cons_zero, List.getElem?_cons_succ, dd_is_integer]
            refine ⟨hb, ?_⟩
            try (simp -implicitDefEqProofs only [t_tile_steps_of, ↓XB, XB, ↓XDm, XDm, ↓XRw, XRw, ↓XTx, XTx, ↓XC, XC, ↓XD, XD, ↓XT, XT, ↓XH, XH, ↓XA, XA, ↓XO, XO, ↓XL, XL, ↓XQE, XQE, ↓XW, XW, ↓XHd, XHd, ↓XP, ↓x_ifs, ↓XU, XU, XQ, eq_self, List.reverse_cons, List.reverse_nil, Int.cast_ofNat_Int, List.length_cons, List.length_nil, List.nil_append, List.cons_append, ne_eq, Nat.reduceAdd, Nat.reduceLeDiff, Int.reduceEq, Int.reduceLT, Int.reduceLE, Int.reduceToNat, Int.reducePow, Int.reduceAdd, Int.reduceMul, Int.reduceSub, Int.reduceNeg, List.getElem?_cons_zero, List.getElem?_cons_succ, dd_is_integer])
            refine for_inv (fun r G => ∃ (F : List (Int × Int)) (cs : List Int) (o7 : Option SC), r = cs.map D.int ∧ insAll F ((cs.map fun c => (d0, c)) ++ ((ds.flatMap fun d => (ledL s.2 b).map fun c => (d, c)) ++ tileG a b rest)) = T ∧ G = ⟨[some (.dat (.lst (ms.map prD))), some (.dat (.int a)), some (.dat (.int b)), some (.own (.dT (dictD F))), some (.dat (.int s.1)), some (.dat (.int s.2)), some (.dat (.int d0)), o7, none], n⟩) ?_ _ ?_ _ ⟨F, ledL s.2 b, o7, rfl, by rw [List.flatMap_cons, List.append_assoc] at e2; exact e2, rfl⟩
            · rintro G ⟨F, cs, o7, e1, e2, rfl⟩
              cases cs with
              | cons c cs => cases e1
              | nil => exact hM _ ⟨F, ds, _, _, rfl, e2, rfl⟩
            · rintro d r G M2 hq3 ⟨F, cs, o7, e1, e2, rfl⟩ hM2
              cases cs with
              | nil => cases e1
              | cons c0 cs =>
                obtain ⟨rfl, rfl⟩ := List.cons.inj (show d :: r = .int c0 :: cs.map D.int from e1)
                have hF := insAll_len (F := F) (L := ((c0 :: cs).map fun c => (d0, c)) ++ ((ds.flatMap fun d => (ledL s.2 b).map fun c => (d, c)) ++ tileG a b rest))
                rw [e2] at hF
                simp -implicitDefEqProofs only [t_tile_steps_of, ↓XB, XB, ↓XDm, XDm, ↓XRw, XRw, ↓XTx, XTx, ↓XC, XC, ↓XD, XD, ↓XT, XT, ↓XH, XH, ↓XA, XA, ↓XO, XO, ↓XL, XL, ↓XQE, XQE, ↓XW, XW, ↓XHd, XHd, ↓XP, ↓x_ifs, ↓XU, XU, XQ, eq_self, List.reverse_cons, List.reverse_nil, Int.cast_ofNat_Int, List.length_cons, List.length_nil, List.nil_append, List.cons_append, ne_eq, Nat.reduceAdd, Nat.reduceLeDiff, Int.reduceEq, Int.reduceLT, Int.reduceLE, Int.reduceToNat, Int.reducePow, Int.reduceAdd, Int.reduceMul, Int.reduceSub, Int.reduceNeg, List.getElem?_cons_zero, List.getElem?_cons_succ, dd_is_integer, len_dictD, dict_set]
                refine ⟨Nat.lt_of_le_of_lt (m := 16) (by omega) (by decide), ?_⟩
                exact hM2 _ ⟨_, cs, _, rfl, e2, rfl⟩
  · exact h.elim
theorem tile_small {ms qs : List (Int × Int)} {a b : Int} (hs : StepsOk ms) (ha : sizeOk a) (hb : sizeOk b) (h : SortSet (TileP ms a b) qs) {p : Int × Int} (hp : p ∈ qs) : p.1.natAbs ≤ 7 ∧ p.2.natAbs ≤ 7 := by
  obtain ⟨_, s, hs2, h1, h2⟩ := (h.2 p).mp hp
  have st := hs.2.2.1 s hs2
  unfold stepOk at st
  have bnd : ∀ x t d : Int, -6 ≤ x → x ≤ 6 → 1 ≤ t → d ∈ ledL x t → d.natAbs ≤ 7 := fun x t d x1 x2 t1 hd => by
    have nn : x.fdiv t = x / t := Int.fdiv_eq_ediv_of_nonneg _ (by omega)
    have e1 := Int.mul_ediv_add_emod x t
    have l1 : x / t ≤ 6 := by
      refine Int.le_trans (Int.ediv_le_ediv (by omega) x2) ?_
      exact Int.ediv_le_self _ (by decide)
    have l2 : -6 ≤ x / t := by
      have : -6 * t ≤ x := by omega
      exact Int.le_ediv_of_mul_le (by omega) this
    unfold ledL at hd
    rw [nn] at hd
    split at hd
    · rw [List.mem_singleton] at hd; omega
    · simp only [List.mem_cons, List.not_mem_nil, or_false] at hd; omega
  have b1 := bnd s.1 a p.1 (by omega) (by omega) ha.1 h1
  have b2 := bnd s.2 b p.2 (by omega) (by omega) hb.1 h2
  exact ⟨b1, b2⟩
theorem tile_shw {ms qs : List (Int × Int)} {a b : Int} (hs : StepsOk ms) (ha : sizeOk a) (hb : sizeOk b) (h : SortSet (TileP ms a b) qs) : qs.length ≤ 16 ∧ Shw 2 10000 (.lst (qs.map prD)) := by
  have hl : qs.length ≤ 16 := by
    have sub : qs.length ≤ (tileG a b ms).length := nodup_sub h.nodup fun p hp => tileG_mem.mpr ((h.2 p).mp hp).2
    have h2 := tileG_len (a := a) (b := b) (ms := ms)
    have := hs.2.1
    omega
  refine ⟨hl, (shw_prs fun p hp => ?_).mono (by decide) (by omega)⟩
  have bb := tile_small hs ha hb h hp
  exact ⟨Nat.lt_of_le_of_lt bb.1 (by decide), Nat.lt_of_le_of_lt bb.2 (by decide)⟩
theorem out_half {L : List (Int × Int)} {l : Int × Int} (hne : L ≠ []) (h : ∀ p ∈ L, 0 < tim l p) : ∃ f e, outE L = some (f, e) ∧ f ∈ L ∧ e ∈ L ∧ ∀ s ∈ L, comesP f s ∧ comesP s e := by
  have hz : ∀ p ∈ L, p ≠ (0, 0) := fun p hp z => by
    have := h p hp
    subst z
    unfold tim at this
    simp at this
  have l0 : l ≠ (0, 0) := fun z => by
    obtain ⟨p, hp⟩ := List.exists_mem_of_ne_nil L hne
    have := h p hp
    subst z
    unfold tim at this
    simp at this
  have c1 : ∀ p ∈ L, comesP (l.2, -l.1) p := fun p hp => .inl (by
    have := h p hp
    unfold tim at this
    unfold dt
    simp only
    grind)
  obtain ⟨e, he, he2⟩ := last_ex (f := (l.2, -l.1)) (fun z => l0 (Prod.ext (by have := (Prod.mk.inj z).2; show l.1 = 0; omega) (Prod.mk.inj z).1)) hne hz c1
  obtain ⟨g, hg, hg2⟩ := last_ex (f := (-l.2, -l.1)) (L := L.map fun s => (s.1, -s.2)) (fun z => l0 (Prod.ext (by have := (Prod.mk.inj z).2; show l.1 = 0; omega) (by have := (Prod.mk.inj z).1; show l.2 = 0; omega))) (by simpa using hne)
    (fun p hp => by
      obtain ⟨s, hs, rfl⟩ := List.mem_map.mp hp
      intro z
      exact hz s hs (Prod.ext (Prod.mk.inj z).1 (by have := (Prod.mk.inj z).2; show s.2 = 0; omega)))
    (fun p hp => by
      obtain ⟨s, hs, rfl⟩ := List.mem_map.mp hp
      refine .inl ?_
      have := h s hs
      unfold tim at this
      unfold dt
      simp only
      grind)
  obtain ⟨f, hf, rfl⟩ := List.mem_map.mp hg
  have hf2 : ∀ o ∈ L, comesP f o := fun o ho => by
    have h1 := hg2 _ (List.mem_map.mpr ⟨o, ho, rfl⟩)
    unfold comesP at h1 ⊢
    have e1 : dt (o.1, -o.2) (f.1, -f.2) = dt f o := by unfold dt; grind
    have e2 : tim (o.1, -o.2) (f.1, -f.2) = tim f o := by unfold tim; grind
    rw [e1, e2] at h1
    exact h1
  have m1 : f ∈ firstsL L := List.mem_filter.mpr ⟨hf, List.all_eq_true.mpr fun o ho => comesB_iff.mpr (hf2 o ho)⟩
  have m2 : e ∈ lastsL L := List.mem_filter.mpr ⟨he, List.all_eq_true.mpr fun o ho => comesB_iff.mpr (he2 o ho)⟩
  unfold outE
  cases hF : firstsL L with
  | nil => rw [hF] at m1; cases m1
  | cons F r =>
    cases hL : lastsL L with
    | nil => rw [hL] at m2; cases m2
    | cons E r' =>
      obtain ⟨a1, a2⟩ := List.mem_filter.mp (show F ∈ firstsL L by rw [hF]; exact List.mem_cons_self)
      obtain ⟨b1, b2⟩ := List.mem_filter.mp (show E ∈ lastsL L by rw [hL]; exact List.mem_cons_self)
      exact ⟨F, E, rfl, a1, b1, fun s hs => ⟨comesB_iff.mp (List.all_eq_true.mp a2 s hs), comesB_iff.mp (List.all_eq_true.mp b2 s hs)⟩⟩
theorem boxB_iff {r c : Int} {p : Int × Int} : boxB r c p = true ↔ inB r c p.1 p.2 := by
  unfold boxB inB
  simp only [Bool.and_eq_true, decide_eq_true_eq]
  constructor
  · rintro ⟨⟨a, b⟩, c, d⟩; exact ⟨a, b, c, d⟩
  · rintro ⟨a, b, c, d⟩; exact ⟨⟨a, b⟩, c, d⟩
theorem adds_nodup {ms : List (Int × Int)} {x y : Int} (h : ms.Nodup) : (ms.map fun s => (x + s.1, y + s.2)).Nodup := by
  rw [List.nodup_iff_pairwise_ne, List.pairwise_map]
  refine (List.nodup_iff_pairwise_ne.mp h).imp fun {a b} hne e => hne ?_
  have e1 := (Prod.mk.inj e).1
  have e2 := (Prod.mk.inj e).2
  exact Prod.ext (by omega) (by omega)
theorem red_sort {ms qs : List (Int × Int)} {r c x y : Int} (hs : StepsOk ms) (h1 : qs.Perm ((ms.map fun s => (x + s.1, y + s.2)).filter (boxB r c))) (h2 : qs.Pairwise prLe) : SortSet (RedP ms r c (x, y)) qs := by
  refine (sort_set ((adds_nodup hs.2.2.2).sublist List.filter_sublist) h1 h2).imp fun p => ?_
  rw [List.mem_filter, List.mem_map, boxB_iff]
  exact ⟨fun ⟨⟨s, h, e⟩, b⟩ => ⟨b, s, h, e.symm⟩, fun ⟨b, s, h, e⟩ => ⟨⟨s, h, e.symm⟩, b⟩⟩
theorem valD_put {κ : Type} [DecidableEq κ] {es : List (κ × D)} {k k' : κ} {v : D} : valD (putD es k v) k' = if k' = k then some v else valD es k' := by
  have hv : ∀ (es : List (κ × D)), valD (es ++ [(k, v)]) k' = match valD es k' with | some d => some d | none => if k = k' then some v else none := by
    intro es
    induction es with
    | nil => simp [valD]
    | cons e es ih =>
      obtain ⟨q, d⟩ := e
      rw [List.cons_append]
      by_cases c : q = k'
      · simp [valD, c]
      · rw [show valD ((q, d) :: (es ++ [(k, v)])) k' = valD (es ++ [(k, v)]) k' by simp [valD, c], show valD ((q, d) :: es) k' = valD es k' by simp [valD, c], ih]
  have hm : ∀ (es : List (κ × D)), valD (es.map fun kv => if kv.1 = k then (kv.1, v) else kv) k' = match valD es k' with | some d => if k' = k then some v else some d | none => none := by
    intro es
    induction es with
    | nil => simp [valD]
    | cons e es ih =>
      obtain ⟨q, d⟩ := e
      rw [List.map_cons]
      by_cases c : q = k'
      · subst c
        by_cases c2 : q = k
        · simp [valD, c2]
        · simp [valD, c2]
      · by_cases c2 : q = k
        · simp only [c2, if_true]
          rw [show valD ((k, v) :: _) k' = valD (es.map fun kv => if kv.1 = k then (kv.1, v) else kv) k' by rw [c2] at c; simp [valD, c], ih, show valD ((k, d) :: es) k' = valD es k' by rw [c2] at c; simp [valD, c]]
        · simp only [c2, if_false]
          rw [show valD ((q, d) :: _) k' = valD (es.map fun kv => if kv.1 = k then (kv.1, v) else kv) k' by simp [valD, c], ih, show valD ((q, d) :: es) k' = valD es k' by simp [valD, c]]
  have hk : ∀ (es : List (κ × D)), (es.any fun kv => decide (kv.1 = k)) = (valD es k).isSome := by
    intro es
    induction es with
    | nil => rfl
    | cons e es ih =>
      obtain ⟨q, d⟩ := e
      rw [List.any_cons, ih]
      by_cases c : q = k
      · simp [valD, c]
      · simp [valD, c]
  unfold putD
  split
  · rename_i h
    rw [hk] at h
    rw [hm]
    by_cases c : k' = k
    · subst c
      rw [if_pos rfl]
      cases e : valD es k' with
      | none => rw [e] at h; cases h
      | some d => simp
    · rw [if_neg c]
      cases valD es k' <;> simp [c]
  · rename_i h
    rw [hk] at h
    rw [hv]
    by_cases c : k' = k
    · subst c
      rw [if_pos rfl]
      cases e : valD es k' with
      | none => simp
      | some d => rw [e] at h; exact absurd rfl h
    · rw [if_neg c]
      have c' : ¬ k = k' := fun z => c z.symm
      cases valD es k' <;> simp [c']
theorem HasKeys.nil : HasKeys [] [] := fun a b => by simp [valD]
theorem HasKeys.put {es : List (List Key × D)} {F : List (Int × Int)} {a b : Int} {v : D} (h : HasKeys es F) : HasKeys (putD es [.inl a, .inl b] v) (F ++ [(a, b)]) := fun x y => by
  rw [valD_put]
  by_cases c : x = a ∧ y = b
  · obtain ⟨rfl, rfl⟩ := c
    simp
  · rw [if_neg (by intro z; exact c ⟨Sum.inl.inj (List.cons.inj z).1, Sum.inl.inj (List.cons.inj (List.cons.inj z).2).1⟩), h x y]
    refine decide_eq_decide.mpr ⟨fun z => List.mem_append_left _ z, fun z => ?_⟩
    rcases List.mem_append.mp z with z | z
    · exact z
    · rw [List.mem_singleton] at z
      exact absurd ⟨(Prod.mk.inj z).1, (Prod.mk.inj z).2⟩ c
theorem L__law_ahead : ∀ n ds Q, S__law_ahead n ds Q → ds.length = ps__law_ahead.length := by
  intro n ds Q h
  unfold S__law_ahead at h
  split at h <;> first | exact h.elim | rfl
set_option maxHeartbeats 0 in
theorem l__law_ahead : ∀ n ds Q, S__law_ahead n ds Q → t__law_ahead (defE Q) (startG n N__law_ahead ds) := by
  intro n ds Q h
  unfold S__law_ahead at h
  split at h
  · rename_i ds x y r c
    show t__law_ahead (defE Q) ⟨[some (.dat (.lst ds)), some (.dat (.tup [.int x, .int y])), some (.dat (.int r)), some (.dat (.int c)), none, none, none, none], n⟩
    obtain ⟨ms, rfl, hs, h⟩ := h
    have LN : ∀ L : List (Int × Int), L.length ≤ 4 → (L.map prD).length ≤ sizeLine := fun L hl => by rw [List.length_map]; exact Nat.le_trans hl (by decide)
    simp -implicitDefEqProofs only [t__law_ahead, ↓XB, XB, ↓XDm, XDm, ↓XRw, XRw, ↓XTx, XTx, ↓XC, XC, ↓XD, XD, ↓XT, XT, ↓XH, XH, ↓XA, XA, ↓XO, XO, ↓XL, XL, ↓XQE, XQE, ↓XW, XW, ↓XHd, XHd, ↓XP, ↓x_ifs, ↓XU, XU, XQ, eq_self, List.reverse_cons, List.reverse_nil, Int.cast_ofNat_Int, List.length_cons, List.length_nil, List.nil_append, List.cons_append, ne_eq, Nat.reduceAdd, Nat.reduceLeDiff, Int.reduceEq, Int.reduceLT, Int.reduceLE, Int.reduceToNat, Int.reducePow, Int.reduceAdd, Int.reduceMul, Int.reduceSub, Int.reduceNeg, List.getElem?_cons_zero, List.getElem?_cons_succ, dd_is_integer]
    refine ⟨LN ms hs.2.1, ?_⟩
    refine lc_prs1 (fun s => .tup [.int (x + s.1), .int (y + s.2)]) (fun m hm k k' q => ?_) ?_
    · simp -implicitDefEqProofs only [t__law_ahead, ↓XB, XB, ↓XDm, XDm, ↓XRw, XRw, ↓XTx, XTx, ↓XC, XC, ↓XD, XD, ↓XT, XT, ↓XH, XH, ↓XA, XA, ↓XO, XO, ↓XL, XL, ↓XQE, XQE, ↓XW, XW, ↓XHd, XHd, ↓XP, ↓x_ifs, ↓XU, XU, XQ, eq_self, List.reverse_cons, List.reverse_nil, Int.cast_ofNat_Int, List.length_cons, List.length_nil, List.nil_append, List.cons_append, ne_eq, Nat.reduceAdd, Nat.reduceLeDiff, Int.reduceEq, Int.reduceLT, Int.reduceLE, Int.reduceToNat, Int.reducePow, Int.reduceAdd, Int.reduceMul, Int.reduceSub, Int.reduceNeg, List.getElem?_cons_zero, List.getElem?_cons_succ, dd_is_integer]
      exact q
    simp -implicitDefEqProofs only [t__law_ahead, ↓XB, XB, ↓XDm, XDm, ↓XRw, XRw, ↓XTx, XTx, ↓XC, XC, ↓XD, XD, ↓XT, XT, ↓XH, XH, ↓XA, XA, ↓XO, XO, ↓XL, XL, ↓XQE, XQE, ↓XW, XW, ↓XHd, XHd, ↓XP, ↓x_ifs, ↓XU, XU, XQ, eq_self, List.reverse_cons, List.reverse_nil, Int.cast_ofNat_Int, List.length_cons, List.length_nil, List.nil_append, List.cons_append, ne_eq, Nat.reduceAdd, Nat.reduceLeDiff, Int.reduceEq, Int.reduceLT, Int.reduceLE, Int.reduceToNat, Int.reducePow, Int.reduceAdd, Int.reduceMul, Int.reduceSub, Int.reduceNeg, List.getElem?_cons_zero, List.getElem?_cons_succ, dd_is_integer]
    rw [show (ms.map fun s => D.tup [.int (x + s.1), .int (y + s.2)]) = (ms.map fun s => (x + s.1, y + s.2)).map prD by rw [List.map_map]; rfl]
    refine ⟨LN _ (by rw [List.length_map]; exact hs.2.1), ?_⟩
    refine lc_prs (boxB r c) prD (fun m hm k k' q => ?_) ?_
    · by_cases c1 : 0 ≤ m.1
      · by_cases c2 : m.1 < r
        · by_cases c3 : 0 ≤ m.2
          · by_cases c4 : m.2 < c
            · rw [if_pos (boxB_iff.mpr ⟨c1, c2, c3, c4⟩)] at q
              simp -implicitDefEqProofs only [t__law_ahead, ↓XB, XB, ↓XDm, XDm, ↓XRw, XRw, ↓XTx, XTx, ↓XC, XC, ↓XD, XD, ↓XT, XT, ↓XH, XH, ↓XA, XA, ↓XO, XO, ↓XL, XL, ↓XQE, XQE, ↓XW, XW, ↓XHd, XHd, ↓XP, ↓x_ifs, ↓XU, XU, XQ, eq_self, List.reverse_cons, List.reverse_nil, Int.cast_ofNat_Int, List.length_cons, List.length_nil, List.nil_append, List.cons_append, ne_eq, Nat.reduceAdd, Nat.reduceLeDiff, Int.reduceEq, Int.reduceLT, Int.reduceLE, Int.reduceToNat, Int.reducePow, Int.reduceAdd, Int.reduceMul, Int.reduceSub, Int.reduceNeg, List.getElem?_cons_zero, List.getElem?_cons_succ, dd_is_integer, c1, c2, c3, c4]
              exact q
            · rw [if_neg (by rw [boxB_iff]; exact fun z => c4 z.2.2.2)] at q
              simp -implicitDefEqProofs only [t__law_ahead, ↓XB, XB, ↓XDm, XDm, ↓XRw, XRw, ↓XTx, XTx, ↓XC, XC, ↓XD, XD, ↓XT, XT, ↓XH, XH, ↓XA, XA, ↓XO, XO, ↓XL, XL, ↓XQE, XQE, ↓XW, XW, ↓XHd, XHd, ↓XP, ↓x_ifs, ↓XU, XU, XQ, eq_self, List.reverse_cons, List.reverse_nil, Int.cast_ofNat_Int, List.length_cons, List.length_nil, List.nil_append, List.cons_append, ne_eq, Nat.reduceAdd, Nat.reduceLeDiff, Int.reduceEq, Int.reduceLT, Int.reduceLE, Int.reduceToNat, Int.reducePow, Int.reduceAdd, Int.reduceMul, Int.reduceSub, Int.reduceNeg, List.getElem?_cons_zero, List.getElem?_cons_succ, dd_is_integer, c1, c2, c3, c4]
              exact q
          · rw [if_neg (by rw [boxB_iff]; exact fun z => c3 z.2.2.1)] at q
            simp -implicitDefEqProofs only [t__law_ahead, ↓XB, XB, ↓XDm, XDm, ↓XRw, XRw, ↓XTx, XTx, ↓XC, XC, ↓XD, XD, ↓XT, XT, ↓XH, XH, ↓XA, XA, ↓XO, XO, ↓XL, XL, ↓XQE, XQE, ↓XW, XW, ↓XHd, XHd, ↓XP, ↓x_ifs, ↓XU, XU, XQ, eq_self, List.reverse_cons, List.reverse_nil, Int.cast_ofNat_Int, List.length_cons, List.length_nil, List.nil_append, List.cons_append, ne_eq, Nat.reduceAdd, Nat.reduceLeDiff, Int.reduceEq, Int.reduceLT, Int.reduceLE, Int.reduceToNat, Int.reducePow, Int.reduceAdd, Int.reduceMul, Int.reduceSub, Int.reduceNeg, List.getElem?_cons_zero, List.getElem?_cons_succ, dd_is_integer, c1, c2, c3]
            exact q
        · rw [if_neg (by rw [boxB_iff]; exact fun z => c2 z.2.1)] at q
          simp -implicitDefEqProofs only [t__law_ahead, ↓XB, XB, ↓XDm, XDm, ↓XRw, XRw, ↓XTx, XTx, ↓XC, XC, ↓XD, XD, ↓XT, XT, ↓XH, XH, ↓XA, XA, ↓XO, XO, ↓XL, XL, ↓XQE, XQE, ↓XW, XW, ↓XHd, XHd, ↓XP, ↓x_ifs, ↓XU, XU, XQ, eq_self, List.reverse_cons, List.reverse_nil, Int.cast_ofNat_Int, List.length_cons, List.length_nil, List.nil_append, List.cons_append, ne_eq, Nat.reduceAdd, Nat.reduceLeDiff, Int.reduceEq, Int.reduceLT, Int.reduceLE, Int.reduceToNat, Int.reducePow, Int.reduceAdd, Int.reduceMul, Int.reduceSub, Int.reduceNeg, List.getElem?_cons_zero, List.getElem?_cons_succ, dd_is_integer, c1, c2]
          exact q
      · rw [if_neg (by rw [boxB_iff]; exact fun z => c1 z.1)] at q
        simp -implicitDefEqProofs only [t__law_ahead, ↓XB, XB, ↓XDm, XDm, ↓XRw, XRw, ↓XTx, XTx, ↓XC, XC, ↓XD, XD, ↓XT, XT, ↓XH, XH, ↓XA, XA, ↓XO, XO, ↓XL, XL, ↓XQE, XQE, ↓XW, XW, ↓XHd, XHd, ↓XP, ↓x_ifs, ↓XU, XU, XQ, eq_self, List.reverse_cons, List.reverse_nil, Int.cast_ofNat_Int, List.length_cons, List.length_nil, List.nil_append, List.cons_append, ne_eq, Nat.reduceAdd, Nat.reduceLeDiff, Int.reduceEq, Int.reduceLT, Int.reduceLE, Int.reduceToNat, Int.reducePow, Int.reduceAdd, Int.reduceMul, Int.reduceSub, Int.reduceNeg, List.getElem?_cons_zero, List.getElem?_cons_succ, dd_is_integer, c1]
        exact q
    simp -implicitDefEqProofs only [t__law_ahead, ↓XB, XB, ↓XDm, XDm, ↓XRw, XRw, ↓XTx, XTx, ↓XC, XC, ↓XD, XD, ↓XT, XT, ↓XH, XH, ↓XA, XA, ↓XO, XO, ↓XL, XL, ↓XQE, XQE, ↓XW, XW, ↓XHd, XHd, ↓XP, ↓x_ifs, ↓XU, XU, XQ, eq_self, List.reverse_cons, List.reverse_nil, Int.cast_ofNat_Int, List.length_cons, List.length_nil, List.nil_append, List.cons_append, ne_eq, Nat.reduceAdd, Nat.reduceLeDiff, Int.reduceEq, Int.reduceLT, Int.reduceLE, Int.reduceToNat, Int.reducePow, Int.reduceAdd, Int.reduceMul, Int.reduceSub, Int.reduceNeg, List.getElem?_cons_zero, List.getElem?_cons_succ, dd_is_integer]
    refine so_prs fun qs h1 h2 => ?_
    simp -implicitDefEqProofs only [t__law_ahead, ↓XB, XB, ↓XDm, XDm, ↓XRw, XRw, ↓XTx, XTx, ↓XC, XC, ↓XD, XD, ↓XT, XT, ↓XH, XH, ↓XA, XA, ↓XO, XO, ↓XL, XL, ↓XQE, XQE, ↓XW, XW, ↓XHd, XHd, ↓XP, ↓x_ifs, ↓XU, XU, XQ, eq_self, List.reverse_cons, List.reverse_nil, Int.cast_ofNat_Int, List.length_cons, List.length_nil, List.nil_append, List.cons_append, ne_eq, Nat.reduceAdd, Nat.reduceLeDiff, Int.reduceEq, Int.reduceLT, Int.reduceLE, Int.reduceToNat, Int.reducePow, Int.reduceAdd, Int.reduceMul, Int.reduceSub, Int.reduceNeg, List.getElem?_cons_zero, List.getElem?_cons_succ, dd_is_integer]
    exact h qs (red_sort hs h1 h2)
  · exact h.elim
theorem look_rep {l : List Ent} {k q : Int × Int} : ∀ {F : Dic}, lookE (F.map fun kv => if kv.1 = k then (kv.1, l) else kv) q = if q = k ∧ F.any (fun kv => decide (kv.1 = k)) = true then l else lookE F q
  | [] => by simp [lookE]
  | (x, m) :: r => by
    have ih := look_rep (l := l) (k := k) (q := q) (F := r)
    rw [List.map_cons, List.any_cons]
    by_cases h : x = k
    · subst h
      show lookE ((if x = x then (x, l) else (x, m)) :: _) q = _
      rw [if_pos rfl]
      unfold lookE
      by_cases h2 : x = q
      · rw [if_pos h2, if_pos ⟨h2.symm, by simp⟩]
      · rw [if_neg h2, if_neg (fun z => h2 z.1.symm), if_neg h2, ih, if_neg (fun z => h2 z.1.symm)]
    · show lookE ((if x = k then (x, l) else (x, m)) :: _) q = _
      rw [if_neg h]
      unfold lookE
      by_cases h2 : x = q
      · rw [if_pos h2, if_pos h2, if_neg (fun z => h (h2.trans z.1))]
      · rw [if_neg h2, if_neg h2, ih, decide_eq_false h, Bool.false_or]
theorem look_app {l : List Ent} {k q : Int × Int} : ∀ {F : Dic}, F.any (fun kv => decide (kv.1 = k)) = false → lookE (F ++ [(k, l)]) q = if q = k then l else lookE F q
  | [], _ => by
    show (if k = q then l else []) = _
    by_cases h : q = k
    · rw [if_pos h, if_pos h.symm]
    · rw [if_neg h, if_neg (Ne.symm h)]; rfl
  | (x, m) :: r, h => by
    rw [List.any_cons, Bool.or_eq_false_iff] at h
    have hx : x ≠ k := by simpa using h.1
    have e1 : lookE ((x, m) :: r ++ [(k, l)]) q = if x = q then m else lookE (r ++ [(k, l)]) q := rfl
    have e2 : lookE ((x, m) :: r) q = if x = q then m else lookE r q := rfl
    rw [e1, e2]
    by_cases h2 : x = q
    · rw [if_pos h2, if_pos h2, if_neg fun z => hx (h2.trans z)]
    · rw [if_neg h2, if_neg h2, look_app h.2]
theorem look_put {l : List Ent} {k q : Int × Int} {F : Dic} : lookE (putE F k l) q = if q = k then l else lookE F q := by
  unfold putE
  by_cases h : F.any (fun kv => decide (kv.1 = k)) = true
  · rw [if_pos h, look_rep]
    by_cases h2 : q = k
    · rw [if_pos ⟨h2, h⟩, if_pos h2]
    · rw [if_neg (fun z => h2 z.1), if_neg h2]
  · rw [if_neg h, look_app (Bool.eq_false_iff.mpr h)]
theorem any_key {F : Dic} {k : Int × Int} : F.any (fun kv => decide (kv.1 = k)) = true ↔ k ∈ F.map (·.1) := by
  rw [List.any_eq_true, List.mem_map]
  constructor
  · rintro ⟨kv, h1, h2⟩; exact ⟨kv, h1, by simpa using h2⟩
  · rintro ⟨kv, h1, h2⟩; exact ⟨kv, h1, by simpa using h2⟩
theorem keys_rep {l : List Ent} {k : Int × Int} {F : Dic} : (F.map fun kv => if kv.1 = k then (kv.1, l) else kv).map (·.1) = F.map (·.1) := by
  rw [List.map_map]
  refine List.map_congr_left fun kv _ => ?_
  show (if kv.1 = k then (kv.1, l) else kv).1 = kv.1
  split <;> rfl
theorem keys_put {l : List Ent} {k : Int × Int} {F : Dic} {q : Int × Int} : q ∈ (putE F k l).map (·.1) ↔ q = k ∨ q ∈ F.map (·.1) := by
  unfold putE
  by_cases h : F.any (fun kv => decide (kv.1 = k)) = true
  · rw [if_pos h, keys_rep]
    exact ⟨.inr, fun z => z.elim (fun z => by rw [z]; exact any_key.mp h) id⟩
  · rw [if_neg h, List.map_append, List.mem_append]
    constructor
    · rintro (z | z)
      · exact .inr z
      · exact .inl (by simpa using z)
    · rintro (z | z)
      · exact .inr (by simp [z])
      · exact .inl z
theorem nd_put {l : List Ent} {k : Int × Int} {F : Dic} (h : (F.map (·.1)).Nodup) : ((putE F k l).map (·.1)).Nodup := by
  unfold putE
  by_cases e : F.any (fun kv => decide (kv.1 = k)) = true
  · rw [if_pos e, keys_rep]; exact h
  · rw [if_neg e, List.map_append, List.nodup_append]
    refine ⟨h, by simp, fun a ha b hb => ?_⟩
    have : b = k := by simpa using hb
    subst this
    intro z; subst z
    exact e (any_key.mpr ha)
theorem mem_ins {w : Int} {F : Dic} {e f : Ent} {k : Int × Int} (h : f ∈ lookE (insF w F e) k) : f ∈ lookE F k ∨ (f = e ∧ k = kOf w e) := by
  unfold insF at h
  rw [look_put] at h
  split at h
  · rename_i hk
    rcases List.mem_append.mp h with q | q
    · unfold lessE at q
      rw [List.mem_filter, ← hk] at q; exact .inl q.1
    · exact .inr ⟨by simpa using q, hk⟩
  · exact .inl h
theorem ints_le {B : Int} {l : List Int} (hb : 0 ≤ B) (h : l.Nodup) (g : ∀ x ∈ l, 0 ≤ x ∧ x ≤ B) : (l.length : Int) ≤ B + 1 := by
  have hn : (l.map Int.toNat).Nodup := by
    unfold List.Nodup at h ⊢
    rw [List.pairwise_map]
    refine List.Pairwise.imp_of_mem (fun {a b} ha hb ne e => ne ?_) h
    have := g a ha; have := g b hb; omega
  have := nodup_le (N := (B + 1).toNat) hn fun y hy => by
    obtain ⟨z, hz, rfl⟩ := List.mem_map.mp hy
    have := g z hz; omega
  rw [List.length_map] at this
  omega
theorem DicOk.len {w B : Int} {n : Nat} {F : Dic} (h : DicOk w B n F) (hw : 0 < w) : F.length ≤ (w * w).toNat := by
  have := box_le (A := w - 1) (lo := 0) (hi := w - 1) h.nd (fun k hk => by have := h.rg k hk; omega) (by omega) (by omega)
  rw [List.length_map] at this
  have e : (w - 1 + 1) * (w - 1 - 0 + 1) = w * w := by grind
  rw [e] at this; exact this
theorem fmod_rg {a w : Int} (h : 0 < w) : 0 ≤ a.fmod w ∧ a.fmod w < w := ⟨Int.fmod_nonneg_of_pos _ h, Int.fmod_lt_of_pos _ h⟩
theorem DicOk.ins {w B : Int} {n : Nat} {F : Dic} {e : Ent} (h : DicOk w B n F) (hw : 0 < w) (e1 : 0 ≤ e.1 ∧ e.1 ≤ B) (e2 : 0 ≤ e.2.1 ∧ e.2.1 ≤ B) (e3 : e.2.2.length = n) (g : gtrB (lookE F (kOf w e)) e = false) : DicOk w B n (insF w F e) := by
  refine ⟨nd_put h.nd, fun k hk => ?_, fun k f hf => ?_, fun k => ?_⟩
  · rcases keys_put.mp hk with rfl | hk
    · exact ⟨fmod_rg hw, fmod_rg hw⟩
    · exact h.rg k hk
  · rcases mem_ins hf with q | ⟨rfl, _⟩
    · exact h.en k f q
    · exact ⟨e1, e2, e3⟩
  · unfold insF
    rw [look_put]
    split
    · rw [List.pairwise_append]
      refine ⟨(h.an _).filter _, List.pairwise_singleton _ _, fun a ha b hb => ?_⟩
      have : b = e := by simpa using hb
      subst this
      unfold lessE at ha
      rw [List.mem_filter] at ha
      intro z
      have : gtrB (lookE F (kOf w b)) b = true := by
        unfold gtrB
        rw [List.any_eq_true]
        refine ⟨a, ha.1, ?_⟩
        have := ha.2
        unfold leE
        simp at this ⊢
        omega
      rw [this] at g; cases g
    · exact h.an k
theorem DicOk.nil {w B : Int} {n : Nat} : DicOk w B n [] := ⟨by simp, fun _ h => (by cases h), fun _ _ h => (by cases h), fun _ => List.Pairwise.nil⟩
theorem DicOk.mono {w B B' : Int} {n : Nat} {F : Dic} (h : DicOk w B n F) (hb : B ≤ B') : DicOk w B' n F := ⟨h.nd, h.rg, fun k f hf => by have := h.en k f hf; omega, h.an⟩
theorem llook_rep {l : LEnt} {k q : Int} : ∀ {F : LDic}, lookL (F.map fun kv => if kv.1 = k then (kv.1, l) else kv) q = if q = k ∧ F.any (fun kv => decide (kv.1 = k)) = true then some l else lookL F q
  | [] => by simp [lookL]
  | (x, m) :: r => by
    have ih := llook_rep (l := l) (k := k) (q := q) (F := r)
    have e : ∀ y z, lookL ((y, z) :: r) q = if y = q then some z else lookL r q := fun _ _ => rfl
    have e' : ∀ y z, lookL ((y, z) :: r.map fun kv => if kv.1 = k then (kv.1, l) else kv) q = if y = q then some z else lookL (r.map fun kv => if kv.1 = k then (kv.1, l) else kv) q := fun _ _ => rfl
    rw [List.map_cons, List.any_cons]
    by_cases h : x = k
    · subst h
      show lookL ((if x = x then (x, l) else (x, m)) :: _) q = _
      rw [if_pos rfl, e', e]
      by_cases h2 : x = q
      · rw [if_pos h2, if_pos ⟨h2.symm, by simp⟩]
      · rw [if_neg h2, if_neg (fun z => h2 z.1.symm), if_neg h2, ih, if_neg (fun z => h2 z.1.symm)]
    · show lookL ((if x = k then (x, l) else (x, m)) :: _) q = _
      rw [if_neg h, e', e]
      by_cases h2 : x = q
      · rw [if_pos h2, if_pos h2, if_neg (fun z => h (h2.trans z.1))]
      · rw [if_neg h2, if_neg h2, ih, decide_eq_false h, Bool.false_or]
theorem llook_app {l : LEnt} {k q : Int} : ∀ {F : LDic}, F.any (fun kv => decide (kv.1 = k)) = false → lookL (F ++ [(k, l)]) q = if q = k then some l else lookL F q
  | [], _ => by
    show (if k = q then some l else none) = _
    by_cases h : q = k
    · rw [if_pos h, if_pos h.symm]
    · rw [if_neg h, if_neg (Ne.symm h)]; rfl
  | (x, m) :: r, h => by
    rw [List.any_cons, Bool.or_eq_false_iff] at h
    have hx : x ≠ k := by simpa using h.1
    have e1 : lookL ((x, m) :: r ++ [(k, l)]) q = if x = q then some m else lookL (r ++ [(k, l)]) q := rfl
    have e2 : lookL ((x, m) :: r) q = if x = q then some m else lookL r q := rfl
    rw [e1, e2]
    by_cases h2 : x = q
    · rw [if_pos h2, if_pos h2, if_neg fun z => hx (h2.trans z)]
    · rw [if_neg h2, if_neg h2, llook_app h.2]
theorem llook_put {l : LEnt} {k q : Int} {F : LDic} : lookL (putL' F k l) q = if q = k then some l else lookL F q := by
  unfold putL'
  by_cases h : F.any (fun kv => decide (kv.1 = k)) = true
  · rw [if_pos h, llook_rep]
    by_cases h2 : q = k
    · rw [if_pos ⟨h2, h⟩, if_pos h2]
    · rw [if_neg (fun z => h2 z.1), if_neg h2]
  · rw [if_neg h, llook_app (Bool.eq_false_iff.mpr h)]
theorem lkey {F : LDic} {k : Int} : F.any (fun kv => decide (kv.1 = k)) = true ↔ ∃ g, lookL F k = some g := by
  induction F with
  | nil => simp [lookL]
  | cons x r ih =>
    obtain ⟨q, l⟩ := x
    have e : lookL ((q, l) :: r) k = if q = k then some l else lookL r k := rfl
    rw [List.any_cons, e]
    by_cases h : q = k
    · rw [if_pos h]; simp [h]
    · rw [if_neg h, decide_eq_false h, Bool.false_or]; exact ih
theorem lkeys {F : LDic} {k : Int} : k ∈ F.map (·.1) ↔ ∃ g, lookL F k = some g := by
  rw [← lkey, List.any_eq_true, List.mem_map]
  constructor
  · rintro ⟨kv, h1, h2⟩; exact ⟨kv, h1, by simpa using h2⟩
  · rintro ⟨kv, h1, h2⟩; exact ⟨kv, h1, by simpa using h2⟩
theorem push_mem {short : Int} {e : LEnt} : ∀ {r : List Int} {i : Nat} {ws : List LEnt} {x : LEnt}, x ∈ pushR short e r i ws ↔ x ∈ ws ∨ ∃ j z, r[j]? = some z ∧ z ≠ short ∧ x = (e.1 + z, addAt e.2 (i + j) 1)
  | [], i, ws, x => by
    show x ∈ ws ↔ _
    exact ⟨.inl, fun h => h.elim id fun ⟨j, z, h, _⟩ => by cases h⟩
  | y :: r, i, ws, x => by
    show x ∈ pushR short e r (i + 1) (if y ≠ short then (e.1 + y, addAt e.2 i 1) :: ws else ws) ↔ _
    rw [push_mem (r := r)]
    constructor
    · rintro (h | ⟨j, z, h1, h2, h3⟩)
      · split at h
        · rename_i q
          rcases List.mem_cons.mp h with rfl | h
          · exact .inr ⟨0, y, rfl, q, rfl⟩
          · exact .inl h
        · exact .inl h
      · exact .inr ⟨j + 1, z, h1, h2, by rw [h3, show i + 1 + j = i + (j + 1) by omega]⟩
    · rintro (h | ⟨j, z, h1, h2, h3⟩)
      · exact .inl (by split; exact List.mem_cons_of_mem _ h; exact h)
      · cases j with
        | zero =>
          have h1 : some y = some z := h1
          cases h1
          exact .inl (by rw [if_pos h2, h3]; exact List.mem_cons_self)
        | succ j => exact .inr ⟨j, z, h1, h2, by rw [h3, show i + 1 + j = i + (j + 1) by omega]⟩
theorem lkeys_put {l : LEnt} {k q : Int} {F : LDic} : q ∈ (putL' F k l).map (·.1) ↔ q = k ∨ q ∈ F.map (·.1) := by
  rw [lkeys, lkeys, llook_put]
  by_cases h : q = k
  · rw [if_pos h]; exact ⟨fun _ => .inl h, fun _ => ⟨_, rfl⟩⟩
  · rw [if_neg h]; exact ⟨.inr, fun z => z.elim (fun z => absurd z h) id⟩
theorem lkeys_rep {l : LEnt} {k : Int} {F : LDic} : (F.map fun kv => if kv.1 = k then (kv.1, l) else kv).map (·.1) = F.map (·.1) := by
  rw [List.map_map]
  refine List.map_congr_left fun kv _ => ?_
  show (if kv.1 = k then (kv.1, l) else kv).1 = kv.1
  split <;> rfl
theorem lnd_put {l : LEnt} {k : Int} {F : LDic} (h : (F.map (·.1)).Nodup) : ((putL' F k l).map (·.1)).Nodup := by
  unfold putL'
  by_cases e : F.any (fun kv => decide (kv.1 = k)) = true
  · rw [if_pos e, lkeys_rep]; exact h
  · rw [if_neg e, List.map_append, List.nodup_append]
    refine ⟨h, by simp, fun a ha b hb => ?_⟩
    have : b = k := by simpa using hb
    subst this
    intro z; subst z
    exact e (lkey.mpr (lkeys.mp ha))
theorem LinI.acc {short : Int} {zs : List Int} {F : LDic} {e : LEnt} {ws : List LEnt} (hs : 0 < short) (hz : ∀ z ∈ zs, 1 ≤ z) (h : LinI short F (e :: ws)) : LinI short (putL' F (e.1.fmod short) e) (pushR short e zs 0 ws) := by
  refine ⟨lnd_put h.nd, fun k hk => ?_, fun x hx => ?_⟩
  · rcases lkeys_put.mp hk with rfl | hk
    · exact fmod_rg hs
    · exact h.rg k hk
  · rcases push_mem.mp hx with hx | ⟨j, z, h1, h2, rfl⟩
    · exact h.ps x (List.mem_cons_of_mem _ hx)
    · have := h.ps e List.mem_cons_self
      have := hz z (List.mem_of_getElem? h1)
      show 0 ≤ e.1 + z; omega
theorem LinI.len {short : Int} {F : LDic} {ws : List LEnt} (h : LinI short F ws) (hs : 0 < short) : F.length ≤ short.toNat := by
  have := ints_le (B := short - 1) (l := F.map (·.1)) (by omega) h.nd fun k hk => by have := h.rg k hk; omega
  rw [List.length_map] at this; omega
theorem q_bl {a b : Bool} {f : Bool → Prop} : eqQ (.bl a) (.bl b) f = f (decide (a = b)) := by
  show (Pl 20 (.bl a) ∧ Pl 20 (.bl b) ∧ f (eqD (.bl a) (.bl b))) = _
  rw [e_bb]; simp [Pl]
theorem q_b11 {f : Bool → Prop} : eqQ (.bl true) (.bl true) f = f true := q_bl
theorem q_b00 {f : Bool → Prop} : eqQ (.bl false) (.bl false) f = f true := q_bl
theorem out_of {ps : List (Int × Int)} {f l : Int × Int} (h : outE ps = some (f, l)) : f ∈ ps ∧ l ∈ ps ∧ ∀ s ∈ ps, comesP f s ∧ comesP s l := by
  unfold outE at h
  cases hF : firstsL ps with
  | nil => rw [hF] at h; cases h
  | cons F r =>
    cases hL : lastsL ps with
    | nil => rw [hF, hL] at h; cases h
    | cons L r' =>
      rw [hF, hL] at h
      have h := Option.some.inj h
      obtain ⟨rfl, rfl⟩ := Prod.mk.inj h
      obtain ⟨a1, a2⟩ := List.mem_filter.mp (show F ∈ firstsL ps by rw [hF]; exact List.mem_cons_self)
      obtain ⟨b1, b2⟩ := List.mem_filter.mp (show L ∈ lastsL ps by rw [hL]; exact List.mem_cons_self)
      exact ⟨a1, b1, fun s hs => ⟨comesB_iff.mp (List.all_eq_true.mp a2 s hs), comesB_iff.mp (List.all_eq_true.mp b2 s hs)⟩⟩
theorem lineO_of {ps : List (Int × Int)} {L : Int × Int} (hz : ∀ p ∈ ps, p ≠ (0, 0)) (h : lineO ps = some L) : (∀ p ∈ ps, 1 ≤ tim L p) ∧ ∃ f ∈ ps, ∃ l ∈ ps, L = midL f l := by
  unfold lineO at h
  cases e : outE ps with
  | none => rw [e] at h; cases h
  | some fl =>
    obtain ⟨f, l⟩ := fl
    rw [e] at h
    have h : midL f l = L := Option.some.inj h
    subst h
    obtain ⟨hf, hl, hall⟩ := out_of e
    exact ⟨fun p hp => mid_legal (hz f hf) (hall l hl).1 (hall p hp).1 (hall p hp).2 (hz p hp), f, hf, l, hl, rfl⟩
theorem line_some {ps : List (Int × Int)} {L : Int × Int} (hne : ps ≠ []) (h : ∀ p ∈ ps, 1 ≤ tim L p) : (lineO ps).isSome = true := by
  obtain ⟨f, e, ho, _⟩ := out_half (l := L) hne fun p hp => by have := h p hp; omega
  unfold lineO
  rw [ho]
  rfl
theorem rng_drop {lo : Int} {n t : Nat} {d : D} {r : List D} (e : d :: r = (rangeD lo n).drop t) : t < n ∧ d = .int (lo + t) ∧ r = (rangeD lo n).drop (t + 1) := by
  have h0 : (rangeD lo n)[t]? = some d := by
    have : ((rangeD lo n).drop t)[0]? = some d := by rw [← e]; rfl
    rw [List.getElem?_drop] at this
    exact this
  rw [rangeD_get] at h0
  by_cases c : t < n
  · rw [if_pos c] at h0
    refine ⟨c, (Option.some.inj h0).symm, ?_⟩
    rw [← List.drop_drop, ← e]; rfl
  · rw [if_neg c] at h0; cases h0
theorem rng_done {lo : Int} {n t : Nat} (e : [] = (rangeD lo n).drop t) : n ≤ t := by
  have := congrArg List.length e
  rw [List.length_drop, rangeD_len] at this
  simp at this
  omega
theorem ledL_pos {x t : Int} (h0 : 1 ≤ t) (hx : 1 ≤ x) : ∃ d ∈ ledL x t, 1 ≤ d := by
  have nn : x.fdiv t = x / t := Int.fdiv_eq_ediv_of_nonneg _ (by omega)
  have mm : x.fmod t = x % t := Int.fmod_eq_emod_of_nonneg _ (by omega)
  have e1 := Int.mul_ediv_add_emod x t
  have e0 := Int.ediv_nonneg (a := x) (b := t) (by omega) (by omega)
  unfold ledL
  rw [nn, mm]
  split
  · rename_i c
    refine ⟨_, List.mem_singleton_self _, ?_⟩
    rcases Int.lt_or_le (x / t) 1 with z | z
    · have : x / t = 0 := by omega
      rw [this, Int.mul_zero] at e1
      omega
    · exact z
  · exact ⟨x / t + 1, List.mem_cons_of_mem _ (List.mem_singleton_self _), by omega⟩
theorem ledL_ne {x t : Int} : ∃ d, d ∈ ledL x t := by
  unfold ledL
  split
  · exact ⟨_, List.mem_singleton_self _⟩
  · exact ⟨_, List.mem_cons_self⟩
theorem tile_ne {ms qs : List (Int × Int)} {a b : Int} (hs : StepsOk ms) (ha : sizeOk a) (hb : sizeOk b) (h : SortSet (TileP ms a b) qs) : qs ≠ [] := by
  obtain ⟨s, hsm⟩ := List.exists_mem_of_length_pos (l := ms) (by have := hs.1; omega)
  have st := hs.2.2.1 s hsm
  unfold stepOk at st
  have : ∃ p, p ∈ qs := by
    by_cases z : s.1 = 0
    · obtain ⟨d, hd, d1⟩ := ledL_pos (x := s.2) hb.1 (st.2.2.2.2 z)
      obtain ⟨c, hc⟩ := ledL_ne (x := s.1) (t := a)
      exact ⟨(c, d), (h.2 _).mpr ⟨fun w => by have := (Prod.mk.inj w).2; omega, s, hsm, hc, hd⟩⟩
    · obtain ⟨d, hd, d1⟩ := ledL_pos (x := s.1) ha.1 (by omega)
      obtain ⟨c, hc⟩ := ledL_ne (x := s.2) (t := b)
      exact ⟨(d, c), (h.2 _).mpr ⟨fun w => by have := (Prod.mk.inj w).1; omega, s, hsm, hd, hc⟩⟩
  obtain ⟨p, hp⟩ := this
  intro z
  rw [z] at hp
  cases hp
theorem tile_bnd {ms qs : List (Int × Int)} {a b : Int} (hs : StepsOk ms) (ha : sizeOk a) (hb : sizeOk b) (h : SortSet (TileP ms a b) qs) : PlacesOk qs := by
  refine ⟨List.length_pos_iff.mpr (tile_ne hs ha hb h), ?_, fun p hp => ?_⟩
  · have := (tile_shw hs ha hb h).1; omega
  · have b1 := tile_small hs ha hb h hp
    refine ⟨⟨Nat.lt_of_le_of_lt b1.1 (by decide), Nat.lt_of_le_of_lt b1.2 (by decide)⟩, fun z => ((h.2 p).mp hp).1 (Prod.ext z.1 z.2)⟩
theorem L_tile_order : ∀ n ds Q, S_tile_order n ds Q → ds.length = ps_tile_order.length := by
  intro n ds Q h
  unfold S_tile_order at h
  split at h <;> first | exact h.elim | rfl
set_option maxHeartbeats 0 in
theorem l_tile_order : ∀ n ds Q, S_tile_order n ds Q → t_tile_order (defE Q) (startG n N_tile_order ds) := by
  intro n ds Q h
  unfold S_tile_order at h
  split at h
  · rename_i ds a b
    show t_tile_order (defE Q) ⟨[some (.dat (.lst ds)), some (.dat (.int a)), some (.dat (.int b))], n⟩
    obtain ⟨ms, rfl, hs, ha, hb, h⟩ := h
    simp -implicitDefEqProofs only [t_tile_order, ↓XB, XB, ↓XDm, XDm, ↓XRw, XRw, ↓XTx, XTx, ↓XC, XC, ↓XD, XD, ↓XT, XT, ↓XH, XH, ↓XA, XA, ↓XO, XO, ↓XL, XL, ↓XQE, XQE, ↓XW, XW, ↓XHd, XHd, ↓XP, ↓x_ifs, ↓XU, XU, XQ, eq_self, List.reverse_cons, List.reverse_nil, Int.cast_ofNat_Int, List.length_cons, List.length_nil, List.nil_append, List.cons_append, ne_eq, Nat.reduceAdd, Nat.reduceLeDiff, Int.reduceEq, Int.reduceLT, Int.reduceLE, Int.reduceToNat, Int.reducePow, Int.reduceAdd, Int.reduceMul, Int.reduceSub, Int.reduceNeg, List.getElem?_cons_zero, List.getElem?_cons_succ, dd_is_integer]
    refine ⟨ms, rfl, hs, ha, hb, ?_⟩
    try (simp -implicitDefEqProofs only [t_tile_order, ↓XB, XB, ↓XDm, XDm, ↓XRw, XRw, ↓XTx, XTx, ↓XC, XC, ↓XD, XD, ↓XT, XT, ↓XH, XH, ↓XA, XA, ↓XO, XO, ↓XL, XL, ↓XQE, XQE, ↓XW, XW, ↓XHd, XHd, ↓XP, ↓x_ifs, ↓XU, XU, XQ, eq_self, List.reverse_cons, List.reverse_nil, Int.cast_ofNat_Int, List.length_cons, List.length_nil, List.nil_append, List.cons_append, ne_eq, Nat.reduceAdd, Nat.reduceLeDiff, Int.reduceEq, Int.reduceLT, Int.reduceLE, Int.reduceToNat, Int.reducePow, Int.reduceAdd, Int.reduceMul, Int.reduceSub, Int.reduceNeg, List.getElem?_cons_zero, List.getElem?_cons_succ, dd_is_integer])
    refine ⟨ms, rfl, hs, ha, hb, fun qs hq => ?_⟩
    try (simp -implicitDefEqProofs only [t_tile_order, ↓XB, XB, ↓XDm, XDm, ↓XRw, XRw, ↓XTx, XTx, ↓XC, XC, ↓XD, XD, ↓XT, XT, ↓XH, XH, ↓XA, XA, ↓XO, XO, ↓XL, XL, ↓XQE, XQE, ↓XW, XW, ↓XHd, XHd, ↓XP, ↓x_ifs, ↓XU, XU, XQ, eq_self, List.reverse_cons, List.reverse_nil, Int.cast_ofNat_Int, List.length_cons, List.length_nil, List.nil_append, List.cons_append, ne_eq, Nat.reduceAdd, Nat.reduceLeDiff, Int.reduceEq, Int.reduceLT, Int.reduceLE, Int.reduceToNat, Int.reducePow, Int.reduceAdd, Int.reduceMul, Int.reduceSub, Int.reduceNeg, List.getElem?_cons_zero, List.getElem?_cons_succ, dd_is_integer])
    exact ⟨qs, rfl, tile_bnd hs ha hb hq, h qs hq⟩
  · exact h.elim
theorem L__law_at : ∀ n ds Q, S__law_at n ds Q → ds.length = ps__law_at.length := by
  intro n ds Q h
  unfold S__law_at at h
  split at h <;> first | exact h.elim | rfl
set_option maxHeartbeats 0 in
theorem l__law_at : ∀ n ds Q, S__law_at n ds Q → t__law_at (defE Q) (startG n N__law_at ds) := by
  intro n ds Q h
  unfold S__law_at at h
  split at h
  · rename_i a b x y
    show t__law_at (defE Q) ⟨[some (.dat (.tup [.int a, .int b])), some (.dat (.tup [.int x, .int y]))], n⟩
    obtain ⟨⟨h1, h2, h3, h4⟩, h⟩ := h
    simp -implicitDefEqProofs only [t__law_at, ↓XB, XB, ↓XDm, XDm, ↓XRw, XRw, ↓XTx, XTx, ↓XC, XC, ↓XD, XD, ↓XT, XT, ↓XH, XH, ↓XA, XA, ↓XO, XO, ↓XL, XL, ↓XQE, XQE, ↓XW, XW, ↓XHd, XHd, ↓XP, ↓x_ifs, ↓XU, XU, XQ, eq_self, List.reverse_cons, List.reverse_nil, Int.cast_ofNat_Int, List.length_cons, List.length_nil, List.nil_append, List.cons_append, ne_eq, Nat.reduceAdd, Nat.reduceLeDiff, Int.reduceEq, Int.reduceLT, Int.reduceLE, Int.reduceToNat, Int.reducePow, Int.reduceAdd, Int.reduceMul, Int.reduceSub, Int.reduceNeg, List.getElem?_cons_zero, List.getElem?_cons_succ, dd_is_integer]
    exact ⟨cm h1 h3, cm h2 h4, h⟩
  · exact h.elim
theorem wC_n {a : Wy} : wC a none = a := by cases a <;> rfl
theorem wC_comm {a b : Wy} : wC a b = wC b a := by
  cases a with
  | none => cases b <;> rfl
  | some a =>
    cases b with
    | none => rfl
    | some b => show some _ = some _; rw [Int.add_comm, Int.min_comm, Int.max_comm]
theorem wC_assoc {a b c : Wy} : wC (wC a b) c = wC a (wC b c) := by
  cases a with
  | none => rfl
  | some a =>
    cases b with
    | none => rfl
    | some b =>
      cases c with
      | none => rfl
      | some c => show some _ = some _; rw [Int.add_assoc, Int.min_assoc, Int.max_assoc]
theorem wC_left {a b c : Wy} : wC a (wC b c) = wC b (wC a c) := by rw [← wC_assoc, wC_comm (a := a), wC_assoc]
theorem wS_nil {α : Type} {f : α → Wy} : wS [] f = none := rfl
theorem wS_cons {α : Type} {f : α → Wy} {a : α} {l : List α} : wS (a :: l) f = wC (f a) (wS l f) := rfl
theorem wS_app {α : Type} {f : α → Wy} : ∀ {l m : List α}, wS (l ++ m) f = wC (wS l f) (wS m f)
  | [], _ => rfl
  | a :: l, m => by rw [List.cons_append, wS_cons, wS_cons, wS_app, wC_assoc]
theorem wS_congr {α : Type} {f g : α → Wy} : ∀ {l : List α}, (∀ a ∈ l, f a = g a) → wS l f = wS l g
  | [], _ => rfl
  | a :: l, h => by rw [wS_cons, wS_cons, h a List.mem_cons_self, wS_congr fun b hb => h b (List.mem_cons_of_mem _ hb)]
theorem wS_none {α : Type} {f : α → Wy} : ∀ {l : List α}, (∀ a ∈ l, f a = none) → wS l f = none
  | [], _ => rfl
  | a :: l, h => by rw [wS_cons, h a List.mem_cons_self, wS_none fun b hb => h b (List.mem_cons_of_mem _ hb)]; rfl
theorem wS_add {α : Type} {f g : α → Wy} : ∀ {l : List α}, wS l (fun a => wC (f a) (g a)) = wC (wS l f) (wS l g)
  | [] => rfl
  | a :: l => by rw [wS_cons, wS_cons, wS_cons, wS_add, wC_assoc, wC_assoc, wC_left (a := g a)]
theorem wS_swap {α β : Type} {F : α → β → Wy} {m : List β} : ∀ {l : List α}, wS l (fun a => wS m (F a)) = wS m (fun b => wS l fun a => F a b)
  | [] => (wS_none fun _ _ => rfl).symm
  | a :: l => by
    rw [wS_cons, wS_swap, ← wS_add]; rfl
theorem wS_map {α β : Type} {g : α → β} {f : β → Wy} : ∀ {l : List α}, wS (l.map g) f = wS l fun a => f (g a)
  | [] => rfl
  | a :: l => by rw [List.map_cons, wS_cons, wS_cons, wS_map]
section
variable {ms : List (Int × Int)}
def orig (x y : Int) : Wy := if x = 0 ∧ y = 0 then some (1, 0, 0) else none
end
def entW (e : Int × Int × Int × Int) : Key × D := (.inl e.1, tripD e.2)
def lookW : List (Int × Int × Int × Int) → Int → Wy
  | [], _ => none
  | e :: L, z => if e.1 = z then some e.2 else lookW L z
def putW (L : List (Int × Int × Int × Int)) (z : Int) (w : Int × Int × Int) : List (Int × Int × Int × Int) := if (L.any fun e => decide (e.1 = z)) = true then L.map (fun e => if e.1 = z then (e.1, w) else e) else L ++ [(z, w)]
structure RowW (L : List (Int × Int × Int × Int)) (r : Int → Wy) : Prop where
  nd : (L.map (·.1)).Nodup
  bd : ∀ e ∈ L, -400 ≤ e.1 ∧ e.1 ≤ 400
  lk : ∀ z, lookW L z = r z
theorem lookW_of {z : Int} {w : Int × Int × Int} : ∀ {L : List (Int × Int × Int × Int)}, (L.map (·.1)).Nodup → (z, w) ∈ L → lookW L z = some w
  | [], _, h => by cases h
  | e :: L, n, h => by
    rw [List.map_cons, List.nodup_cons] at n
    unfold lookW
    rcases List.mem_cons.mp h with q | q
    · rw [← q, if_pos rfl]
    · rw [if_neg (fun c => n.1 (by rw [c]; exact List.mem_map.mpr ⟨_, q, rfl⟩)), lookW_of n.2 q]
theorem lookW_app {z : Int} {M : List (Int × Int × Int × Int)} : ∀ {L : List (Int × Int × Int × Int)}, lookW (L ++ M) z = match lookW L z with | some w => some w | none => lookW M z
  | [] => rfl
  | e :: L => by
    show (if e.1 = z then some e.2 else lookW (L ++ M) z) = _
    rw [lookW, lookW_app]
    split <;> rfl
theorem lookW_upd {z y : Int} {w : Int × Int × Int} : ∀ {L : List (Int × Int × Int × Int)}, lookW (L.map fun e => if e.1 = z then (e.1, w) else e) y = match lookW L y with | some v => if y = z then some w else some v | none => none
  | [] => rfl
  | e :: L => by
    rw [List.map_cons, lookW, lookW, lookW_upd]
    by_cases c : e.1 = z
    · rw [if_pos c]
      dsimp only
      by_cases d : e.1 = y
      · rw [if_pos d, if_pos d]; dsimp only; rw [if_pos (by omega)]
      · rw [if_neg d, if_neg d]
    · rw [if_neg c]
      by_cases d : e.1 = y
      · rw [if_pos d, if_pos d]; dsimp only; rw [if_neg (by omega)]
      · rw [if_neg d, if_neg d]
theorem lookW_any {z : Int} : ∀ {L : List (Int × Int × Int × Int)}, (L.any fun e => decide (e.1 = z)) = (lookW L z).isSome
  | [] => rfl
  | e :: L => by
    rw [List.any_cons, lookW, lookW_any]
    by_cases c : e.1 = z
    · rw [if_pos c, decide_eq_true c]; rfl
    · rw [if_neg c, decide_eq_false c, Bool.false_or]
theorem RowW.put {L : List (Int × Int × Int × Int)} {r : Int → Wy} (h : RowW L r) {z : Int} {w : Int × Int × Int} (hz : -400 ≤ z ∧ z ≤ 400) : RowW (putW L z w) fun y => if y = z then some w else r y := by
  unfold putW
  by_cases c : (L.any fun e => decide (e.1 = z)) = true
  · rw [if_pos c]
    refine ⟨?_, fun e he => ?_, fun y => ?_⟩
    · rw [List.map_map, show L.map ((fun e => e.1) ∘ fun e => if e.1 = z then (e.1, w) else e) = L.map (·.1) from List.map_congr_left fun e _ => by
        show (if e.1 = z then (e.1, w) else e).1 = e.1
        split <;> rfl]
      exact h.nd
    · obtain ⟨e', h1, rfl⟩ := List.mem_map.mp he
      have := h.bd e' h1
      split <;> exact this
    · rw [lookW_upd, h.lk y]
      rw [lookW_any, h.lk z] at c
      by_cases d : y = z
      · subst d
        obtain ⟨v, e⟩ := Option.isSome_iff_exists.mp c
        rw [e]
      · rw [if_neg d]; cases r y with
        | none => rfl
        | some v => dsimp only; rw [if_neg d]
  · rw [if_neg c]
    rw [lookW_any, h.lk z] at c
    have hn : r z = none := by cases e : r z with | none => rfl | some v => rw [e] at c; exact absurd rfl c
    refine ⟨?_, fun e he => ?_, fun y => ?_⟩
    · rw [List.map_append]
      refine List.nodup_append.mpr ⟨h.nd, by simp, fun a ha b hb => ?_⟩
      rw [List.map_singleton, List.mem_singleton] at hb
      obtain ⟨⟨k, v⟩, h1, rfl⟩ := List.mem_map.mp ha
      intro q
      have := lookW_of h.nd h1
      rw [h.lk, show k = z from q.trans hb, hn] at this; cases this
    · rcases List.mem_append.mp he with q | q
      · exact h.bd e q
      · rw [List.mem_singleton] at q; subst q; exact hz
    · rw [lookW_app, h.lk y]
      by_cases d : y = z
      · subst d; rw [hn]; show (if y = y then some w else none) = _; simp
      · rw [if_neg d]; cases r y with
        | none => show (if z = y then some w else none) = _; rw [if_neg (fun q => d q.symm)]
        | some v => rfl
theorem RowW.len {L : List (Int × Int × Int × Int)} {r : Int → Wy} (h : RowW L r) : L.length ≤ 801 := by
  have h1 : ((L.map (·.1)).map fun k => (k + 400).toNat).Nodup := by
    refine List.pairwise_map.mpr (List.Pairwise.imp_of_mem (fun {a b} ha hb hab q => ?_) h.nd)
    obtain ⟨e, he, rfl⟩ := List.mem_map.mp ha
    obtain ⟨f, hf, rfl⟩ := List.mem_map.mp hb
    have := h.bd e he
    have := h.bd f hf
    exact hab (by omega)
  have := nodup_le (N := 801) h1 fun x hx => by
    obtain ⟨k, hk, rfl⟩ := List.mem_map.mp hx
    obtain ⟨e, he, rfl⟩ := List.mem_map.mp hk
    have := h.bd e he
    omega
  rwa [List.length_map, List.length_map] at this
theorem wS_lookL {q : Int} {f : Int × Int × Int → Wy} : ∀ {L : List (Int × Int × Int × Int)}, (L.map (·.1)).Nodup → wS L (fun e => if e.1 = q then f e.2 else none) = (lookW L q).bind f
  | [], _ => rfl
  | e :: L, n => by
    rw [List.map_cons, List.nodup_cons] at n
    rw [wS_cons, lookW]
    by_cases c : e.1 = q
    · rw [if_pos c, if_pos c, wS_none fun e' h' => ?_, wC_n]
      · rfl
      · rw [if_neg (fun c' => n.1 (by rw [c, ← c']; exact List.mem_map_of_mem h'))]
    · rw [if_neg c, if_neg c]
      exact wS_lookL n.2
structure RowsW (c : Ct) (as : List Addr) (R : Int → Int → Wy) : Prop where
  nd : as.Nodup
  at_ : ∀ (i : Nat) (a : Addr), as[i]? = some a → ∃ L, c.h a = some (.dK (L.map entW)) ∧ RowW L (R i)
def addW (R : Int → Int → Wy) (cs : List ((Int × Int) × Wy)) : Int → Int → Wy := fun j z => wC (R j z) (wS cs fun c => if c.1.1 = j ∧ c.1.2 = z then c.2 else none)
theorem RowsW.congr {c : Ct} {as : List Addr} {R S : Int → Int → Wy} (h : RowsW c as R) (e : ∀ j z, R j z = S j z) : RowsW c as S := by
  have : R = S := by funext j z; exact e j z
  exact this ▸ h
theorem RowsW.num {c m : Ct} {as : List Addr} {R : Int → Int → Wy} (h : RowsW c as R) (e : m.h = c.h) : RowsW m as R := ⟨h.nd, fun i a ha => let ⟨L, h1, h2⟩ := h.at_ i a ha; ⟨L, by rw [e]; exact h1, h2⟩⟩
theorem nodup_at {α : Type} {as : List α} (n : as.Nodup) {i j : Nat} {a : α} (h1 : as[i]? = some a) (h2 : as[j]? = some a) : i = j := by
  obtain ⟨hi, e1⟩ := List.getElem?_eq_some_iff.mp h1
  obtain ⟨hj, e2⟩ := List.getElem?_eq_some_iff.mp h2
  exact (List.getElem_inj n).mp (e1.trans e2.symm)
theorem RowsW.put {c : Ct} {as : List Addr} {R : Int → Int → Wy} (h : RowsW c as R) {i : Nat} {a : Addr} (ha : as[i]? = some a) {L : List (Int × Int × Int × Int)} (e : c.h a = some (.dK (L.map entW))) {z : Int} {w : Int × Int × Int} {v : Wy} (hz : -400 ≤ z ∧ z ≤ 400)
    (hw : some w = wC (R i z) v) : RowsW (c.set a (.dK ((putW L z w).map entW))) as (addW R [((i, z), v)]) := by
  refine ⟨h.nd, fun j b hb => ?_⟩
  by_cases q : b = a
  · subst q
    obtain rfl := nodup_at h.nd ha hb
    obtain ⟨L2, e2, r2⟩ := h.at_ i b ha
    rw [e] at e2
    have eL : L2.map entW = L.map entW := (D.dK.inj (Option.some.inj e2)).symm
    have inj : ∀ {A B : List (Int × Int × Int × Int)}, A.map entW = B.map entW → A = B := by
      intro A
      induction A with
      | nil => intro B h; cases B with | nil => rfl | cons _ _ => cases h
      | cons x A ih =>
        intro B h
        cases B with
        | nil => cases h
        | cons y B =>
          obtain ⟨h1, h2⟩ := List.cons.inj (show entW x :: A.map entW = entW y :: B.map entW from h)
          rw [ih h2]
          obtain ⟨x1, x2, x3, x4⟩ := x
          obtain ⟨y1, y2, y3, y4⟩ := y
          unfold entW tripD at h1
          simp only [Prod.mk.injEq, Sum.inl.injEq, D.tup.injEq, List.cons.injEq, D.int.injEq, and_true] at h1
          obtain ⟨rfl, rfl, rfl, rfl⟩ := h1
          rfl
    obtain rfl := inj eL
    refine ⟨_, x_setS, ?_⟩
    have r3 := r2.put (w := w) hz
    refine ⟨r3.nd, r3.bd, fun y => (r3.lk y).trans ?_⟩
    unfold addW
    rw [wS_cons, wS_nil, wC_n]
    dsimp only
    by_cases d : y = z
    · subst d; rw [if_pos rfl, if_pos ⟨rfl, rfl⟩]; exact hw
    · rw [if_neg d, if_neg (fun q => d q.2.symm), wC_n]
  · obtain ⟨L2, e2, r2⟩ := h.at_ j b hb
    refine ⟨L2, (if_neg q).trans e2, r2.nd, r2.bd, fun y => (r2.lk y).trans ?_⟩
    unfold addW
    rw [wS_cons, wS_nil, wC_n]
    dsimp only
    rw [if_neg (fun z => q ?_), wC_n]
    have : i = j := by have := z.1; omega
    subst this
    rw [ha] at hb; cases hb; rfl
section
variable {ms : List (Int × Int)} {us : List Int} {X Y : Int}
def acW (ms : List (Int × Int)) : List (Int × Int) := ms.filter fun d => decide (0 < d.1)
def preW (ms : List (Int × Int)) (X Y k j z : Int) : Wy := wC (orig j z) (wS (acW ms) fun d => if j - d.1 < k ∧ z - d.2 ≤ Y + 6 * (X - (j - d.1)) then wU (wy ms (j - d.1) (z - d.2)) else none)
theorem ac_ok (h : ∀ p ∈ ms, stepOk p) {d : Int × Int} (hd : d ∈ acW ms) : d ∈ ms ∧ 1 ≤ d.1 ∧ d.1 ≤ 6 ∧ -6 ≤ d.2 ∧ d.2 ≤ 6 := by
  obtain ⟨h1, h2⟩ := List.mem_filter.mp hd
  have := h d h1
  unfold stepOk at this
  have := of_decide_eq_true h2
  exact ⟨h1, by omega, by omega, by omega, by omega⟩
def conW (ms : List (Int × Int)) (X k g : Int) (e : Int × Int × Int × Int) : List ((Int × Int) × Wy) := (acW ms).map fun d => ((k + d.1, e.1 + d.2), if e.1 ≤ g ∧ k + d.1 ≤ X then wU (some e.2) else none)
theorem wS_flat {α β : Type} {h : α → List β} {f : β → Wy} : ∀ {l : List α}, wS (l.flatMap h) f = wS l fun a => wS (h a) f
  | [] => rfl
  | a :: l => by rw [List.flatMap_cons, wS_app, wS_cons, wS_flat]
theorem con_all {R : Int → Int → Wy} {L : List (Int × Int × Int × Int)} {k : Int} (hL : RowW L (R k)) (hk : ∀ z, z ≤ Y + 6 * (X - k) → R k z = wy ms k z) {j z : Int} (hj : j ≤ X) :
    addW R (L.flatMap (conW ms X k (Y + 6 * (X - k)))) j z = wC (R j z) (wS (acW ms) fun d => if j - d.1 = k ∧ z - d.2 ≤ Y + 6 * (X - k) then wU (wy ms k (z - d.2)) else none) := by
  unfold addW
  rw [wS_flat]
  congr 1
  have e1 : ∀ e : Int × Int × Int × Int, wS (conW ms X k (Y + 6 * (X - k)) e) (fun c => if c.1.1 = j ∧ c.1.2 = z then c.2 else none) = wS (acW ms) fun d => if e.1 = z - d.2 then (if j - d.1 = k ∧ z - d.2 ≤ Y + 6 * (X - k) then wU (some e.2) else none) else none := by
    intro e
    unfold conW
    rw [wS_map]
    refine wS_congr fun d _ => ?_
    dsimp only
    by_cases c : e.1 = z - d.2
    · rw [if_pos c]
      by_cases q : j - d.1 = k
      · rw [if_pos ⟨by omega, by omega⟩]
        by_cases t : z - d.2 ≤ Y + 6 * (X - k)
        · rw [if_pos ⟨by omega, by omega⟩, if_pos ⟨q, t⟩]
        · rw [if_neg (by omega), if_neg (by omega)]
      · rw [if_neg (by omega), if_neg (by omega)]
    · rw [if_neg c, if_neg (by omega)]
  rw [wS_congr fun e _ => e1 e, wS_swap]
  refine wS_congr fun d _ => ?_
  rw [wS_lookL (f := fun w => if j - d.1 = k ∧ z - d.2 ≤ Y + 6 * (X - k) then wU (some w) else none) hL.nd, hL.lk]
  by_cases t : j - d.1 = k ∧ z - d.2 ≤ Y + 6 * (X - k)
  · rw [if_pos t, hk _ t.2]
    cases wy ms k (z - d.2) with
    | none => rfl
    | some w => exact if_pos t
  · rw [if_neg t]
    cases R k (z - d.2) with
    | none => rfl
    | some w => exact if_neg t
theorem preW_next {k j z : Int} : wC (preW ms X Y k j z) (wS (acW ms) fun d => if j - d.1 = k ∧ z - d.2 ≤ Y + 6 * (X - k) then wU (wy ms k (z - d.2)) else none) = preW ms X Y (k + 1) j z := by
  unfold preW
  rw [wC_assoc, ← wS_add]
  congr 1
  refine wS_congr fun d _ => ?_
  by_cases c : j - d.1 = k
  · rw [if_neg (show ¬(j - d.1 < k ∧ z - d.2 ≤ Y + 6 * (X - (j - d.1))) by omega), c]
    by_cases t : z - d.2 ≤ Y + 6 * (X - k)
    · rw [if_pos ⟨rfl, t⟩, if_pos ⟨by omega, t⟩]; rfl
    · rw [if_neg (by omega), if_neg (by omega)]; rfl
  · rw [if_neg (show ¬(j - d.1 = k ∧ z - d.2 ≤ Y + 6 * (X - k)) from fun q => c q.1), wC_n]
    by_cases t : j - d.1 < k ∧ z - d.2 ≤ Y + 6 * (X - (j - d.1))
    · rw [if_pos t, if_pos ⟨by omega, t.2⟩]
    · rw [if_neg t, if_neg (fun q => t ⟨by omega, q.2⟩)]
structure TurnW (ms : List (Int × Int)) (X Y k : Int) (R : Int → Int → Wy) : Prop where
  pre : ∀ j z, k ≤ j → j ≤ X → R j z = preW ms X Y k j z
  fin : X < k → ∀ z, z ≤ Y → R X z = wy ms X z
theorem TurnW.next {R R1 : Int → Int → Wy} {L : List (Int × Int × Int × Int)} {k : Int} (hk : k ≤ X) (h : TurnW ms X Y k R) (hs : ∀ p ∈ ms, stepOk p) (h1 : ∀ j z, j ≠ k → R1 j z = R j z) (h2 : ∀ z, z ≤ Y + 6 * (X - k) → R1 k z = wy ms k z) (hL : RowW L (R1 k)) :
    TurnW ms X Y (k + 1) (addW R1 (L.flatMap (conW ms X k (Y + 6 * (X - k))))) := by
  refine ⟨fun j z a b => ?_, fun q z hz => ?_⟩
  · rw [con_all hL h2 b, h1 j z (by omega), h.pre j z (by omega) b, preW_next]
  · have : X = k := by omega
    subst this
    rw [con_all hL h2 (Int.le_refl _), wS_none fun d hd => ?_, wC_n]
    · exact h2 z (by omega)
    · obtain ⟨_, a, _⟩ := ac_ok hs hd
      rw [if_neg (by omega)]
end
theorem set_comm {c : Ct} {a b : Addr} {d e : D} (h : b ≠ a) : (c.set a d).set b e = (c.set b e).set a d := by
  unfold Ct.set
  congr 1
  funext q
  dsimp only
  by_cases z : q = b
  · rw [if_pos z, if_neg (fun y => h (z.symm.trans y)), if_pos z]
  · rw [if_neg z, if_neg z]
theorem set_set {c : Ct} {a : Addr} {d e : D} : (c.set a d).set a e = c.set a e := by
  unfold Ct.set
  congr 1
  funext q
  dsimp only
  by_cases z : q = a
  · rw [if_pos z, if_pos z]
  · rw [if_neg z, if_neg z, if_neg z]
theorem set_same {c : Ct} {a : Addr} {d : D} (h : c.h a = some d) : c.set a d = c := by
  obtain ⟨n, f⟩ := c
  unfold Ct.set
  congr 1
  funext q
  by_cases z : q = a
  · subst z; rw [if_pos rfl]; exact h.symm
  · rw [if_neg z]
theorem tiles_mem {p : Int × Int} : p ∈ tiles ↔ inB 7 7 p.1 p.2 := by
  unfold tiles inB
  simp only [List.mem_flatMap, List.mem_map, List.mem_range]
  constructor
  · rintro ⟨i, hi, j, hj, rfl⟩
    dsimp only
    omega
  · rintro ⟨h1, h2, h3, h4⟩
    exact ⟨p.1.toNat, by omega, p.2.toNat, by omega, Prod.ext (by dsimp only; omega) (by dsimp only; omega)⟩
theorem tiles_keys {A : Int × Int → Addr} : (mobT A tiles).map (·.1) = tiles7 := by
  unfold mobT tiles tiles7
  rw [List.map_map, List.map_flatMap]
  simp only [List.map_map]
  rfl
theorem tiles_nd : tiles.Nodup := by decide +kernel
theorem tileT {a b : Int} {s : Int × Int} (ha : 1 ≤ a) (hb : 1 ≤ b) (h : inB (7 * a) (7 * b) s.1 s.2) : tileOf a b s ∈ tiles := by
  rw [tiles_mem]
  obtain ⟨h1, h2, h3, h4⟩ := h
  unfold tileOf inB
  rw [Int.fdiv_eq_ediv_of_nonneg _ (by omega), Int.fdiv_eq_ediv_of_nonneg _ (by omega)]
  refine ⟨Int.ediv_nonneg h1 (by omega), Int.ediv_lt_of_lt_mul (by omega) ?_, Int.ediv_nonneg h3 (by omega), Int.ediv_lt_of_lt_mul (by omega) ?_⟩
  · omega
  · omega
theorem valD_mob {A : Int × Int → Addr} {x y : Int} : ∀ {L : List (Int × Int)}, (x, y) ∈ L → valD (mobT A L) [.inl x, .inl y] = some (.mob (A (x, y)))
  | p :: L, h => by
    show (if keyP p = [.inl x, .inl y] then some (D.mob (A p)) else valD (mobT A L) _) = _
    by_cases e : keyP p = [.inl x, .inl y]
    · have e2 : p = (x, y) := keyP_inj (p := p) (q := (x, y)) e
      rw [if_pos e, e2]
    · rw [if_neg e]
      exact valD_mob ((List.mem_cons.mp h).resolve_left fun z => e (by rw [← z]; rfl))
theorem valD_mobN {A : Int × Int → Addr} {x y : Int} : ∀ {L : List (Int × Int)}, (x, y) ∉ L → valD (mobT A L) [.inl x, .inl y] = none
  | [], _ => rfl
  | p :: L, h => by
    show (if keyP p = [.inl x, .inl y] then some (D.mob (A p)) else valD (mobT A L) _) = _
    have e : ¬ keyP p = [.inl x, .inl y] := fun z => h (by rw [keyP_inj (p := p) (q := (x, y)) z]; exact List.mem_cons_self)
    rw [if_neg e]
    exact valD_mobN fun z => h (List.mem_cons_of_mem _ z)
theorem putD_mob {A : Int × Int → Addr} {x y : Int} {a : Addr} {L : List (Int × Int)} (h : (x, y) ∉ L) : putD (mobT A L) [.inl x, .inl y] (.mob a) = mobT (fun q => if q = (x, y) then a else A q) (L ++ [(x, y)]) := by
  unfold putD
  have e : ((mobT A L).any fun kv => decide (kv.1 = [.inl x, .inl y])) = false := by
    rw [Bool.eq_false_iff]
    intro z
    obtain ⟨kv, hk, e⟩ := List.any_eq_true.mp z
    obtain ⟨p, hp, rfl⟩ := List.mem_map.mp hk
    exact h (by rw [← keyP_inj (p := p) (q := (x, y)) (of_decide_eq_true e)]; exact hp)
  rw [e, if_neg Bool.false_ne_true]
  unfold mobT
  rw [List.map_append]
  congr 1
  · refine List.map_congr_left fun p hp => ?_
    have e : ¬ p = (x, y) := fun z => h (by rw [← z]; exact hp)
    dsimp only
    rw [if_neg e]
  · show _ = [(keyP (x, y), D.mob (if (x, y) = (x, y) then a else A (x, y)))]
    rw [if_pos rfl]; rfl
theorem WtC.new {n N : Ct} {A : Int × Int → Addr} {L : List (Int × Int)} {p : Int × Int} {a : Addr} (h : WtC n N A (fun _ => []) L) (hp : p ∉ L) (ha : N.h a = none) : WtC n (N.set a (.dT [])) (fun q => if q = p then a else A q) (fun _ => []) (L ++ [p]) := by
  obtain ⟨h1, h2, h3, h4, h5⟩ := h
  have na : n.h a = none := by
    cases e : n.h a with
    | none => rfl
    | some x => rw [h2 a (by rw [e]; intro z; cases z), e] at ha; cases ha
  have ne : ∀ q ∈ L, A q ≠ a := fun q hq z => by
    have := h5 q hq
    rw [z, ha] at this; cases this
  have nq : ∀ q ∈ L, q ≠ p := fun q hq z => hp (by rw [← z]; exact hq)
  refine ⟨h1, fun x hx => ?_, fun q hq r hr e => ?_, fun q hq => ?_, fun q hq => ?_⟩
  · show (if x = a then _ else N.h x) = _
    rw [if_neg fun z => hx (by rw [z]; exact na)]
    exact h2 x hx
  · dsimp only at e
    rcases List.mem_append.mp hq with hq | hq <;> rcases List.mem_append.mp hr with hr | hr
    · rw [if_neg (nq q hq), if_neg (nq r hr)] at e; exact h3 q hq r hr e
    · rw [if_neg (nq q hq), if_pos (List.mem_singleton.mp hr)] at e; exact (ne q hq e).elim
    · rw [if_neg (nq r hr), if_pos (List.mem_singleton.mp hq)] at e; exact (ne r hr e.symm).elim
    · rw [List.mem_singleton.mp hq, List.mem_singleton.mp hr]
  · dsimp only
    rcases List.mem_append.mp hq with hq | hq
    · rw [if_neg (nq q hq)]; exact h4 q hq
    · rw [if_pos (List.mem_singleton.mp hq)]; exact na
  · dsimp only
    rcases List.mem_append.mp hq with hq | hq
    · rw [if_neg (nq q hq)]
      show (if A q = a then _ else N.h _) = _
      rw [if_neg (ne q hq)]; exact h5 q hq
    · rw [if_pos (List.mem_singleton.mp hq)]
      show (if a = a then _ else N.h _) = _
      rw [if_pos rfl]; rfl
theorem WtC.put {n N : Ct} {A : Int × Int → Addr} {I : Int × Int → List (Int × Int)} {L : List (Int × Int)} {p q : Int × Int} (h : WtC n N A I L) (hp : p ∈ L) : WtC n (N.set (A p) (.dT (dictD (insE (I p) q)))) A (fun r => if r = p then insE (I p) q else I r) L := by
  obtain ⟨h1, h2, h3, h4, h5⟩ := h
  refine ⟨h1, fun x hx => ?_, h3, h4, fun r hr => ?_⟩
  · show (if x = A p then _ else N.h x) = _
    rw [if_neg fun z => hx (by rw [z]; exact h4 p hp)]
    exact h2 x hx
  · show (if A r = A p then _ else N.h (A r)) = _
    by_cases e : r = p
    · subst e; rw [if_pos rfl]; dsimp only; rw [if_pos rfl]
    · rw [if_neg fun z => e (h3 r hr p hp z)]; dsimp only; rw [if_neg e]; exact h5 r hr
def TwInv (n c : Ct) (a b : Int) (A : Int × Int → Addr) (I : Int × Int → List (Int × Int)) (T : Int × Int → Int × Int → Prop) : Prop :=
  WtC n c A I tiles ∧ ∀ p ∈ tiles, (I p).Nodup ∧ (∀ q ∈ I p, q ∈ tiles) ∧ ∀ q, q ∈ I p ↔ WaitT a b T p q
theorem TwInv.len {n c : Ct} {a b : Int} {A : Int × Int → Addr} {I : Int × Int → List (Int × Int)} {T : Int × Int → Int × Int → Prop} {p : Int × Int} (h : TwInv n c a b A I T) (hp : p ∈ tiles) : (I p).length ≤ 49 :=
  nodup_sub (h.2 p hp).1 (h.2 p hp).2.1
theorem TwInv.imp {n c : Ct} {a b : Int} {A : Int × Int → Addr} {I : Int × Int → List (Int × Int)} {T T' : Int × Int → Int × Int → Prop} (h : TwInv n c a b A I T) (e : ∀ s r, T s r ↔ T' s r) : TwInv n c a b A I T' := by
  have : T = T' := funext fun s => funext fun r => propext (e s r)
  rw [← this]; exact h
theorem TwInv.nop {n c : Ct} {a b : Int} {A : Int × Int → Addr} {I : Int × Int → List (Int × Int)} {T : Int × Int → Int × Int → Prop} {s r : Int × Int} (h : TwInv n c a b A I T) (e : tileOf a b s = tileOf a b r) : TwInv n c a b A I (fun s' r' => T s' r' ∨ (s' = s ∧ r' = r)) := by
  refine ⟨h.1, fun p hp => ⟨(h.2 p hp).1, (h.2 p hp).2.1, fun q => ((h.2 p hp).2.2 q).trans ?_⟩⟩
  constructor
  · rintro ⟨hn, s', r', ht, e1, e2⟩; exact ⟨hn, s', r', .inl ht, e1, e2⟩
  · rintro ⟨hn, s', r', ht | ⟨rfl, rfl⟩, e1, e2⟩
    · exact ⟨hn, s', r', ht, e1, e2⟩
    · exact (hn (by rw [← e1, ← e2, e])).elim
theorem TwInv.add {n c : Ct} {a b : Int} {A : Int × Int → Addr} {I : Int × Int → List (Int × Int)} {T : Int × Int → Int × Int → Prop} {s r : Int × Int} (h : TwInv n c a b A I T) (hs : tileOf a b s ∈ tiles) (hr : tileOf a b r ∈ tiles) (e : tileOf a b s ≠ tileOf a b r) :
    TwInv n (c.set (A (tileOf a b r)) (.dT (dictD (insE (I (tileOf a b r)) (tileOf a b s))))) a b A (fun p => if p = tileOf a b r then insE (I (tileOf a b r)) (tileOf a b s) else I p) (fun s' r' => T s' r' ∨ (s' = s ∧ r' = r)) := by
  refine ⟨h.1.put hr, fun p hp => ?_⟩
  dsimp only
  by_cases c : p = tileOf a b r
  · rw [if_pos c]
    obtain ⟨h1, h2, h3⟩ := h.2 _ hr
    refine ⟨insE_nodup h1, fun q hq => ?_, fun q => ?_⟩
    · rcases insE_mem.mp hq with hq | rfl
      · exact h2 q hq
      · exact hs
    · rw [insE_mem, h3 q, c]
      constructor
      · rintro (⟨hn, s', r', ht, e1, e2⟩ | rfl)
        · exact ⟨hn, s', r', .inl ht, e1, e2⟩
        · exact ⟨e, s, r, .inr ⟨rfl, rfl⟩, rfl, rfl⟩
      · rintro ⟨hn, s', r', ht | ⟨rfl, rfl⟩, e1, e2⟩
        · exact .inl ⟨hn, s', r', ht, e1, e2⟩
        · exact .inr e1.symm
  · rw [if_neg c]
    refine ⟨(h.2 p hp).1, (h.2 p hp).2.1, fun q => ((h.2 p hp).2.2 q).trans ?_⟩
    constructor
    · rintro ⟨hn, s', r', ht, e1, e2⟩; exact ⟨hn, s', r', .inl ht, e1, e2⟩
    · rintro ⟨hn, s', r', ht | ⟨rfl, rfl⟩, e1, e2⟩
      · exact ⟨hn, s', r', ht, e1, e2⟩
      · exact (c e2.symm).elim
theorem take_up : ∀ t < 7, ∀ u < 7, tiles.take (7 * t + u) ++ [((t : Int), (u : Int))] = tiles.take (7 * t + (u + 1)) ∧ ((t : Int), (u : Int)) ∉ tiles.take (7 * t + u) := by decide +kernel
def t_waits2 : DS := dSeq (dFor (dRng1 (dCons (dBin dMul (dC (.int 7)) (dVar 1)) (dNil))) (dgName 4) (dFor (dRng1 (dCons (dBin dMul (dC (.int 7)) (dVar 2)) (dNil))) (dgName 5) (dFor (dWalk (dCall 4 0 S__law_ahead (fun ds _ => ds) (dCons (dVar 0) (dCons (dTup (dCons (dVar 4) (dCons (dVar 5) (dNil)))) (dCons (dBin dMul (dC (.int 7)) (dVar 1)) (dCons (dBin dMul (dC (.int 7)) (dVar 2)) (dNil))))) dNil)) (dgTup 2 (dgCons (dgName 6) (dgCons (dgName 7) (dgNil)))) (dSeq (dPar2 8 9 (dTup (dCons (dBin dFdv (dVar 4) (dVar 1)) (dCons (dBin dFdv (dVar 5) (dVar 2)) (dNil)))) (dTup (dCons (dBin dFdv (dVar 6) (dVar 1)) (dCons (dBin dFdv (dVar 7) (dVar 2)) (dNil)))))
    (dIfS (dTst (dBin dNe (dVar 8) (dVar 9))) (dPutM (dBin dIx (dVar 3) (dVar 9)) (dC (.bl true)) (dVar 8)) (dNext))))))
    (dRet (dVar 3))
theorem L__law_waits : ∀ n ds Q, S__law_waits n ds Q → ds.length = ps__law_waits.length := by
  intro n ds Q h
  unfold S__law_waits at h
  split at h <;> first | exact h.elim | rfl
set_option maxHeartbeats 0 in
theorem l__law_waits : ∀ n ds Q, S__law_waits n ds Q → t__law_waits (defE Q) (startG n N__law_waits ds) := by
  intro n ds Q h
  unfold S__law_waits at h
  split at h
  · rename_i ds a b
    show t__law_waits (defE Q) ⟨[some (.dat (.lst ds)), some (.dat (.int a)), some (.dat (.int b)), none, none, none, none, none, none, none], n⟩
    obtain ⟨ms, rfl, hs, ⟨a1, a2⟩, ⟨b1, b2⟩, h⟩ := h
    have la : a.natAbs.log2 < 9000 := Nat.lt_trans (log2_lt (k := 2) (by omega) (by decide)) (by decide)
    have lb : b.natAbs.log2 < 9000 := Nat.lt_trans (log2_lt (k := 2) (by omega) (by decide)) (by decide)
    have stage : ∀ (A : Int × Int → Addr) (c : Ct) (o4 o5 : Option SC), WtC n c A (fun _ => []) tiles → t_waits2 (defE Q) ⟨[some (.dat (.lst (ms.map prD))), some (.dat (.int a)), some (.dat (.int b)), some (.own (.dT (mobT A tiles))), o4, o5, none, none, none, none], c⟩ := by
      intro A c o4 o5 hc
      simp -implicitDefEqProofs only [t__law_waits, ↓XB, XB, ↓XDm, XDm, ↓XRw, XRw, ↓XTx, XTx, ↓XC, XC, ↓XD, XD, ↓XT, XT, ↓XH, XH, ↓XA, XA, ↓XO, XO, ↓XL, XL, ↓XQE, XQE, ↓XW, XW, ↓XHd, XHd, ↓XP, ↓x_ifs, ↓XU, XU, XQ, eq_self, List.reverse_cons, List.reverse_nil, Int.cast_ofNat_Int, List.length_cons, List.length_nil, List.nil_append, List.cons_append, ne_eq, Nat.reduceAdd, Nat.reduceLeDiff, Int.reduceEq, Int.reduceLT, Int.reduceLE, Int.reduceToNat, Int.reducePow, Int.reduceAdd, Int.reduceMul, Int.reduceSub, Int.reduceNeg, List.getElem?_cons_zero, List.getElem?_cons_succ, dd_is_integer, t_waits2]
      (repeat (refine ⟨by (first | omega | exact cm (by omega) (by omega) | exact lg (by omega) | exact pw10 (by decide) | decide +kernel), ?_⟩))
      have hc0 : TwInv n c a b A (fun _ => []) fun s r => s.1 < ((0 : Nat) : Int) ∧ AllT ms a b s r := ⟨hc, fun p hp => ⟨List.nodup_nil, fun _ h => (List.not_mem_nil h).elim, fun q => ⟨fun h => (List.not_mem_nil h).elim, fun ⟨_, s, r, ⟨h1, h2, _⟩, _, _⟩ => by have := h2.1; omega⟩⟩⟩
      have ea : ((7 * a).toNat : Int) = 7 * a := by omega
      have eb : ((7 * b).toNat : Int) = 7 * b := by omega
      refine for_inv (fun r G => ∃ (t : Nat) (c : Ct) (I : Int × Int → List (Int × Int)) (o4 o5 o6 o7 o8 o9 : Option SC), r = (rangeD 0 (7 * a).toNat).drop t ∧ t ≤ (7 * a).toNat ∧ (TwInv n c a b A I fun s r => s.1 < (t : Int) ∧ AllT ms a b s r) ∧ G = ⟨[some (.dat (.lst (ms.map prD))), some (.dat (.int a)), some (.dat (.int b)), some (.own (.dT (mobT A tiles))), o4, o5, o6, o7, o8, o9], c⟩) ?_ _ ?_ _ ⟨0, c, _, _, _, _, _, _, _, rfl, by omega, hc0, rfl⟩
      · rintro G ⟨t, c, I, o4, o5, o6, o7, o8, o9, e1, t1, hc, rfl⟩
        have := rng_done e1
        simp -implicitDefEqProofs only [t__law_waits, ↓XB, XB, ↓XDm, XDm, ↓XRw, XRw, ↓XTx, XTx, ↓XC, XC, ↓XD, XD, ↓XT, XT, ↓XH, XH, ↓XA, XA, ↓XO, XO, ↓XL, XL, ↓XQE, XQE, ↓XW, XW, ↓XHd, XHd, ↓XP, ↓x_ifs, ↓XU, XU, XQ, eq_self, List.reverse_cons, List.reverse_nil, Int.cast_ofNat_Int, List.length_cons, List.length_nil, List.nil_append, List.cons_append, ne_eq, Nat.reduceAdd, Nat.reduceLeDiff, Int.reduceEq, Int.reduceLT, Int.reduceLE, Int.reduceToNat, Int.reducePow, Int.reduceAdd, Int.reduceMul, Int.reduceSub, Int.reduceNeg, List.getElem?_cons_zero, List.getElem?_cons_succ, dd_is_integer]
        refine h A I c hc.1.1 hc.1 fun p hp => ⟨hc.len hp, ?_⟩
        exact ((hc.imp fun s r => ⟨fun h => h.2, fun h => ⟨by have := h.1.2.1; omega, h⟩⟩).2 p hp).2.2
      · rintro d r G M hsf ⟨t, c, I, o4, o5, o6, o7, o8, o9, e1, t1, hc, rfl⟩ hM
        obtain ⟨t2, rfl, er⟩ := rng_drop e1
        simp -implicitDefEqProofs only [t__law_waits, ↓XB, XB, ↓XDm, XDm, ↓XRw, XRw, ↓XTx, XTx, ↓XC, XC, ↓XD, XD, ↓XT, XT, ↓XH, XH, ↓XA, XA, ↓XO, XO, ↓XL, XL, ↓XQE, XQE, ↓XW, XW, ↓XHd, XHd, ↓XP, ↓x_ifs, ↓XU, XU, XQ, eq_self, List.reverse_cons, List.reverse_nil, Int.cast_ofNat_Int, List.length_cons, List.length_nil, List.nil_append, List.cons_append, ne_eq, Nat.reduceAdd, Nat.reduceLeDiff, Int.reduceEq, Int.reduceLT, Int.reduceLE, Int.reduceToNat, Int.reducePow, Int.reduceAdd, Int.reduceMul, Int.reduceSub, Int.reduceNeg, List.getElem?_cons_zero, List.getElem?_cons_succ, dd_is_integer]
        (repeat (refine ⟨by (first | omega | exact cm (by omega) (by omega) | exact lg (by omega) | exact pw10 (by decide) | decide +kernel), ?_⟩))
        rw [show (0 : Int) + t = t from Int.zero_add _]
        refine for_inv (fun r G => ∃ (u : Nat) (c : Ct) (I : Int × Int → List (Int × Int)) (o5 o6 o7 o8 o9 : Option SC), r = (rangeD 0 (7 * b).toNat).drop u ∧ u ≤ (7 * b).toNat ∧ (TwInv n c a b A I fun s r => (s.1 < (t : Int) ∨ s.1 = t ∧ s.2 < (u : Int)) ∧ AllT ms a b s r) ∧ G = ⟨[some (.dat (.lst (ms.map prD))), some (.dat (.int a)), some (.dat (.int b)), some (.own (.dT (mobT A tiles))), some (.dat (.int t)), o5, o6, o7, o8, o9], c⟩) ?_ _ ?_ _ ⟨0, c, I, o5, o6, o7, o8, o9, rfl, by omega, hc.imp fun s r => ⟨fun h => ⟨.inl h.1, h.2⟩, fun h => ⟨h.1.elim id fun z => by have := h.2.1.2.2.1; omega, h.2⟩⟩, rfl⟩
        · rintro G ⟨u, c, I, o5, o6, o7, o8, o9, e1, u1, hc, rfl⟩
          have := rng_done e1
          refine hM _ ⟨t + 1, c, I, _, _, _, _, _, _, er, by omega, hc.imp fun s r => ⟨fun h => ⟨by have := h.1; omega, h.2⟩, fun h => ⟨by have h1 := h.1; have h2 := h.2.1.2.2.2; omega, h.2⟩⟩, rfl⟩
        · rintro d r G M2 hsf ⟨u, c, I, o5, o6, o7, o8, o9, e1, u1, hc, rfl⟩ hM2
          obtain ⟨u2, rfl, er2⟩ := rng_drop e1
          simp -implicitDefEqProofs only [t__law_waits, ↓XB, XB, ↓XDm, XDm, ↓XRw, XRw, ↓XTx, XTx, ↓XC, XC, ↓XD, XD, ↓XT, XT, ↓XH, XH, ↓XA, XA, ↓XO, XO, ↓XL, XL, ↓XQE, XQE, ↓XW, XW, ↓XHd, XHd, ↓XP, ↓x_ifs, ↓XU, XU, XQ, eq_self, List.reverse_cons, List.reverse_nil, Int.cast_ofNat_Int, List.length_cons, List.length_nil, List.nil_append, List.cons_append, ne_eq, Nat.reduceAdd, Nat.reduceLeDiff, Int.reduceEq, Int.reduceLT, Int.reduceLE, Int.reduceToNat, Int.reducePow, Int.reduceAdd, Int.reduceMul, Int.reduceSub, Int.reduceNeg, List.getElem?_cons_zero, List.getElem?_cons_succ, dd_is_integer]
          (repeat (refine ⟨by (first | omega | exact cm (by omega) (by omega) | exact lg (by omega) | exact pw10 (by decide) | decide +kernel), ?_⟩))
          rw [show (0 : Int) + u = u from Int.zero_add _]
          refine ⟨rfl, hs, fun qs hq => ?_⟩
          refine for_inv (fun r G => ∃ (pr rest : List (Int × Int)) (c : Ct) (I : Int × Int → List (Int × Int)) (o6 o7 o8 o9 : Option SC), r = rest.map prD ∧ pr ++ rest = qs ∧ (TwInv n c a b A I fun s r => ((s.1 < (t : Int) ∨ s.1 = t ∧ s.2 < (u : Int)) ∧ AllT ms a b s r) ∨ (s = ((t : Int), (u : Int)) ∧ r ∈ pr)) ∧ G = ⟨[some (.dat (.lst (ms.map prD))), some (.dat (.int a)), some (.dat (.int b)), some (.own (.dT (mobT A tiles))), some (.dat (.int t)), some (.dat (.int u)), o6, o7, o8, o9], c⟩) ?_ _ ?_ _ ⟨[], qs, c, I, o6, o7, o8, o9, rfl, rfl, hc.imp fun s r => ⟨.inl, fun h => h.elim id fun h => (List.not_mem_nil h.2).elim⟩, rfl⟩
          · rintro G ⟨pr, rest, c, I, o6, o7, o8, o9, e2, e3, hc, rfl⟩
            cases rest with
            | cons _ _ => cases e2
            | nil =>
              rw [List.append_nil] at e3
              subst e3
              refine hM2 _ ⟨u + 1, c, I, _, _, _, _, _, er2, by omega, hc.imp fun s r => ?_, rfl⟩
              have eB : inB (7 * a) (7 * b) (t : Int) u := ⟨by omega, by omega, by omega, by omega⟩
              constructor
              · rintro (⟨h1, h2⟩ | ⟨rfl, h2⟩)
                · exact ⟨by omega, h2⟩
                · exact ⟨by dsimp only; omega, eB, (hq.2 r).mp h2⟩
              · rintro ⟨h1, h2⟩
                by_cases z : s = ((t : Int), (u : Int))
                · subst z; exact .inr ⟨rfl, (hq.2 r).mpr h2.2⟩
                · refine .inl ⟨?_, h2⟩
                  rcases h1 with h1 | ⟨h1, h3⟩
                  · exact .inl h1
                  · refine .inr ⟨h1, ?_⟩
                    have : s.2 ≠ u := fun y => z (Prod.ext h1 y)
                    omega
          · rintro d r G M3 hsf ⟨pr, rest, c, I, o6, o7, o8, o9, e2, e3, hc, rfl⟩ hM3
            cases rest with
            | nil => cases e2
            | cons q rest =>
              obtain ⟨rfl, rfl⟩ := List.cons.inj (show d :: r = .tup [.int q.1, .int q.2] :: rest.map prD from e2)
              simp -implicitDefEqProofs only [t__law_waits, ↓XB, XB, ↓XDm, XDm, ↓XRw, XRw, ↓XTx, XTx, ↓XC, XC, ↓XD, XD, ↓XT, XT, ↓XH, XH, ↓XA, XA, ↓XO, XO, ↓XL, XL, ↓XQE, XQE, ↓XW, XW, ↓XHd, XHd, ↓XP, ↓x_ifs, ↓XU, XU, XQ, eq_self, List.reverse_cons, List.reverse_nil, Int.cast_ofNat_Int, List.length_cons, List.length_nil, List.nil_append, List.cons_append, ne_eq, Nat.reduceAdd, Nat.reduceLeDiff, Int.reduceEq, Int.reduceLT, Int.reduceLE, Int.reduceToNat, Int.reducePow, Int.reduceAdd, Int.reduceMul, Int.reduceSub, Int.reduceNeg, List.getElem?_cons_zero, List.getElem?_cons_succ, dd_is_integer]
              refine ⟨by omega, la, by omega, lb, by omega, la, by omega, lb, ?_⟩
              have hqm := (hq.2 q).mp (by rw [← e3]; simp)
              have eB : inB (7 * a) (7 * b) (t : Int) u := ⟨by omega, by omega, by omega, by omega⟩
              have ts : tileOf a b ((t : Int), (u : Int)) ∈ tiles := tileT a1 b1 eB
              have tr : tileOf a b q ∈ tiles := tileT a1 b1 hqm.1
              have nx : ∀ (c' : Ct) (I' : Int × Int → List (Int × Int)), (TwInv n c' a b A I' fun s r => (((s.1 < (t : Int) ∨ s.1 = t ∧ s.2 < (u : Int)) ∧ AllT ms a b s r) ∨ (s = ((t : Int), (u : Int)) ∧ r ∈ pr)) ∨ (s = ((t : Int), (u : Int)) ∧ r = q)) → M3 ⟨[some (.dat (.lst (ms.map prD))), some (.dat (.int a)), some (.dat (.int b)), some (.own (.dT (mobT A tiles))), some (.dat (.int t)), some (.dat (.int u)), some (.dat (.int q.1)), some (.dat (.int q.2)), some (.dat (.tup [.int ((t : Int).fdiv a), .int ((u : Int).fdiv b)])), some (.dat (.tup [.int (q.1.fdiv a), .int (q.2.fdiv b)]))], c'⟩ := fun c' I' h' => by
                refine hM3 _ ⟨pr ++ [q], rest, c', I', _, _, _, _, rfl, by rw [List.append_assoc]; exact e3, h'.imp fun s r => ?_, rfl⟩
                rw [List.mem_append, List.mem_singleton, or_assoc, ← and_or_left]
              by_cases e : tileOf a b ((t : Int), (u : Int)) = tileOf a b q
              · have h1 : (t : Int).fdiv a = q.1.fdiv a := congrArg Prod.fst e
                have h2 : (u : Int).fdiv b = q.2.fdiv b := congrArg Prod.snd e
                rw [show (!(decide ((t : Int).fdiv a = q.1.fdiv a) && decide ((u : Int).fdiv b = q.2.fdiv b))) = false by rw [decide_eq_true h1, decide_eq_true h2]; rfl]
                simp -implicitDefEqProofs only [t__law_waits, ↓XB, XB, ↓XDm, XDm, ↓XRw, XRw, ↓XTx, XTx, ↓XC, XC, ↓XD, XD, ↓XT, XT, ↓XH, XH, ↓XA, XA, ↓XO, XO, ↓XL, XL, ↓XQE, XQE, ↓XW, XW, ↓XHd, XHd, ↓XP, ↓x_ifs, ↓XU, XU, XQ, eq_self, List.reverse_cons, List.reverse_nil, Int.cast_ofNat_Int, List.length_cons, List.length_nil, List.nil_append, List.cons_append, ne_eq, Nat.reduceAdd, Nat.reduceLeDiff, Int.reduceEq, Int.reduceLT, Int.reduceLE, Int.reduceToNat, Int.reducePow, Int.reduceAdd, Int.reduceMul, Int.reduceSub, Int.reduceNeg, List.getElem?_cons_zero, List.getElem?_cons_succ, dd_is_integer]
                exact nx c I (hc.nop e)
              · have hne : ¬ ((t : Int).fdiv a = q.1.fdiv a ∧ (u : Int).fdiv b = q.2.fdiv b) := fun z => e (Prod.ext z.1 z.2)
                rw [show (!(decide ((t : Int).fdiv a = q.1.fdiv a) && decide ((u : Int).fdiv b = q.2.fdiv b))) = true by rw [Bool.not_eq_true', Bool.and_eq_false_iff, decide_eq_false_iff_not, decide_eq_false_iff_not]; omega]
                simp -implicitDefEqProofs only [t__law_waits, ↓XB, XB, ↓XDm, XDm, ↓XRw, XRw, ↓XTx, XTx, ↓XC, XC, ↓XD, XD, ↓XT, XT, ↓XH, XH, ↓XA, XA, ↓XO, XO, ↓XL, XL, ↓XQE, XQE, ↓XW, XW, ↓XHd, XHd, ↓XP, ↓x_ifs, ↓XU, XU, XQ, eq_self, List.reverse_cons, List.reverse_nil, Int.cast_ofNat_Int, List.length_cons, List.length_nil, List.nil_append, List.cons_append, ne_eq, Nat.reduceAdd, Nat.reduceLeDiff, Int.reduceEq, Int.reduceLT, Int.reduceLE, Int.reduceToNat, Int.reducePow, Int.reduceAdd, Int.reduceMul, Int.reduceSub, Int.reduceNeg, List.getElem?_cons_zero, List.getElem?_cons_succ, dd_is_integer]
                rw [valD_mob (show (q.1.fdiv a, q.2.fdiv b) ∈ tiles from tr)]
                simp -implicitDefEqProofs only [t__law_waits, ↓XB, XB, ↓XDm, XDm, ↓XRw, XRw, ↓XTx, XTx, ↓XC, XC, ↓XD, XD, ↓XT, XT, ↓XH, XH, ↓XA, XA, ↓XO, XO, ↓XL, XL, ↓XQE, XQE, ↓XW, XW, ↓XHd, XHd, ↓XP, ↓x_ifs, ↓XU, XU, XQ, eq_self, List.reverse_cons, List.reverse_nil, Int.cast_ofNat_Int, List.length_cons, List.length_nil, List.nil_append, List.cons_append, ne_eq, Nat.reduceAdd, Nat.reduceLeDiff, Int.reduceEq, Int.reduceLT, Int.reduceLE, Int.reduceToNat, Int.reducePow, Int.reduceAdd, Int.reduceMul, Int.reduceSub, Int.reduceNeg, List.getElem?_cons_zero, List.getElem?_cons_succ, dd_is_integer]
                show putC (c.h (A (tileOf a b q))) _ _ _
                rw [hc.1.2.2.2.2 _ tr]
                refine (show _ ∧ M3 _ from ⟨?_, ?_⟩)
                · unfold dictD
                  rw [List.length_map]
                  exact Nat.lt_of_le_of_lt (hc.len tr) (by decide)
                · rw [dict_set]
                  exact nx _ _ (hc.add ts tr e)
    simp -implicitDefEqProofs only [t__law_waits, ↓XB, XB, ↓XDm, XDm, ↓XRw, XRw, ↓XTx, XTx, ↓XC, XC, ↓XD, XD, ↓XT, XT, ↓XH, XH, ↓XA, XA, ↓XO, XO, ↓XL, XL, ↓XQE, XQE, ↓XW, XW, ↓XHd, XHd, ↓XP, ↓x_ifs, ↓XU, XU, XQ, eq_self, List.reverse_cons, List.reverse_nil, Int.cast_ofNat_Int, List.length_cons, List.length_nil, List.nil_append, List.cons_append, ne_eq, Nat.reduceAdd, Nat.reduceLeDiff, Int.reduceEq, Int.reduceLT, Int.reduceLE, Int.reduceToNat, Int.reducePow, Int.reduceAdd, Int.reduceMul, Int.reduceSub, Int.reduceNeg, List.getElem?_cons_zero, List.getElem?_cons_succ, dd_is_integer]
    refine for_inv (fun r G => ∃ (t : Nat) (A : Int × Int → Addr) (c : Ct) (o4 o5 : Option SC), r = (rangeD 0 7).drop t ∧ t ≤ 7 ∧ WtC n c A (fun _ => []) (tiles.take (7 * t)) ∧ G = ⟨[some (.dat (.lst (ms.map prD))), some (.dat (.int a)), some (.dat (.int b)), some (.own (.dT (mobT A (tiles.take (7 * t))))), o4, o5, none, none, none, none], c⟩) ?_ _ ?_ _ ⟨0, fun _ => 0, n, _, _, rfl, by omega, ⟨rfl, fun _ _ => rfl, fun _ h => (List.not_mem_nil h).elim, fun _ h => (List.not_mem_nil h).elim, fun _ h => (List.not_mem_nil h).elim⟩, rfl⟩
    · rintro G ⟨t, A, c, o4, o5, e1, t1, hc, rfl⟩
      have := rng_done e1
      obtain rfl : t = 7 := by omega
      exact stage A c o4 o5 hc
    · rintro d r G M hsf ⟨t, A, c, o4, o5, e1, t1, hc, rfl⟩ hM
      obtain ⟨t2, rfl, er⟩ := rng_drop e1
      simp -implicitDefEqProofs only [t__law_waits, ↓XB, XB, ↓XDm, XDm, ↓XRw, XRw, ↓XTx, XTx, ↓XC, XC, ↓XD, XD, ↓XT, XT, ↓XH, XH, ↓XA, XA, ↓XO, XO, ↓XL, XL, ↓XQE, XQE, ↓XW, XW, ↓XHd, XHd, ↓XP, ↓x_ifs, ↓XU, XU, XQ, eq_self, List.reverse_cons, List.reverse_nil, Int.cast_ofNat_Int, List.length_cons, List.length_nil, List.nil_append, List.cons_append, ne_eq, Nat.reduceAdd, Nat.reduceLeDiff, Int.reduceEq, Int.reduceLT, Int.reduceLE, Int.reduceToNat, Int.reducePow, Int.reduceAdd, Int.reduceMul, Int.reduceSub, Int.reduceNeg, List.getElem?_cons_zero, List.getElem?_cons_succ, dd_is_integer]
      rw [show (0 : Int) + t = t from Int.zero_add _]
      refine for_inv (fun r G => ∃ (u : Nat) (A : Int × Int → Addr) (c : Ct) (o5 : Option SC), r = (rangeD 0 7).drop u ∧ u ≤ 7 ∧ WtC n c A (fun _ => []) (tiles.take (7 * t + u)) ∧ G = ⟨[some (.dat (.lst (ms.map prD))), some (.dat (.int a)), some (.dat (.int b)), some (.own (.dT (mobT A (tiles.take (7 * t + u))))), some (.dat (.int t)), o5, none, none, none, none], c⟩) ?_ _ ?_ _ ⟨0, A, c, _, rfl, by omega, hc, rfl⟩
      · rintro G ⟨u, A, c, o5, e1, u1, hc, rfl⟩
        have := rng_done e1
        obtain rfl : u = 7 := by omega
        exact hM _ ⟨t + 1, A, c, _, _, er, by omega, hc, rfl⟩
      · rintro d r G M2 hsf ⟨u, A, c, o5, e1, u1, hc, rfl⟩ hM2
        obtain ⟨u2, rfl, er2⟩ := rng_drop e1
        simp -implicitDefEqProofs only [t__law_waits, ↓XB, XB, ↓XDm, XDm, ↓XRw, XRw, ↓XTx, XTx, ↓XC, XC, ↓XD, XD, ↓XT, XT, ↓XH, XH, ↓XA, XA, ↓XO, XO, ↓XL, XL, ↓XQE, XQE, ↓XW, XW, ↓XHd, XHd, ↓XP, ↓x_ifs, ↓XU, XU, XQ, eq_self, List.reverse_cons, List.reverse_nil, Int.cast_ofNat_Int, List.length_cons, List.length_nil, List.nil_append, List.cons_append, ne_eq, Nat.reduceAdd, Nat.reduceLeDiff, Int.reduceEq, Int.reduceLT, Int.reduceLE, Int.reduceToNat, Int.reducePow, Int.reduceAdd, Int.reduceMul, Int.reduceSub, Int.reduceNeg, List.getElem?_cons_zero, List.getElem?_cons_succ, dd_is_integer]
        rw [show (0 : Int) + u = u from Int.zero_add _]
        intro p hp
        obtain ⟨tk, tn⟩ := take_up t t2 u u2
        refine ⟨?_, ?_⟩
        · unfold mobT
          rw [List.length_map]
          exact Nat.lt_of_le_of_lt (List.length_take_le ..) (by show 7 * t + u < 2 ^ 24; omega)
        · rw [putD_mob tn, tk]
          refine hM2 _ ⟨u + 1, _, _, _, er2, by omega, ?_, rfl⟩
          rw [← tk]
          exact hc.new tn hp
  · exact h.elim
def freeB (I : Int × Int → List (Int × Int)) (L : List (Int × Int)) (p : Int × Int) : Bool := (I p).all fun q => decide (q ∉ L)
def LeftC (n c : Ct) (A : Int × Int → Addr) (I : Int × Int → List (Int × Int)) (l : Addr) (L : List (Int × Int)) : Prop :=
  c.num = n.num ∧ (∀ x, n.h x ≠ none → c.h x = n.h x) ∧ n.h l = none ∧ c.h l = some (.dT (mobT A L)) ∧ L.Sublist tiles ∧ ∀ S : Int × Int → Prop, (∀ p, S p → p ∈ tiles) → (∀ p, S p → ∃ q ∈ I p, S q) → ∀ p, S p → p ∈ L
theorem keysT_mob {A : Int × Int → Addr} {L : List (Int × Int)} : keysT (mobT A L) = L.map prD := by
  unfold keysT mobT
  rw [List.map_map]; rfl
theorem valD_isS {A : Int × Int → Addr} {L : List (Int × Int)} {x y : Int} : (valD (mobT A L) [.inl x, .inl y]).isSome = decide ((x, y) ∈ L) := by
  by_cases h : (x, y) ∈ L
  · rw [valD_mob h, decide_eq_true h]; rfl
  · rw [valD_mobN h, decide_eq_false h]; rfl
theorem free_is {I : Int × Int → List (Int × Int)} {L : List (Int × Int)} {m : Int × Int} : (List.map (fun _ => D.int 1) ((I m).filter fun q => decide (q ∈ L))).isEmpty = freeB I L m := by
  unfold freeB
  rw [List.isEmpty_map, Bool.eq_iff_iff, List.isEmpty_iff, List.filter_eq_nil_iff, List.all_eq_true]
  exact ⟨fun h q hq => decide_eq_true fun z => h q hq (decide_eq_true z), fun h q hq z => of_decide_eq_true (h q hq) (of_decide_eq_true z)⟩
theorem drop_mob {A : Int × Int → Addr} {x y : Int} {L : List (Int × Int)} : dropT (mobT A L) [.inl x, .inl y] = mobT A (L.filter fun p => decide (p ≠ (x, y))) := by
  unfold dropT mobT
  rw [List.filter_map]
  congr 1
  refine List.filter_congr fun p _ => ?_
  show decide (keyP p ≠ [.inl x, .inl y]) = _
  exact decide_eq_decide.mpr ⟨fun h z => h (by rw [z]; rfl), fun h z => h (keyP_inj (p := p) (q := (x, y)) z)⟩
theorem noC_mob {A : Int × Int → Addr} : ∀ {L : List (Int × Int)}, NoIT (mobT A L)
  | [] => trivial
  | _ :: L => ⟨trivial, noC_mob (L := L)⟩
def againT : DE := dLcN [3] (1) (dgName 3) (dTst (dBin dEqE (dLcL [4] (dWalkLk (dBinK dIx (dVar 1) (dVar 3))) (dgName 4) (dTst (dBinK dIn (dVar 4) (dVar 1))) (dC (.int 1))) (dLst (dNil)))) (dVar 3)
theorem L__law_can_end : ∀ n ds Q, S__law_can_end n ds Q → ds.length = ps__law_can_end.length := by
  intro n ds Q h
  unfold S__law_can_end at h
  split at h <;> first | exact h.elim | rfl
set_option maxHeartbeats 0 in
theorem l__law_can_end : ∀ n ds Q, S__law_can_end n ds Q → t__law_can_end (defE Q) (startG n N__law_can_end ds) := by
  intro n ds Q h
  unfold S__law_can_end at h
  split at h
  · rename_i es
    show t__law_can_end (defE Q) ⟨[some (.dat (.dT es)), none, none, none, none], n⟩
    obtain ⟨A, I, rfl, hk, hl, h⟩ := h
    have key : ∀ (c : Ct) (l : Addr) (L : List (Int × Int)) (o2 o3 : Option SC) (F : SV → Gm → Prop), LeftC n c A I l L → F (.new (.lst ((L.filter (freeB I L)).map prD))) ⟨[some (.dat (.dT (mobT A tiles))), some (.dat (.mob l)), o2, datO o3, none], c⟩ → againT ⟨[some (.dat (.dT (mobT A tiles))), some (.dat (.mob l)), o2, o3, none], c⟩ F := by
      intro c l L o2 o3 F hc hF
      obtain ⟨c1, c2, c3, c4, c5, c6⟩ := hc
      simp -implicitDefEqProofs only [t__law_can_end, ↓XB, XB, ↓XDm, XDm, ↓XRw, XRw, ↓XTx, XTx, ↓XC, XC, ↓XD, XD, ↓XT, XT, ↓XH, XH, ↓XA, XA, ↓XO, XO, ↓XL, XL, ↓XQE, XQE, ↓XW, XW, ↓XHd, XHd, ↓XP, ↓x_ifs, ↓XU, XU, XQ, eq_self, List.reverse_cons, List.reverse_nil, Int.cast_ofNat_Int, List.length_cons, List.length_nil, List.nil_append, List.cons_append, ne_eq, Nat.reduceAdd, Nat.reduceLeDiff, Int.reduceEq, Int.reduceLT, Int.reduceLE, Int.reduceToNat, Int.reducePow, Int.reduceAdd, Int.reduceMul, Int.reduceSub, Int.reduceNeg, List.getElem?_cons_zero, List.getElem?_cons_succ, dd_is_integer, againT, c4, keysT_mob]
      have hlen : L.length ≤ 49 := c5.length_le
      refine ⟨by unfold mobT; rw [List.length_map]; exact Nat.le_trans hlen (by decide), fun o => ?_⟩
      have nl : ∀ p ∈ tiles, A p ≠ l := fun p hp z => by
        obtain ⟨op, e⟩ := hk.2 p hp
        rw [z, c3] at e; cases e
      have hl1 : (c.set l (.lkd o (.dT (mobT A L)))).h l = some (.lkd o (.dT (mobT A L))) := if_pos rfl
      have hl2 : ∀ p ∈ tiles, ∃ op, (c.set l (.lkd o (.dT (mobT A L)))).h (A p) = some (.lkd op (.dT (dictD (I p)))) := fun p hp => by
        obtain ⟨op, e⟩ := hk.2 p hp
        exact ⟨op, (if_neg (nl p hp)).trans ((c2 _ (by rw [e]; intro z; cases z)).trans e)⟩
      have hl3 : (c.set l (.lkd o (.dT (mobT A L)))).set l (.dT (mobT A L)) = c := by rw [set_set, set_same c4]
      generalize c.set l (.lkd o (.dT (mobT A L))) = c' at hl1 hl2 hl3 ⊢
      refine lc_prs (freeB I L) prD (fun m hm k k' q => ?_) ?_
      · obtain ⟨op, hp⟩ := hl2 m (c5.subset hm)
        simp -implicitDefEqProofs only [t__law_can_end, ↓XB, XB, ↓XDm, XDm, ↓XRw, XRw, ↓XTx, XTx, ↓XC, XC, ↓XD, XD, ↓XT, XT, ↓XH, XH, ↓XA, XA, ↓XO, XO, ↓XL, XL, ↓XQE, XQE, ↓XW, XW, ↓XHd, XHd, ↓XP, ↓x_ifs, ↓XU, XU, XQ, eq_self, List.reverse_cons, List.reverse_nil, Int.cast_ofNat_Int, List.length_cons, List.length_nil, List.nil_append, List.cons_append, ne_eq, Nat.reduceAdd, Nat.reduceLeDiff, Int.reduceEq, Int.reduceLT, Int.reduceLE, Int.reduceToNat, Int.reducePow, Int.reduceAdd, Int.reduceMul, Int.reduceSub, Int.reduceNeg, List.getElem?_cons_zero, List.getElem?_cons_succ, dd_is_integer, hl1]
        rw [valD_mob (show (m.1, m.2) ∈ L from hm)]
        simp -implicitDefEqProofs only [t__law_can_end, ↓XB, XB, ↓XDm, XDm, ↓XRw, XRw, ↓XTx, XTx, ↓XC, XC, ↓XD, XD, ↓XT, XT, ↓XH, XH, ↓XA, XA, ↓XO, XO, ↓XL, XL, ↓XQE, XQE, ↓XW, XW, ↓XHd, XHd, ↓XP, ↓x_ifs, ↓XU, XU, XQ, eq_self, List.reverse_cons, List.reverse_nil, Int.cast_ofNat_Int, List.length_cons, List.length_nil, List.nil_append, List.cons_append, ne_eq, Nat.reduceAdd, Nat.reduceLeDiff, Int.reduceEq, Int.reduceLT, Int.reduceLE, Int.reduceToNat, Int.reducePow, Int.reduceAdd, Int.reduceMul, Int.reduceSub, Int.reduceNeg, List.getElem?_cons_zero, List.getElem?_cons_succ, dd_is_integer, hp, keysT_dictD]
        refine ⟨by rw [List.length_map]; exact Nat.le_trans (hl m (c5.subset hm)) (by decide), ?_⟩
        refine lc_prs (fun q => decide (q ∈ L)) (fun _ => .int 1) (fun q hq k k' y => ?_) ?_
        · simp -implicitDefEqProofs only [t__law_can_end, ↓XB, XB, ↓XDm, XDm, ↓XRw, XRw, ↓XTx, XTx, ↓XC, XC, ↓XD, XD, ↓XT, XT, ↓XH, XH, ↓XA, XA, ↓XO, XO, ↓XL, XL, ↓XQE, XQE, ↓XW, XW, ↓XHd, XHd, ↓XP, ↓x_ifs, ↓XU, XU, XQ, eq_self, List.reverse_cons, List.reverse_nil, Int.cast_ofNat_Int, List.length_cons, List.length_nil, List.nil_append, List.cons_append, ne_eq, Nat.reduceAdd, Nat.reduceLeDiff, Int.reduceEq, Int.reduceLT, Int.reduceLE, Int.reduceToNat, Int.reducePow, Int.reduceAdd, Int.reduceMul, Int.reduceSub, Int.reduceNeg, List.getElem?_cons_zero, List.getElem?_cons_succ, dd_is_integer, hl1, hp]
          rw [valD_isS]
          by_cases z : (q.1, q.2) ∈ L
          · rw [decide_eq_true z]
            have y : (if decide (q ∈ L) = true then _ else _) := y
            rw [if_pos (decide_eq_true (show q ∈ L from z))] at y
            simp -implicitDefEqProofs only [t__law_can_end, ↓XB, XB, ↓XDm, XDm, ↓XRw, XRw, ↓XTx, XTx, ↓XC, XC, ↓XD, XD, ↓XT, XT, ↓XH, XH, ↓XA, XA, ↓XO, XO, ↓XL, XL, ↓XQE, XQE, ↓XW, XW, ↓XHd, XHd, ↓XP, ↓x_ifs, ↓XU, XU, XQ, eq_self, List.reverse_cons, List.reverse_nil, Int.cast_ofNat_Int, List.length_cons, List.length_nil, List.nil_append, List.cons_append, ne_eq, Nat.reduceAdd, Nat.reduceLeDiff, Int.reduceEq, Int.reduceLT, Int.reduceLE, Int.reduceToNat, Int.reducePow, Int.reduceAdd, Int.reduceMul, Int.reduceSub, Int.reduceNeg, List.getElem?_cons_zero, List.getElem?_cons_succ, dd_is_integer, hp]
            exact y
          · rw [decide_eq_false z]
            have y : (if decide (q ∈ L) = true then _ else _) := y
            rw [if_neg (fun w => z (of_decide_eq_true w))] at y
            simp -implicitDefEqProofs only [t__law_can_end, ↓XB, XB, ↓XDm, XDm, ↓XRw, XRw, ↓XTx, XTx, ↓XC, XC, ↓XD, XD, ↓XT, XT, ↓XH, XH, ↓XA, XA, ↓XO, XO, ↓XL, XL, ↓XQE, XQE, ↓XW, XW, ↓XHd, XHd, ↓XP, ↓x_ifs, ↓XU, XU, XQ, eq_self, List.reverse_cons, List.reverse_nil, Int.cast_ofNat_Int, List.length_cons, List.length_nil, List.nil_append, List.cons_append, ne_eq, Nat.reduceAdd, Nat.reduceLeDiff, Int.reduceEq, Int.reduceLT, Int.reduceLE, Int.reduceToNat, Int.reducePow, Int.reduceAdd, Int.reduceMul, Int.reduceSub, Int.reduceNeg, List.getElem?_cons_zero, List.getElem?_cons_succ, dd_is_integer, hp]
            exact y
        · simp -implicitDefEqProofs only [t__law_can_end, ↓XB, XB, ↓XDm, XDm, ↓XRw, XRw, ↓XTx, XTx, ↓XC, XC, ↓XD, XD, ↓XT, XT, ↓XH, XH, ↓XA, XA, ↓XO, XO, ↓XL, XL, ↓XQE, XQE, ↓XW, XW, ↓XHd, XHd, ↓XP, ↓x_ifs, ↓XU, XU, XQ, eq_self, List.reverse_cons, List.reverse_nil, Int.cast_ofNat_Int, List.length_cons, List.length_nil, List.nil_append, List.cons_append, ne_eq, Nat.reduceAdd, Nat.reduceLeDiff, Int.reduceEq, Int.reduceLT, Int.reduceLE, Int.reduceToNat, Int.reducePow, Int.reduceAdd, Int.reduceMul, Int.reduceSub, Int.reduceNeg, List.getElem?_cons_zero, List.getElem?_cons_succ, dd_is_integer, hl1]
          rw [free_is]
          cases e : freeB I L m with
          | true => rw [e, if_pos rfl] at q; simp -implicitDefEqProofs only [t__law_can_end, ↓XB, XB, ↓XDm, XDm, ↓XRw, XRw, ↓XTx, XTx, ↓XC, XC, ↓XD, XD, ↓XT, XT, ↓XH, XH, ↓XA, XA, ↓XO, XO, ↓XL, XL, ↓XQE, XQE, ↓XW, XW, ↓XHd, XHd, ↓XP, ↓x_ifs, ↓XU, XU, XQ, eq_self, List.reverse_cons, List.reverse_nil, Int.cast_ofNat_Int, List.length_cons, List.length_nil, List.nil_append, List.cons_append, ne_eq, Nat.reduceAdd, Nat.reduceLeDiff, Int.reduceEq, Int.reduceLT, Int.reduceLE, Int.reduceToNat, Int.reducePow, Int.reduceAdd, Int.reduceMul, Int.reduceSub, Int.reduceNeg, List.getElem?_cons_zero, List.getElem?_cons_succ, dd_is_integer, hl1]; exact q
          | false => rw [e, if_neg Bool.false_ne_true] at q; simp -implicitDefEqProofs only [t__law_can_end, ↓XB, XB, ↓XDm, XDm, ↓XRw, XRw, ↓XTx, XTx, ↓XC, XC, ↓XD, XD, ↓XT, XT, ↓XH, XH, ↓XA, XA, ↓XO, XO, ↓XL, XL, ↓XQE, XQE, ↓XW, XW, ↓XHd, XHd, ↓XP, ↓x_ifs, ↓XU, XU, XQ, eq_self, List.reverse_cons, List.reverse_nil, Int.cast_ofNat_Int, List.length_cons, List.length_nil, List.nil_append, List.cons_append, ne_eq, Nat.reduceAdd, Nat.reduceLeDiff, Int.reduceEq, Int.reduceLT, Int.reduceLE, Int.reduceToNat, Int.reducePow, Int.reduceAdd, Int.reduceMul, Int.reduceSub, Int.reduceNeg, List.getElem?_cons_zero, List.getElem?_cons_succ, dd_is_integer, hl1]; exact q
      · simp -implicitDefEqProofs only [t__law_can_end, ↓XB, XB, ↓XDm, XDm, ↓XRw, XRw, ↓XTx, XTx, ↓XC, XC, ↓XD, XD, ↓XT, XT, ↓XH, XH, ↓XA, XA, ↓XO, XO, ↓XL, XL, ↓XQE, XQE, ↓XW, XW, ↓XHd, XHd, ↓XP, ↓x_ifs, ↓XU, XU, XQ, eq_self, List.reverse_cons, List.reverse_nil, Int.cast_ofNat_Int, List.length_cons, List.length_nil, List.nil_append, List.cons_append, ne_eq, Nat.reduceAdd, Nat.reduceLeDiff, Int.reduceEq, Int.reduceLT, Int.reduceLE, Int.reduceToNat, Int.reducePow, Int.reduceAdd, Int.reduceMul, Int.reduceSub, Int.reduceNeg, List.getElem?_cons_zero, List.getElem?_cons_succ, dd_is_integer, hl1]
        rw [hl3]
        exact hF
    have et : t__law_can_end = dSeq (dAsg (dMut (dUn dDictC (dVar 0))) (dgName 1)) (dSeq (dAsg againT (dgName 2)) (dSeq (dWhile (dTst (dBin dNeE (dVar 2) (dLst (dNil)))) (dSeq (dFor (dWalk (dVar 2)) (dgName 3) (dDrop (dPopM 1 (dVar 3)))) (dAsg againT (dgName 2)))) (dRet (dBinK dEqT (dVar 1) (dDnK))))) := rfl
    rw [et]
    simp -implicitDefEqProofs only [t__law_can_end, ↓XB, XB, ↓XDm, XDm, ↓XRw, XRw, ↓XTx, XTx, ↓XC, XC, ↓XD, XD, ↓XT, XT, ↓XH, XH, ↓XA, XA, ↓XO, XO, ↓XL, XL, ↓XQE, XQE, ↓XW, XW, ↓XHd, XHd, ↓XP, ↓x_ifs, ↓XU, XU, XQ, eq_self, List.reverse_cons, List.reverse_nil, Int.cast_ofNat_Int, List.length_cons, List.length_nil, List.nil_append, List.cons_append, ne_eq, Nat.reduceAdd, Nat.reduceLeDiff, Int.reduceEq, Int.reduceLT, Int.reduceLE, Int.reduceToNat, Int.reducePow, Int.reduceAdd, Int.reduceMul, Int.reduceSub, Int.reduceNeg, List.getElem?_cons_zero, List.getElem?_cons_succ, dd_is_integer]
    refine ⟨?_, ?_, ?_⟩
    · refine List.all_eq_true.mpr fun e he => ?_
      obtain ⟨p, _, rfl⟩ := List.mem_map.mp he
      rfl
    · have := tiles7_apart
      rw [← tiles_keys (A := A), List.map_map] at this
      exact this
    simp -implicitDefEqProofs only [t__law_can_end, ↓XB, XB, ↓XDm, XDm, ↓XRw, XRw, ↓XTx, XTx, ↓XC, XC, ↓XD, XD, ↓XT, XT, ↓XH, XH, ↓XA, XA, ↓XO, XO, ↓XL, XL, ↓XQE, XQE, ↓XW, XW, ↓XHd, XHd, ↓XP, ↓x_ifs, ↓XU, XU, XQ, eq_self, List.reverse_cons, List.reverse_nil, Int.cast_ofNat_Int, List.length_cons, List.length_nil, List.nil_append, List.cons_append, ne_eq, Nat.reduceAdd, Nat.reduceLeDiff, Int.reduceEq, Int.reduceLT, Int.reduceLE, Int.reduceToNat, Int.reducePow, Int.reduceAdd, Int.reduceMul, Int.reduceSub, Int.reduceNeg, List.getElem?_cons_zero, List.getElem?_cons_succ, dd_is_integer]
    refine ⟨noC_mob, fun l hlN => ?_⟩
    have hc0 : LeftC n (n.set l (.dT (mobT A tiles))) A I l tiles := ⟨rfl, fun x hx => if_neg fun z => hx (by rw [z]; exact hlN), hlN, if_pos rfl, List.Sublist.refl _, fun S h1 _ p hp => h1 p hp⟩
    refine key _ l tiles _ _ _ hc0 ?_
    simp -implicitDefEqProofs only [t__law_can_end, ↓XB, XB, ↓XDm, XDm, ↓XRw, XRw, ↓XTx, XTx, ↓XC, XC, ↓XD, XD, ↓XT, XT, ↓XH, XH, ↓XA, XA, ↓XO, XO, ↓XL, XL, ↓XQE, XQE, ↓XW, XW, ↓XHd, XHd, ↓XP, ↓x_ifs, ↓XU, XU, XQ, eq_self, List.reverse_cons, List.reverse_nil, Int.cast_ofNat_Int, List.length_cons, List.length_nil, List.nil_append, List.cons_append, ne_eq, Nat.reduceAdd, Nat.reduceLeDiff, Int.reduceEq, Int.reduceLT, Int.reduceLE, Int.reduceToNat, Int.reducePow, Int.reduceAdd, Int.reduceMul, Int.reduceSub, Int.reduceNeg, List.getElem?_cons_zero, List.getElem?_cons_succ, dd_is_integer]
    refine wh_inv (fun m G => ∃ (c : Ct) (L : List (Int × Int)) (o3 : Option SC), LeftC n c A I l L ∧ L.length ≤ m ∧ G = ⟨[some (.dat (.dT (mobT A tiles))), some (.dat (.mob l)), some (.own (.lst ((L.filter (freeB I L)).map prD))), o3, none], c⟩) ?_ (m := 49) ⟨_, tiles, _, hc0, by decide, rfl⟩
    rintro m G N ⟨c, L, o3, hc, hm, rfl⟩ hN
    have hnd : L.Nodup := tiles_nd.sublist hc.2.2.2.2.1
    have hle : L.length ≤ 49 := hc.2.2.2.2.1.length_le
    have hsub : ∀ p ∈ L, p ∈ tiles := fun p hp => hc.2.2.2.2.1.subset hp
    generalize eF : L.filter (freeB I L) = F
    have hF : ∀ p, p ∈ F ↔ p ∈ L ∧ freeB I L p = true := fun p => by rw [← eF, List.mem_filter]
    have hFn : F.Nodup := by rw [← eF]; exact hnd.sublist List.filter_sublist
    clear eF
    simp -implicitDefEqProofs only [t__law_can_end, ↓XB, XB, ↓XDm, XDm, ↓XRw, XRw, ↓XTx, XTx, ↓XC, XC, ↓XD, XD, ↓XT, XT, ↓XH, XH, ↓XA, XA, ↓XO, XO, ↓XL, XL, ↓XQE, XQE, ↓XW, XW, ↓XHd, XHd, ↓XP, ↓x_ifs, ↓XU, XU, XQ, eq_self, List.reverse_cons, List.reverse_nil, Int.cast_ofNat_Int, List.length_cons, List.length_nil, List.nil_append, List.cons_append, ne_eq, Nat.reduceAdd, Nat.reduceLeDiff, Int.reduceEq, Int.reduceLT, Int.reduceLE, Int.reduceToNat, Int.reducePow, Int.reduceAdd, Int.reduceMul, Int.reduceSub, Int.reduceNeg, List.getElem?_cons_zero, List.getElem?_cons_succ, dd_is_integer]
    rw [show (F.map prD).isEmpty = F.isEmpty from List.isEmpty_map ..]
    cases eF : F.isEmpty with
    | true =>
      rw [List.isEmpty_iff] at eF
      subst eF
      simp -implicitDefEqProofs only [t__law_can_end, ↓XB, XB, ↓XDm, XDm, ↓XRw, XRw, ↓XTx, XTx, ↓XC, XC, ↓XD, XD, ↓XT, XT, ↓XH, XH, ↓XA, XA, ↓XO, XO, ↓XL, XL, ↓XQE, XQE, ↓XW, XW, ↓XHd, XHd, ↓XP, ↓x_ifs, ↓XU, XU, XQ, eq_self, List.reverse_cons, List.reverse_nil, Int.cast_ofNat_Int, List.length_cons, List.length_nil, List.nil_append, List.cons_append, ne_eq, Nat.reduceAdd, Nat.reduceLeDiff, Int.reduceEq, Int.reduceLT, Int.reduceLE, Int.reduceToNat, Int.reducePow, Int.reduceAdd, Int.reduceMul, Int.reduceSub, Int.reduceNeg, List.getElem?_cons_zero, List.getElem?_cons_succ, dd_is_integer, hc.2.2.2.1]
      rw [show (mobT A L).isEmpty = L.isEmpty from List.isEmpty_map ..]
      refine h _ c hc.1 hc.2.1 ?_
      constructor
      · intro hL
        rw [List.isEmpty_iff] at hL
        subst hL
        rintro ⟨S, ⟨p, hp, sp⟩, s1, s2⟩
        exact List.not_mem_nil (hc.2.2.2.2.2 S s1 s2 p sp)
      · intro hS
        rw [List.isEmpty_iff]
        cases eL : L with
        | nil => rfl
        | cons p0 L0 =>
          refine (hS ⟨fun p => p ∈ L, ⟨p0, hsub p0 (by rw [eL]; exact List.mem_cons_self), by rw [eL]; exact List.mem_cons_self⟩, hsub, fun p hp => ?_⟩).elim
          have nf : ¬ freeB I L p = true := fun z => List.not_mem_nil ((hF p).mpr ⟨hp, z⟩)
          have : ¬ ∀ q ∈ I p, decide (q ∉ L) = true := fun z => nf (List.all_eq_true.mpr z)
          refine Classical.byContradiction fun z => this fun q hq => decide_eq_true fun y => z ⟨q, hq, y⟩
    | false =>
      simp -implicitDefEqProofs only [t__law_can_end, ↓XB, XB, ↓XDm, XDm, ↓XRw, XRw, ↓XTx, XTx, ↓XC, XC, ↓XD, XD, ↓XT, XT, ↓XH, XH, ↓XA, XA, ↓XO, XO, ↓XL, XL, ↓XQE, XQE, ↓XW, XW, ↓XHd, XHd, ↓XP, ↓x_ifs, ↓XU, XU, XQ, eq_self, List.reverse_cons, List.reverse_nil, Int.cast_ofNat_Int, List.length_cons, List.length_nil, List.nil_append, List.cons_append, ne_eq, Nat.reduceAdd, Nat.reduceLeDiff, Int.reduceEq, Int.reduceLT, Int.reduceLE, Int.reduceToNat, Int.reducePow, Int.reduceAdd, Int.reduceMul, Int.reduceSub, Int.reduceNeg, List.getElem?_cons_zero, List.getElem?_cons_succ, dd_is_integer]
      refine for_inv (fun r G => ∃ (pr rest : List (Int × Int)) (c' : Ct) (o2 o3 : Option SC), r = rest.map prD ∧ pr ++ rest = F ∧ c'.num = c.num ∧ (∀ x, x ≠ l → c'.h x = c.h x) ∧ c'.h l = some (.dT (mobT A (L.filter fun p => decide (p ∉ pr)))) ∧ G = ⟨[some (.dat (.dT (mobT A tiles))), some (.dat (.mob l)), o2, o3, none], c'⟩) ?_ _ ?_ _ ⟨[], F, c, _, _, rfl, rfl, rfl, fun _ _ => rfl, by rw [hc.2.2.2.1]; congr 3; exact (List.filter_eq_self.mpr fun _ _ => decide_eq_true (List.not_mem_nil)).symm, rfl⟩
      · rintro G ⟨pr, rest, c', o2, o3, e2, e3, c1, c2, c3, rfl⟩
        cases rest with
        | cons _ _ => cases e2
        | nil =>
          rw [List.append_nil] at e3
          subst e3
          simp -implicitDefEqProofs only [t__law_can_end, ↓XB, XB, ↓XDm, XDm, ↓XRw, XRw, ↓XTx, XTx, ↓XC, XC, ↓XD, XD, ↓XT, XT, ↓XH, XH, ↓XA, XA, ↓XO, XO, ↓XL, XL, ↓XQE, XQE, ↓XW, XW, ↓XHd, XHd, ↓XP, ↓x_ifs, ↓XU, XU, XQ, eq_self, List.reverse_cons, List.reverse_nil, Int.cast_ofNat_Int, List.length_cons, List.length_nil, List.nil_append, List.cons_append, ne_eq, Nat.reduceAdd, Nat.reduceLeDiff, Int.reduceEq, Int.reduceLT, Int.reduceLE, Int.reduceToNat, Int.reducePow, Int.reduceAdd, Int.reduceMul, Int.reduceSub, Int.reduceNeg, List.getElem?_cons_zero, List.getElem?_cons_succ, dd_is_integer]
          have hc' : LeftC n c' A I l (L.filter fun p => decide (p ∉ pr)) := ⟨c1.trans hc.1, fun x hx => (c2 x fun z => hx (by rw [z]; exact hlN)).trans (hc.2.1 x hx), hlN, c3, List.filter_sublist.trans hc.2.2.2.2.1, fun S s1 s2 p sp => ?_⟩
          · refine key c' l _ o2 o3 _ hc' ?_
            simp -implicitDefEqProofs only [t__law_can_end, ↓XB, XB, ↓XDm, XDm, ↓XRw, XRw, ↓XTx, XTx, ↓XC, XC, ↓XD, XD, ↓XT, XT, ↓XH, XH, ↓XA, XA, ↓XO, XO, ↓XL, XL, ↓XQE, XQE, ↓XW, XW, ↓XHd, XHd, ↓XP, ↓x_ifs, ↓XU, XU, XQ, eq_self, List.reverse_cons, List.reverse_nil, Int.cast_ofNat_Int, List.length_cons, List.length_nil, List.nil_append, List.cons_append, ne_eq, Nat.reduceAdd, Nat.reduceLeDiff, Int.reduceEq, Int.reduceLT, Int.reduceLE, Int.reduceToNat, Int.reducePow, Int.reduceAdd, Int.reduceMul, Int.reduceSub, Int.reduceNeg, List.getElem?_cons_zero, List.getElem?_cons_succ, dd_is_integer]
            refine hN _ _ ?_ ⟨c', _, _, hc', Nat.le_refl _, rfl⟩
            cases eP : pr with
            | nil => rw [eP] at eF; cases eF
            | cons p0 P0 =>
              rw [← eP]
              have h0 : p0 ∈ L ∧ freeB I L p0 = true := (hF p0).mp (by rw [eP]; exact List.mem_cons_self)
              refine Nat.lt_of_lt_of_le ?_ hm
              rcases Nat.lt_or_ge (L.filter fun p => decide (p ∉ pr)).length L.length with w | w
              · exact w
              · exfalso
                have := (List.filter_sublist (p := fun p => decide (p ∉ pr)) (l := L)).eq_of_length_le w
                have h1 : p0 ∈ L.filter fun p => decide (p ∉ pr) := by rw [this]; exact h0.1
                exact of_decide_eq_true (List.mem_filter.mp h1).2 (by rw [eP]; exact List.mem_cons_self)
          · refine List.mem_filter.mpr ⟨hc.2.2.2.2.2 S s1 s2 p sp, decide_eq_true fun z => ?_⟩
            obtain ⟨q, hq, sq⟩ := s2 p sp
            exact of_decide_eq_true (List.all_eq_true.mp ((hF p).mp z).2 q hq) (hc.2.2.2.2.2 S s1 s2 q sq)
      · rintro d r G M3 hsf ⟨pr, rest, c', o2, o3, e2, e3, c1, c2, c3, rfl⟩ hM3
        cases rest with
        | nil => cases e2
        | cons q rest =>
          obtain ⟨rfl, rfl⟩ := List.cons.inj (show d :: r = .tup [.int q.1, .int q.2] :: rest.map prD from e2)
          simp -implicitDefEqProofs only [t__law_can_end, ↓XB, XB, ↓XDm, XDm, ↓XRw, XRw, ↓XTx, XTx, ↓XC, XC, ↓XD, XD, ↓XT, XT, ↓XH, XH, ↓XA, XA, ↓XO, XO, ↓XL, XL, ↓XQE, XQE, ↓XW, XW, ↓XHd, XHd, ↓XP, ↓x_ifs, ↓XU, XU, XQ, eq_self, List.reverse_cons, List.reverse_nil, Int.cast_ofNat_Int, List.length_cons, List.length_nil, List.nil_append, List.cons_append, ne_eq, Nat.reduceAdd, Nat.reduceLeDiff, Int.reduceEq, Int.reduceLT, Int.reduceLE, Int.reduceToNat, Int.reducePow, Int.reduceAdd, Int.reduceMul, Int.reduceSub, Int.reduceNeg, List.getElem?_cons_zero, List.getElem?_cons_succ, dd_is_integer, c3]
          have hqF : q ∈ F := by rw [← e3]; simp
          have hqn : q ∉ pr := fun z => by
            have := hFn
            rw [← e3, List.nodup_append] at this
            exact this.2.2 q z q List.mem_cons_self rfl
          have hqL : q ∈ L.filter fun p => decide (p ∉ pr) := List.mem_filter.mpr ⟨((hF q).mp hqF).1, decide_eq_true hqn⟩
          rw [valD_mob (show (q.1, q.2) ∈ _ from hqL), drop_mob, List.filter_filter]
          refine hM3 _ ⟨pr ++ [q], rest, c'.set l (.dT (mobT A (L.filter fun p => decide (p ≠ (q.1, q.2)) && decide (p ∉ pr)))), _, _, rfl, by rw [List.append_assoc]; exact e3, c1, fun x hx => (if_neg hx).trans (c2 x hx), ?_, rfl⟩
          rw [show (c'.set l (.dT (mobT A (L.filter fun p => decide (p ≠ (q.1, q.2)) && decide (p ∉ pr))))).h l = some (.dT (mobT A (L.filter fun p => decide (p ≠ (q.1, q.2)) && decide (p ∉ pr)))) from if_pos rfl]
          congr 3
          refine List.filter_congr fun p _ => ?_
          rw [Bool.eq_iff_iff, Bool.and_eq_true, decide_eq_true_iff, decide_eq_true_iff, decide_eq_true_iff, List.mem_append, List.mem_singleton]
          exact ⟨fun ⟨a, b⟩ z => z.elim b a, fun z => ⟨fun y => z (.inr y), fun y => z (.inl y)⟩⟩
  · exact h.elim
theorem led_step {t s m : Int} (h : t = 1 ∨ t = 2 ∨ t = 3) : (s + m).fdiv t - s.fdiv t ∈ ledL m t := by
  unfold ledL
  rcases h with rfl | rfl | rfl <;> rw [Int.fdiv_eq_ediv_of_nonneg _ (by decide), Int.fdiv_eq_ediv_of_nonneg _ (by decide), Int.fdiv_eq_ediv_of_nonneg _ (by decide), Int.fmod_eq_emod_of_nonneg _ (by decide)] <;> split <;> simp only [List.mem_cons, List.not_mem_nil, or_false] <;> omega
theorem led_bk {t m d k : Int} (h : t = 1 ∨ t = 2 ∨ t = 3) (hd : d ∈ ledL m t) (k0 : 0 ≤ k) (k1 : k < 7) (j0 : 0 ≤ k + d) (j1 : k + d < 7) : ∃ s, (0 ≤ s ∧ s < 7 * t) ∧ (0 ≤ s + m ∧ s + m < 7 * t) ∧ s.fdiv t = k ∧ (s + m).fdiv t = k + d := by
  unfold ledL at hd
  have key : ∀ s : Int, (0 ≤ s ∧ s < 7 * t) ∧ (0 ≤ s + m ∧ s + m < 7 * t) ∧ s / t = k ∧ (s + m) / t = k + d → ∃ s, (0 ≤ s ∧ s < 7 * t) ∧ (0 ≤ s + m ∧ s + m < 7 * t) ∧ s.fdiv t = k ∧ (s + m).fdiv t = k + d := fun s q => ⟨s, by
    rw [Int.fdiv_eq_ediv_of_nonneg _ (by omega), Int.fdiv_eq_ediv_of_nonneg _ (by omega)]; exact q⟩
  rcases h with rfl | rfl | rfl
  · rw [Int.fdiv_eq_ediv_of_nonneg _ (by decide), Int.fmod_eq_emod_of_nonneg _ (by decide)] at hd
    refine key k ?_
    split at hd <;> simp only [List.mem_cons, List.not_mem_nil, or_false] at hd <;> omega
  · rw [Int.fdiv_eq_ediv_of_nonneg _ (by decide), Int.fmod_eq_emod_of_nonneg _ (by decide)] at hd
    split at hd
    · simp only [List.mem_cons, List.not_mem_nil, or_false] at hd
      exact key (2 * k) (by omega)
    · simp only [List.mem_cons, List.not_mem_nil, or_false] at hd
      rcases hd with hd | hd
      · exact key (2 * k) (by omega)
      · exact key (2 * k + 1) (by omega)
  · rw [Int.fdiv_eq_ediv_of_nonneg _ (by decide), Int.fmod_eq_emod_of_nonneg _ (by decide)] at hd
    split at hd
    · simp only [List.mem_cons, List.not_mem_nil, or_false] at hd
      exact key (3 * k) (by omega)
    · simp only [List.mem_cons, List.not_mem_nil, or_false] at hd
      rcases hd with hd | hd
      · exact key (3 * k) (by omega)
      · exact key (3 * k + 2) (by omega)
theorem led_small {t m d : Int} (h : t = 1 ∨ t = 2 ∨ t = 3) (h1 : -3 ≤ m) (h2 : m ≤ 3) (hd : d ∈ ledL m t) : -3 ≤ d ∧ d ≤ 3 ∧ (0 ≤ m → 0 ≤ d) := by
  unfold ledL at hd
  rcases h with rfl | rfl | rfl <;> rw [Int.fdiv_eq_ediv_of_nonneg _ (by decide), Int.fmod_eq_emod_of_nonneg _ (by decide)] at hd <;> split at hd <;> simp only [List.mem_cons, List.not_mem_nil, or_false] at hd <;> omega
theorem wait_tile {ms : List (Int × Int)} {a b : Int} {p q : Int × Int} (ha : a = 1 ∨ a = 2 ∨ a = 3) (hb : b = 1 ∨ b = 2 ∨ b = 3) (h : WaitT a b (AllT ms a b) p q) : TileP ms a b (p.1 - q.1, p.2 - q.2) := by
  obtain ⟨hn, s, r, ⟨_, _, m, hm, rfl⟩, rfl, rfl⟩ := h
  refine ⟨fun z => hn ?_, m, hm, led_step ha, led_step hb⟩
  have z1 := congrArg Prod.fst z
  have z2 := congrArg Prod.snd z
  dsimp only at z1 z2
  exact Prod.ext (by omega) (by omega)
theorem tile_wait {ms : List (Int × Int)} {a b : Int} {p q m : Int × Int} (ha : a = 1 ∨ a = 2 ∨ a = 3) (hb : b = 1 ∨ b = 2 ∨ b = 3) (hm : m ∈ ms) (h1 : p.1 - q.1 ∈ ledL m.1 a) (h2 : p.2 - q.2 ∈ ledL m.2 b) (hn : q ≠ p) (hp : p ∈ tiles) (hq : q ∈ tiles) : WaitT a b (AllT ms a b) p q := by
  rw [tiles_mem] at hp hq
  obtain ⟨p1, p2, p3, p4⟩ := hp
  obtain ⟨q1, q2, q3, q4⟩ := hq
  obtain ⟨s1, ⟨x1, x2⟩, ⟨x3, x4⟩, x5, x6⟩ := led_bk ha h1 q1 q2 (by omega) (by omega)
  obtain ⟨s2, ⟨y1, y2⟩, ⟨y3, y4⟩, y5, y6⟩ := led_bk hb h2 q3 q4 (by omega) (by omega)
  exact ⟨hn, (s1, s2), (s1 + m.1, s2 + m.2), ⟨⟨x1, x2, y1, y2⟩, ⟨x3, x4, y3, y4⟩, m, hm, rfl⟩, Prod.ext x5 y5, Prod.ext (by show (s1 + m.1).fdiv a = _; omega) (by show (s2 + m.2).fdiv b = _; omega)⟩
theorem row_stuck {ms : List (Int × Int)} {a b : Int} {I : Int × Int → List (Int × Int)} (ha : a = 1 ∨ a = 2 ∨ a = 3) (hb : b = 1 ∨ b = 2 ∨ b = 3) (hI : ∀ p ∈ tiles, ∀ q, q ∈ I p ↔ WaitT a b (AllT ms a b) p q) {m m' : Int × Int} {x y : Int} (hm : m ∈ ms) (hm' : m' ∈ ms) (h1 : 0 ∈ ledL m.1 a) (h2 : x ∈ ledL m.2 b) (h3 : 0 ∈ ledL m'.1 a) (h4 : -y ∈ ledL m'.2 b) (x1 : 1 ≤ x) (x2 : x ≤ 3) (y1 : 1 ≤ y) (y2 : y ≤ 3) : Stuck I := by
  have mem : ∀ {j : Int}, 0 ≤ j → j < 7 → (3, j) ∈ tiles := fun {j} h0 h1 => tiles_mem.mpr ⟨by dsimp only; decide, by dsimp only; decide, h0, h1⟩
  refine ⟨fun p => p ∈ tiles ∧ p.1 = 3, ⟨(3, 0), by decide, by decide, rfl⟩, fun p hp => hp.1, fun p hp => ?_⟩
  obtain ⟨hp, e⟩ := hp
  obtain ⟨i, j⟩ := p
  obtain rfl : i = 3 := e
  have hj := tiles_mem.mp hp
  obtain ⟨_, _, j1, j2⟩ := hj
  dsimp only at j1 j2
  by_cases c : x ≤ j
  · have hq := mem (j := j - x) (by omega) (by omega)
    refine ⟨(3, j - x), (hI _ hp _).mpr (tile_wait ha hb hm ?_ ?_ (fun z => ?_) hp hq), hq, rfl⟩
    · show (3 : Int) - 3 ∈ _; exact h1
    · show j - (j - x) ∈ _; rw [show j - (j - x) = x by omega]; exact h2
    · have := congrArg Prod.snd z; dsimp only at this; omega
  · have hq := mem (j := j + y) (by omega) (by omega)
    refine ⟨(3, j + y), (hI _ hp _).mpr (tile_wait ha hb hm' ?_ ?_ (fun z => ?_) hp hq), hq, rfl⟩
    · show (3 : Int) - 3 ∈ _; exact h3
    · show j - (j + y) ∈ _; rw [show j - (j + y) = -y by omega]; exact h4
    · have := congrArg Prod.snd z; dsimp only at this; omega
theorem line_free {ms : List (Int × Int)} {a b : Int} {I : Int × Int → List (Int × Int)} {L : Int × Int} (hI : ∀ p ∈ tiles, ∀ q, q ∈ I p ↔ WaitT a b (AllT ms a b) p q) (up : ∀ p q, WaitT a b (AllT ms a b) p q → 1 ≤ tim L (p.1 - q.1, p.2 - q.2)) : ¬ Stuck I := by
  rintro ⟨S, ⟨p0, _, s0⟩, s1, s2⟩
  have low : ∀ p, S p → -(6 * (L.1.natAbs : Int) + 6 * (L.2.natAbs : Int)) ≤ tim L p := by
    intro p hp
    obtain ⟨a1, a2, a3, a4⟩ := tiles_mem.mp (s1 p hp)
    have bnd : ∀ x y : Int, 0 ≤ y → y < 7 → -(6 * (x.natAbs : Int)) ≤ x * y := by
      intro x y y0 y7
      have : y = 0 ∨ y = 1 ∨ y = 2 ∨ y = 3 ∨ y = 4 ∨ y = 5 ∨ y = 6 := by omega
      rcases this with rfl | rfl | rfl | rfl | rfl | rfl | rfl <;> omega
    have b1 := bnd L.1 p.1 a1 a2
    have b2 := bnd L.2 p.2 a3 a4
    unfold tim
    omega
  have go : ∀ n : Nat, ∀ p, S p → -(6 * (L.1.natAbs : Int) + 6 * (L.2.natAbs : Int)) + n ≤ tim L p := by
    intro n
    induction n with
    | zero => intro p hp; have := low p hp; omega
    | succ n ih =>
      intro p hp
      obtain ⟨q, hq, sq⟩ := s2 p hp
      have h1 := up p q ((hI p (s1 p hp) q).mp hq)
      have h2 := ih q sq
      unfold tim at h1 h2 ⊢
      dsimp only at h1
      rw [Int.mul_sub, Int.mul_sub] at h1
      omega
  have := go (tim L p0 + (6 * (L.1.natAbs : Int) + 6 * (L.2.natAbs : Int)) + 1).toNat p0 s0
  have := low p0 s0
  omega
theorem no_line {ms qs : List (Int × Int)} {a b : Int} (hs : StepsOk ms) (h3 : ∀ p ∈ ms, stepTo 3 p) (ha : a = 1 ∨ a = 2 ∨ a = 3) (hb : b = 1 ∨ b = 2 ∨ b = 3) (h : SortSet (TileP ms a b) qs) (hn : lineO qs = none) : ∃ m ∈ ms, ∃ m' ∈ ms, ∃ x y : Int, 0 ∈ ledL m.1 a ∧ x ∈ ledL m.2 b ∧ 0 ∈ ledL m'.1 a ∧ -y ∈ ledL m'.2 b ∧ 1 ≤ x ∧ x ≤ 3 ∧ 1 ≤ y ∧ y ≤ 3 := by
  have sa : sizeOk a := by unfold sizeOk; omega
  have sb : sizeOk b := by unfold sizeOk; omega
  have hne := tile_ne hs sa sb h
  have bnd : ∀ p, TileP ms a b p → 0 ≤ p.1 ∧ -3 ≤ p.2 ∧ p.2 ≤ 3 := fun p ⟨_, m, hm, e1, e2⟩ => by
    obtain ⟨m1, m2, m3, m4, _⟩ := h3 m hm
    have c1 := led_small ha (by omega) m2 e1
    have c2 := led_small hb m3 m4 e2
    exact ⟨c1.2.2 m1, c2.1, c2.2.1⟩
  have none_of : ∀ L : Int × Int, (∀ p, TileP ms a b p → 1 ≤ tim L p) → False := fun L hL => by
    have := line_some (L := L) hne fun p hp => hL p ((h.2 p).mp hp)
    rw [hn] at this; cases this
  have up : ∃ p, TileP ms a b p ∧ p.1 = 0 ∧ 1 ≤ p.2 := Classical.byContradiction fun z => none_of (5, -1) fun p hp => by
    obtain ⟨b1, b2, b3⟩ := bnd p hp
    unfold tim
    dsimp only
    by_cases c : p.1 = 0
    · have : ¬ 1 ≤ p.2 := fun y => z ⟨p, hp, c, y⟩
      have : p.2 ≠ 0 := fun y => hp.1 (Prod.ext c y)
      omega
    · omega
  have dn : ∃ p, TileP ms a b p ∧ p.1 = 0 ∧ p.2 ≤ -1 := Classical.byContradiction fun z => none_of (5, 1) fun p hp => by
    obtain ⟨b1, b2, b3⟩ := bnd p hp
    unfold tim
    dsimp only
    by_cases c : p.1 = 0
    · have : ¬ p.2 ≤ -1 := fun y => z ⟨p, hp, c, y⟩
      have : p.2 ≠ 0 := fun y => hp.1 (Prod.ext c y)
      omega
    · omega
  obtain ⟨p, hp, p1, p2⟩ := up
  obtain ⟨q, hq, q1, q2⟩ := dn
  have bp := bnd p hp
  have bq := bnd q hq
  obtain ⟨_, m, hm, e1, e2⟩ := hp
  obtain ⟨_, m', hm', e3, e4⟩ := hq
  rw [p1] at e1
  rw [q1] at e3
  exact ⟨m, hm, m', hm', p.2, -q.2, e1, e2, e3, by rw [Int.neg_neg]; exact e4, p2, bp.2.2, by omega, by omega⟩
theorem hold_mob {A : Int × Int → Addr} {I : Int × Int → List (Int × Int)} {sl : List (Option SC)} {k : Gm → Prop} : ∀ (L : List (Int × Int)) (c : Ct), L.Nodup → (∀ p ∈ L, ∀ q ∈ L, A p = A q → p = q) → (∀ p ∈ L, c.h (A p) = some (.dT (dictD (I p)))) →
    (∀ c' : Ct, c'.num = c.num → (∀ p ∈ L, ∃ o, c'.h (A p) = some (.lkd o (.dT (dictD (I p))))) → (∀ x, (∀ p ∈ L, x ≠ A p) → c'.h x = c.h x) → k ⟨sl, c'⟩) → holdL (mobT A L) ⟨sl, c⟩ k
  | [], c, _, _, _, h => h c rfl (fun _ z => (List.not_mem_nil z).elim) fun _ _ => rfl
  | p :: L, c, nd, inj, hc, h => by
    have hp : ∀ q ∈ L, A q ≠ A p := fun q hq z => by
      have := inj q (List.mem_cons_of_mem _ hq) p List.mem_cons_self z
      subst this
      exact (List.nodup_cons.mp nd).1 hq
    show mobD (.mob (A p)) fun a => dtC (c.h a) fun m => ∀ o : HO, holdL (mobT A L) ⟨sl, c.set a (.lkd o (.dT m))⟩ k
    show dtC (c.h (A p)) fun m => ∀ o : HO, holdL (mobT A L) ⟨sl, c.set (A p) (.lkd o (.dT m))⟩ k
    rw [hc p List.mem_cons_self]
    intro o
    refine hold_mob L _ (List.nodup_cons.mp nd).2 (fun q hq r hr => inj q (List.mem_cons_of_mem _ hq) r (List.mem_cons_of_mem _ hr)) (fun q hq => (if_neg (hp q hq)).trans (hc q (List.mem_cons_of_mem _ hq))) fun c' h1 h2 h3 => h c' h1 (fun q hq => ?_) fun x hx => (h3 x fun q hq => hx q (List.mem_cons_of_mem _ hq)).trans (if_neg (hx p List.mem_cons_self))
    rcases List.mem_cons.mp hq with rfl | hq
    · exact ⟨o, (h3 _ fun r hr z => hp r hr z.symm).trans (if_pos rfl)⟩
    · exact h2 q hq
theorem L__law_right : ∀ n ds Q, S__law_right n ds Q → ds.length = ps__law_right.length := by
  intro n ds Q h
  unfold S__law_right at h
  split at h <;> first | exact h.elim | rfl
set_option maxHeartbeats 0 in
theorem l__law_right : ∀ n ds Q, S__law_right n ds Q → t__law_right (defE Q) (startG n N__law_right ds) := by
  intro n ds Q h
  unfold S__law_right at h
  split at h
  · rename_i ds a b
    show t__law_right (defE Q) ⟨[some (.dat (.lst ds)), some (.dat (.int a)), some (.dat (.int b)), none, none, none, none], n⟩
    obtain ⟨ms, rfl, hs, h3, ⟨a1, a2⟩, ⟨b1, b2⟩, h⟩ := h
    have ha : a = 1 ∨ a = 2 ∨ a = 3 := by omega
    have hb : b = 1 ∨ b = 2 ∨ b = 3 := by omega
    have sa : sizeOk a := by unfold sizeOk; omega
    have sb : sizeOk b := by unfold sizeOk; omega
    simp -implicitDefEqProofs only [t__law_right, ↓XB, XB, ↓XDm, XDm, ↓XRw, XRw, ↓XTx, XTx, ↓XC, XC, ↓XD, XD, ↓XT, XT, ↓XH, XH, ↓XA, XA, ↓XO, XO, ↓XL, XL, ↓XQE, XQE, ↓XW, XW, ↓XHd, XHd, ↓XP, ↓x_ifs, ↓XU, XU, XQ, eq_self, List.reverse_cons, List.reverse_nil, Int.cast_ofNat_Int, List.length_cons, List.length_nil, List.nil_append, List.cons_append, ne_eq, Nat.reduceAdd, Nat.reduceLeDiff, Int.reduceEq, Int.reduceLT, Int.reduceLE, Int.reduceToNat, Int.reducePow, Int.reduceAdd, Int.reduceMul, Int.reduceSub, Int.reduceNeg, List.getElem?_cons_zero, List.getElem?_cons_succ, dd_is_integer]
    refine ⟨ms, rfl, hs, sa, sb, fun qs hq => ⟨ms, rfl, hs, ⟨a1, a2⟩, ⟨b1, b2⟩, fun A I N hn hw hI => ?_⟩⟩
    have hI2 : ∀ p ∈ tiles, ∀ q, q ∈ I p ↔ WaitT a b (AllT ms a b) p q := fun p hp => (hI p hp).2
    refine hold_mob tiles N tiles_nd hw.2.2.1 hw.2.2.2.2 fun c k1 k2 k3 => ?_
    simp -implicitDefEqProofs only [t__law_right, ↓XB, XB, ↓XDm, XDm, ↓XRw, XRw, ↓XTx, XTx, ↓XC, XC, ↓XD, XD, ↓XT, XT, ↓XH, XH, ↓XA, XA, ↓XO, XO, ↓XL, XL, ↓XQE, XQE, ↓XW, XW, ↓XHd, XHd, ↓XP, ↓x_ifs, ↓XU, XU, XQ, eq_self, List.reverse_cons, List.reverse_nil, Int.cast_ofNat_Int, List.length_cons, List.length_nil, List.nil_append, List.cons_append, ne_eq, Nat.reduceAdd, Nat.reduceLeDiff, Int.reduceEq, Int.reduceLT, Int.reduceLE, Int.reduceToNat, Int.reducePow, Int.reduceAdd, Int.reduceMul, Int.reduceSub, Int.reduceNeg, List.getElem?_cons_zero, List.getElem?_cons_succ, dd_is_integer]
    refine ⟨A, I, rfl, ⟨hw.2.2.1, k2⟩, fun p hp => (hI p hp).1, fun bb c2 k4 k5 k6 => ?_⟩
    have hk : ∀ p ∈ tiles, ∃ o, c2.h (A p) = some (.lkd o (.dT (dictD (I p)))) := fun p hp => by
      obtain ⟨o, e⟩ := k2 p hp
      exact ⟨o, (k5 _ (by rw [e]; intro z; cases z)).trans e⟩
    have hnum : c2.num = n.num := k4.trans (k1.trans hn)
    cases eL : lineO qs with
    | none =>
      have : bb = false := by
        obtain ⟨m, hm, m', hm', x, y, e1, e2, e3, e4, e5, e6, e7, e8⟩ := no_line hs h3 ha hb hq eL
        cases bb with
        | false => rfl
        | true => exact ((k6.mp rfl) (row_stuck ha hb hI2 hm hm' e1 e2 e3 e4 e5 e6 e7 e8)).elim
      subst this
      simp -implicitDefEqProofs only [t__law_right, ↓XB, XB, ↓XDm, XDm, ↓XRw, XRw, ↓XTx, XTx, ↓XC, XC, ↓XD, XD, ↓XT, XT, ↓XH, XH, ↓XA, XA, ↓XO, XO, ↓XL, XL, ↓XQE, XQE, ↓XW, XW, ↓XHd, XHd, ↓XP, ↓x_ifs, ↓XU, XU, XQ, eq_self, List.reverse_cons, List.reverse_nil, Int.cast_ofNat_Int, List.length_cons, List.length_nil, List.nil_append, List.cons_append, ne_eq, Nat.reduceAdd, Nat.reduceLeDiff, Int.reduceEq, Int.reduceLT, Int.reduceLE, Int.reduceToNat, Int.reducePow, Int.reduceAdd, Int.reduceMul, Int.reduceSub, Int.reduceNeg, List.getElem?_cons_zero, List.getElem?_cons_succ, dd_is_integer, optD]
      rw [q_b00]
      simp -implicitDefEqProofs only [t__law_right, ↓XB, XB, ↓XDm, XDm, ↓XRw, XRw, ↓XTx, XTx, ↓XC, XC, ↓XD, XD, ↓XT, XT, ↓XH, XH, ↓XA, XA, ↓XO, XO, ↓XL, XL, ↓XQE, XQE, ↓XW, XW, ↓XHd, XHd, ↓XP, ↓x_ifs, ↓XU, XU, XQ, eq_self, List.reverse_cons, List.reverse_nil, Int.cast_ofNat_Int, List.length_cons, List.length_nil, List.nil_append, List.cons_append, ne_eq, Nat.reduceAdd, Nat.reduceLeDiff, Int.reduceEq, Int.reduceLT, Int.reduceLE, Int.reduceToNat, Int.reducePow, Int.reduceAdd, Int.reduceMul, Int.reduceSub, Int.reduceNeg, List.getElem?_cons_zero, List.getElem?_cons_succ, dd_is_integer]
      exact h c2 hnum
    | some L =>
      have up : ∀ p q, WaitT a b (AllT ms a b) p q → 1 ≤ tim L (p.1 - q.1, p.2 - q.2) := fun p q hpq =>
        (lineO_of (fun p hp => ((hq.2 p).mp hp).1) eL).1 _ ((hq.2 _).mpr (wait_tile ha hb hpq))
      have : bb = true := k6.mpr (line_free hI2 up)
      subst this
      have hbig := line_big (tile_bnd hs sa sb hq) eL
      simp -implicitDefEqProofs only [t__law_right, ↓XB, XB, ↓XDm, XDm, ↓XRw, XRw, ↓XTx, XTx, ↓XC, XC, ↓XD, XD, ↓XT, XT, ↓XH, XH, ↓XA, XA, ↓XO, XO, ↓XL, XL, ↓XQE, XQE, ↓XW, XW, ↓XHd, XHd, ↓XP, ↓x_ifs, ↓XU, XU, XQ, eq_self, List.reverse_cons, List.reverse_nil, Int.cast_ofNat_Int, List.length_cons, List.length_nil, List.nil_append, List.cons_append, ne_eq, Nat.reduceAdd, Nat.reduceLeDiff, Int.reduceEq, Int.reduceLT, Int.reduceLE, Int.reduceToNat, Int.reducePow, Int.reduceAdd, Int.reduceMul, Int.reduceSub, Int.reduceNeg, List.getElem?_cons_zero, List.getElem?_cons_succ, dd_is_integer, optD]
      rw [q_b11]
      simp -implicitDefEqProofs only [t__law_right, ↓XB, XB, ↓XDm, XDm, ↓XRw, XRw, ↓XTx, XTx, ↓XC, XC, ↓XD, XD, ↓XT, XT, ↓XH, XH, ↓XA, XA, ↓XO, XO, ↓XL, XL, ↓XQE, XQE, ↓XW, XW, ↓XHd, XHd, ↓XP, ↓x_ifs, ↓XU, XU, XQ, eq_self, List.reverse_cons, List.reverse_nil, Int.cast_ofNat_Int, List.length_cons, List.length_nil, List.nil_append, List.cons_append, ne_eq, Nat.reduceAdd, Nat.reduceLeDiff, Int.reduceEq, Int.reduceLT, Int.reduceLE, Int.reduceToNat, Int.reducePow, Int.reduceAdd, Int.reduceMul, Int.reduceSub, Int.reduceNeg, List.getElem?_cons_zero, List.getElem?_cons_succ, dd_is_integer]
      rw [show ∀ k : D → Gm → Prop, frz ⟨[some (.dat (.lst (ms.map prD))), some (.dat (.int a)), some (.dat (.int b)), none, some (.dat (.tup [.int L.1, .int L.2])), some (.dat (.dT (mobT A tiles))), none], c2⟩ (.bor 5) k = k (.dT (mobT A tiles)) ⟨[some (.dat (.lst (ms.map prD))), some (.dat (.int a)), some (.dat (.int b)), none, some (.dat (.tup [.int L.1, .int L.2])), some (.dat (.dT (mobT A tiles))), none], c2⟩ from fun _ => rfl]
      simp -implicitDefEqProofs only [t__law_right, ↓XB, XB, ↓XDm, XDm, ↓XRw, XRw, ↓XTx, XTx, ↓XC, XC, ↓XD, XD, ↓XT, XT, ↓XH, XH, ↓XA, XA, ↓XO, XO, ↓XL, XL, ↓XQE, XQE, ↓XW, XW, ↓XHd, XHd, ↓XP, ↓x_ifs, ↓XU, XU, XQ, eq_self, List.reverse_cons, List.reverse_nil, Int.cast_ofNat_Int, List.length_cons, List.length_nil, List.nil_append, List.cons_append, ne_eq, Nat.reduceAdd, Nat.reduceLeDiff, Int.reduceEq, Int.reduceLT, Int.reduceLE, Int.reduceToNat, Int.reducePow, Int.reduceAdd, Int.reduceMul, Int.reduceSub, Int.reduceNeg, List.getElem?_cons_zero, List.getElem?_cons_succ, dd_is_integer, keysT_mob]
      refine for_inv (fun r G => ∃ (rest : List (Int × Int)) (o3 : Option SC), r = rest.map prD ∧ (∀ p ∈ rest, p ∈ tiles) ∧ G = ⟨[some (.dat (.lst (ms.map prD))), some (.dat (.int a)), some (.dat (.int b)), o3, some (.dat (.tup [.int L.1, .int L.2])), some (.dat (.dT (mobT A tiles))), none], c2⟩) ?_ _ ?_ _ ⟨tiles, _, rfl, fun _ h => h, rfl⟩
      · rintro G ⟨rest, o3, e1, e2, rfl⟩
        simp -implicitDefEqProofs only [t__law_right, ↓XB, XB, ↓XDm, XDm, ↓XRw, XRw, ↓XTx, XTx, ↓XC, XC, ↓XD, XD, ↓XT, XT, ↓XH, XH, ↓XA, XA, ↓XO, XO, ↓XL, XL, ↓XQE, XQE, ↓XW, XW, ↓XHd, XHd, ↓XP, ↓x_ifs, ↓XU, XU, XQ, eq_self, List.reverse_cons, List.reverse_nil, Int.cast_ofNat_Int, List.length_cons, List.length_nil, List.nil_append, List.cons_append, ne_eq, Nat.reduceAdd, Nat.reduceLeDiff, Int.reduceEq, Int.reduceLT, Int.reduceLE, Int.reduceToNat, Int.reducePow, Int.reduceAdd, Int.reduceMul, Int.reduceSub, Int.reduceNeg, List.getElem?_cons_zero, List.getElem?_cons_succ, dd_is_integer]
        exact h c2 hnum
      · rintro d r G M hsf ⟨rest, o3, e1, e2, rfl⟩ hM
        cases rest with
        | nil => cases e1
        | cons p rest =>
          obtain ⟨rfl, rfl⟩ := List.cons.inj (show d :: r = .tup [.int p.1, .int p.2] :: rest.map prD from e1)
          have hp := e2 p List.mem_cons_self
          obtain ⟨op, ho⟩ := hk p hp
          simp -implicitDefEqProofs only [t__law_right, ↓XB, XB, ↓XDm, XDm, ↓XRw, XRw, ↓XTx, XTx, ↓XC, XC, ↓XD, XD, ↓XT, XT, ↓XH, XH, ↓XA, XA, ↓XO, XO, ↓XL, XL, ↓XQE, XQE, ↓XW, XW, ↓XHd, XHd, ↓XP, ↓x_ifs, ↓XU, XU, XQ, eq_self, List.reverse_cons, List.reverse_nil, Int.cast_ofNat_Int, List.length_cons, List.length_nil, List.nil_append, List.cons_append, ne_eq, Nat.reduceAdd, Nat.reduceLeDiff, Int.reduceEq, Int.reduceLT, Int.reduceLE, Int.reduceToNat, Int.reducePow, Int.reduceAdd, Int.reduceMul, Int.reduceSub, Int.reduceNeg, List.getElem?_cons_zero, List.getElem?_cons_succ, dd_is_integer]
          rw [valD_mob (show (p.1, p.2) ∈ tiles from hp)]
          simp -implicitDefEqProofs only [t__law_right, ↓XB, XB, ↓XDm, XDm, ↓XRw, XRw, ↓XTx, XTx, ↓XC, XC, ↓XD, XD, ↓XT, XT, ↓XH, XH, ↓XA, XA, ↓XO, XO, ↓XL, XL, ↓XQE, XQE, ↓XW, XW, ↓XHd, XHd, ↓XP, ↓x_ifs, ↓XU, XU, XQ, eq_self, List.reverse_cons, List.reverse_nil, Int.cast_ofNat_Int, List.length_cons, List.length_nil, List.nil_append, List.cons_append, ne_eq, Nat.reduceAdd, Nat.reduceLeDiff, Int.reduceEq, Int.reduceLT, Int.reduceLE, Int.reduceToNat, Int.reducePow, Int.reduceAdd, Int.reduceMul, Int.reduceSub, Int.reduceNeg, List.getElem?_cons_zero, List.getElem?_cons_succ, dd_is_integer, ho, keysT_dictD]
          refine ⟨by rw [List.length_map]; exact Nat.le_trans (hI p hp).1 (by decide), ?_⟩
          refine lc_prs (fun _ => false) (fun _ => .int 1) (fun q hq2 k k' y => ?_) ?_
          · have hw2 := (hI2 p hp q).mp hq2
            have hup := up p q hw2
            have hqt : q ∈ tiles := by
              obtain ⟨_, s, _, ⟨hsb, _⟩, e, _⟩ := hw2
              rw [← e]; exact tileT a1 b1 hsb
            have sm : ∀ p ∈ tiles, p.1.natAbs < 10 ^ 300 ∧ p.2.natAbs < 10 ^ 300 := fun p hp => by
              obtain ⟨x1, x2, x3, x4⟩ := tiles_mem.mp hp
              exact ⟨Nat.lt_of_le_of_lt (m := 7) (by omega) (by decide +kernel), Nat.lt_of_le_of_lt (m := 7) (by omega) (by decide +kernel)⟩
            have l1 : L.1.natAbs < 10 ^ 300 := Nat.lt_trans hbig.1 (by decide +kernel)
            have l2 : L.2.natAbs < 10 ^ 300 := Nat.lt_trans hbig.2 (by decide +kernel)
            simp -implicitDefEqProofs only [t__law_right, ↓XB, XB, ↓XDm, XDm, ↓XRw, XRw, ↓XTx, XTx, ↓XC, XC, ↓XD, XD, ↓XT, XT, ↓XH, XH, ↓XA, XA, ↓XO, XO, ↓XL, XL, ↓XQE, XQE, ↓XW, XW, ↓XHd, XHd, ↓XP, ↓x_ifs, ↓XU, XU, XQ, eq_self, List.reverse_cons, List.reverse_nil, Int.cast_ofNat_Int, List.length_cons, List.length_nil, List.nil_append, List.cons_append, ne_eq, Nat.reduceAdd, Nat.reduceLeDiff, Int.reduceEq, Int.reduceLT, Int.reduceLE, Int.reduceToNat, Int.reducePow, Int.reduceAdd, Int.reduceMul, Int.reduceSub, Int.reduceNeg, List.getElem?_cons_zero, List.getElem?_cons_succ, dd_is_integer, ho]
            refine ⟨⟨l1, l2, sm q hqt⟩, ⟨l1, l2, sm p hp⟩, ?_⟩
            have hlt : ¬ tim (L.1, L.2) (p.1, p.2) ≤ tim (L.1, L.2) (q.1, q.2) := by
              unfold tim at hup ⊢
              dsimp only at hup ⊢
              rw [Int.mul_sub, Int.mul_sub] at hup
              omega
            rw [decide_eq_false hlt]
            simp -implicitDefEqProofs only [t__law_right, ↓XB, XB, ↓XDm, XDm, ↓XRw, XRw, ↓XTx, XTx, ↓XC, XC, ↓XD, XD, ↓XT, XT, ↓XH, XH, ↓XA, XA, ↓XO, XO, ↓XL, XL, ↓XQE, XQE, ↓XW, XW, ↓XHd, XHd, ↓XP, ↓x_ifs, ↓XU, XU, XQ, eq_self, List.reverse_cons, List.reverse_nil, Int.cast_ofNat_Int, List.length_cons, List.length_nil, List.nil_append, List.cons_append, ne_eq, Nat.reduceAdd, Nat.reduceLeDiff, Int.reduceEq, Int.reduceLT, Int.reduceLE, Int.reduceToNat, Int.reducePow, Int.reduceAdd, Int.reduceMul, Int.reduceSub, Int.reduceNeg, List.getElem?_cons_zero, List.getElem?_cons_succ, dd_is_integer]
            exact y
          · rw [List.filter_eq_nil_iff.mpr fun _ _ => Bool.false_ne_true]
            simp -implicitDefEqProofs only [t__law_right, ↓XB, XB, ↓XDm, XDm, ↓XRw, XRw, ↓XTx, XTx, ↓XC, XC, ↓XD, XD, ↓XT, XT, ↓XH, XH, ↓XA, XA, ↓XO, XO, ↓XL, XL, ↓XQE, XQE, ↓XW, XW, ↓XHd, XHd, ↓XP, ↓x_ifs, ↓XU, XU, XQ, eq_self, List.reverse_cons, List.reverse_nil, Int.cast_ofNat_Int, List.length_cons, List.length_nil, List.nil_append, List.cons_append, ne_eq, Nat.reduceAdd, Nat.reduceLeDiff, Int.reduceEq, Int.reduceLT, Int.reduceLE, Int.reduceToNat, Int.reducePow, Int.reduceAdd, Int.reduceMul, Int.reduceSub, Int.reduceNeg, List.getElem?_cons_zero, List.getElem?_cons_succ, dd_is_integer, ho]
            exact hM _ ⟨rest, _, rfl, fun q hq => e2 q (List.mem_cons_of_mem _ hq), rfl⟩
  · exact h.elim
theorem L_law : ∀ n ds Q, S_law n ds Q → ds.length = ps_law.length := by
  rintro n ds Q ⟨_, ns, rfl, _⟩
  rfl
theorem l_law : ∀ n ds Q, S_law n ds Q → t_law (defE Q) (startG n N_law ds) := by
  rintro n ds Q ⟨rfl, ns, rfl, hn, h⟩
  show t_law (defE Q) ⟨[some (.dat (.scr ns)), none, none, none, none], 0⟩
  have hn : ns.length ≤ 63 := hn
  obtain ⟨c1, hm⟩ := cells2 8 (ns := ns) (by decide) (by decide)
  simp -implicitDefEqProofs only [t_law, ↓XB, XB, ↓XDm, XDm, ↓XRw, XRw, ↓XTx, XTx, ↓XC, XC, ↓XD, XD, ↓XT, XT, ↓XH, XH, ↓XA, XA, ↓XO, XO, ↓XL, XL, ↓XQE, XQE, ↓XW, XW, ↓XHd, XHd, ↓XP, ↓x_ifs, ↓XU, XU, XQ, eq_self, List.reverse_cons, List.reverse_nil, Int.cast_ofNat_Int, List.length_cons, List.length_nil, List.nil_append, List.cons_append, ne_eq, Nat.reduceAdd, Nat.reduceLeDiff, Int.reduceEq, Int.reduceLT, Int.reduceLE, Int.reduceToNat, Int.reducePow, Int.reduceAdd, Int.reduceMul, Int.reduceSub, Int.reduceNeg, List.getElem?_cons_zero, List.getElem?_cons_succ, dd_is_integer, ↓add_sl, ↓len_scr]
  refine ⟨Nat.le_trans (m := 64) (by omega) (by decide), ?_⟩
  rw [show ((8 : Nat) : Int) = 8 from rfl] at c1 hm
  generalize dSlc.cutV' (ns.map D.int ++ [D.int 0]) none (some (maxI 1 (minI (ns.length : Int) 8))) = B at c1 hm ⊢
  try (simp -implicitDefEqProofs only [t_law, ↓XB, XB, ↓XDm, XDm, ↓XRw, XRw, ↓XTx, XTx, ↓XC, XC, ↓XD, XD, ↓XT, XT, ↓XH, XH, ↓XA, XA, ↓XO, XO, ↓XL, XL, ↓XQE, XQE, ↓XW, XW, ↓XHd, XHd, ↓XP, ↓x_ifs, ↓XU, XU, XQ, eq_self, List.reverse_cons, List.reverse_nil, Int.cast_ofNat_Int, List.length_cons, List.length_nil, List.nil_append, List.cons_append, ne_eq, Nat.reduceAdd, Nat.reduceLeDiff, Int.reduceEq, Int.reduceLT, Int.reduceLE, Int.reduceToNat, Int.reducePow, Int.reduceAdd, Int.reduceMul, Int.reduceSub, Int.reduceNeg, List.getElem?_cons_zero, List.getElem?_cons_succ, dd_is_integer])
  refine for_inv (fun r G => ∃ (o1 o2 o3 o4 : Option SC) (c : Ct), c.num + 50 * r.length ≤ 400 ∧ G = ⟨[some (.dat (.scr ns)), o1, o2, o3, o4], c⟩) ?_ _ ?_ _ ⟨_, _, _, _, _, by rw [enumD_len]; show 0 + _ ≤ _; omega, rfl⟩
  · rintro G ⟨o1, o2, o3, o4, c, _, rfl⟩
    have s1 : StepsOk [(1, -1), (1, 1)] := ⟨by decide, by decide, by decide, by decide⟩
    simp -implicitDefEqProofs only [t_law, ↓XB, XB, ↓XDm, XDm, ↓XRw, XRw, ↓XTx, XTx, ↓XC, XC, ↓XD, XD, ↓XT, XT, ↓XH, XH, ↓XA, XA, ↓XO, XO, ↓XL, XL, ↓XQE, XQE, ↓XW, XW, ↓XHd, XHd, ↓XP, ↓x_ifs, ↓XU, XU, XQ, eq_self, List.reverse_cons, List.reverse_nil, Int.cast_ofNat_Int, List.length_cons, List.length_nil, List.nil_append, List.cons_append, ne_eq, Nat.reduceAdd, Nat.reduceLeDiff, Int.reduceEq, Int.reduceLT, Int.reduceLE, Int.reduceToNat, Int.reducePow, Int.reduceAdd, Int.reduceMul, Int.reduceSub, Int.reduceNeg, List.getElem?_cons_zero, List.getElem?_cons_succ, dd_is_integer]
    refine ⟨[(1, -1), (1, 1)], rfl, s1, fun A I N hn hw hI => ?_⟩
    have hI2 : ∀ p ∈ tiles, ∀ q, q ∈ I p ↔ WaitT 2 2 (AllT [(1, -1), (1, 1)] 2 2) p q := fun p hp => (hI p hp).2
    refine hold_mob tiles N tiles_nd hw.2.2.1 hw.2.2.2.2 fun c k1 k2 k3 => ?_
    simp -implicitDefEqProofs only [t_law, ↓XB, XB, ↓XDm, XDm, ↓XRw, XRw, ↓XTx, XTx, ↓XC, XC, ↓XD, XD, ↓XT, XT, ↓XH, XH, ↓XA, XA, ↓XO, XO, ↓XL, XL, ↓XQE, XQE, ↓XW, XW, ↓XHd, XHd, ↓XP, ↓x_ifs, ↓XU, XU, XQ, eq_self, List.reverse_cons, List.reverse_nil, Int.cast_ofNat_Int, List.length_cons, List.length_nil, List.nil_append, List.cons_append, ne_eq, Nat.reduceAdd, Nat.reduceLeDiff, Int.reduceEq, Int.reduceLT, Int.reduceLE, Int.reduceToNat, Int.reducePow, Int.reduceAdd, Int.reduceMul, Int.reduceSub, Int.reduceNeg, List.getElem?_cons_zero, List.getElem?_cons_succ, dd_is_integer]
    refine ⟨A, I, rfl, ⟨hw.2.2.1, k2⟩, fun p hp => (hI p hp).1, fun bb c2 k4 k5 k6 => ?_⟩
    have hst : Stuck I := row_stuck (m := (1, 1)) (m' := (1, -1)) (x := 1) (y := 1) (.inr (.inl rfl)) (.inr (.inl rfl)) hI2 (by decide) (by decide) (by decide) (by decide) (by decide) (by decide) (by decide) (by decide) (by decide) (by decide)
    have : bb = false := by
      cases bb with
      | false => rfl
      | true => exact ((k6.mp rfl) hst).elim
    subst this
    simp -implicitDefEqProofs only [t_law, ↓XB, XB, ↓XDm, XDm, ↓XRw, XRw, ↓XTx, XTx, ↓XC, XC, ↓XD, XD, ↓XT, XT, ↓XH, XH, ↓XA, XA, ↓XO, XO, ↓XL, XL, ↓XQE, XQE, ↓XW, XW, ↓XHd, XHd, ↓XP, ↓x_ifs, ↓XU, XU, XQ, eq_self, List.reverse_cons, List.reverse_nil, Int.cast_ofNat_Int, List.length_cons, List.length_nil, List.nil_append, List.cons_append, ne_eq, Nat.reduceAdd, Nat.reduceLeDiff, Int.reduceEq, Int.reduceLT, Int.reduceLE, Int.reduceToNat, Int.reducePow, Int.reduceAdd, Int.reduceMul, Int.reduceSub, Int.reduceNeg, List.getElem?_cons_zero, List.getElem?_cons_succ, dd_is_integer]
    exact h _
  · rintro d r G N hs ⟨o1, o2, o3, o4, c, hc, rfl⟩ hN
    obtain ⟨j, d', rfl, hd⟩ := enum_at (hs.subset List.mem_cons_self)
    have hj : j < B.length := (List.getElem?_eq_some_iff.mp hd).1
    obtain ⟨v, rfl⟩ := hm d' (List.mem_of_getElem? hd)
    rw [List.length_cons] at hc
    simp -implicitDefEqProofs only [t_law, ↓XB, XB, ↓XDm, XDm, ↓XRw, XRw, ↓XTx, XTx, ↓XC, XC, ↓XD, XD, ↓XT, XT, ↓XH, XH, ↓XA, XA, ↓XO, XO, ↓XL, XL, ↓XQE, XQE, ↓XW, XW, ↓XHd, XHd, ↓XP, ↓x_ifs, ↓XU, XU, XQ, eq_self, List.reverse_cons, List.reverse_nil, Int.cast_ofNat_Int, List.length_cons, List.length_nil, List.nil_append, List.cons_append, ne_eq, Nat.reduceAdd, Nat.reduceLeDiff, Int.reduceEq, Int.reduceLT, Int.reduceLE, Int.reduceToNat, Int.reducePow, Int.reduceAdd, Int.reduceMul, Int.reduceSub, Int.reduceNeg, List.getElem?_cons_zero, List.getElem?_cons_succ, dd_is_integer]
    refine ⟨by omega, by omega, ?_⟩
    refine q_scr ?_
    cases decide (ns = []) with
    | true =>
      rw [show atI [D.int 1, D.int 3] (if (!true) = true then 1 else 0) = some (.int 1) from rfl]
      simp -implicitDefEqProofs only [t_law, ↓XB, XB, ↓XDm, XDm, ↓XRw, XRw, ↓XTx, XTx, ↓XC, XC, ↓XD, XD, ↓XT, XT, ↓XH, XH, ↓XA, XA, ↓XO, XO, ↓XL, XL, ↓XQE, XQE, ↓XW, XW, ↓XHd, XHd, ↓XP, ↓x_ifs, ↓XU, XU, XQ, eq_self, List.reverse_cons, List.reverse_nil, Int.cast_ofNat_Int, List.length_cons, List.length_nil, List.nil_append, List.cons_append, ne_eq, Nat.reduceAdd, Nat.reduceLeDiff, Int.reduceEq, Int.reduceLT, Int.reduceLE, Int.reduceToNat, Int.reducePow, Int.reduceAdd, Int.reduceMul, Int.reduceSub, Int.reduceNeg, List.getElem?_cons_zero, List.getElem?_cons_succ, dd_is_integer]
      refine for_inv (fun q G => ∃ (o4 : Option SC) (c' : Ct), c'.num + 12 * q.length ≤ c.num + 40 ∧ G = ⟨[some (.dat (.scr ns)), some (.dat (.int (0 + j))), some (.dat (.int v)), some (.dat .src), o4], c'⟩) ?_ _ ?_ _ (show ∃ (o4 : Option SC) (c' : Ct), _ from ⟨_, c, ?_, rfl⟩)
      · rintro G ⟨o4, c', hc', rfl⟩
        exact hN _ ⟨_, _, _, _, _, by rw [List.length_nil] at hc'; omega, rfl⟩
      · rintro d q G M hq ⟨o4, c', hc', rfl⟩ hM
        rw [List.length_cons] at hc'
        simp -implicitDefEqProofs only [t_law, ↓XB, XB, ↓XDm, XDm, ↓XRw, XRw, ↓XTx, XTx, ↓XC, XC, ↓XD, XD, ↓XT, XT, ↓XH, XH, ↓XA, XA, ↓XO, XO, ↓XL, XL, ↓XQE, XQE, ↓XW, XW, ↓XHd, XHd, ↓XP, ↓x_ifs, ↓XU, XU, XQ, eq_self, List.reverse_cons, List.reverse_nil, Int.cast_ofNat_Int, List.length_cons, List.length_nil, List.nil_append, List.cons_append, ne_eq, Nat.reduceAdd, Nat.reduceLeDiff, Int.reduceEq, Int.reduceLT, Int.reduceLE, Int.reduceToNat, Int.reducePow, Int.reduceAdd, Int.reduceMul, Int.reduceSub, Int.reduceNeg, List.getElem?_cons_zero, List.getElem?_cons_succ, dd_is_integer]
        refine ⟨by omega, fun ms j1 m1 m2 m3 m4 n1 n2 => ⟨by decide +kernel, by omega, fun i1 j2 a1 a2 n3 n4 => ⟨by decide +kernel, by omega, fun i2 j3 a3 a4 n5 n6 => ?_⟩⟩⟩
        exact ⟨ms, rfl, ⟨m1, m2, fun p hp => stepTo_ok (m3 p hp) (by decide), m4⟩, m3, by omega, by omega, fun N hN => hM _ ⟨_, N, by omega, rfl⟩⟩
      · show c.num + 12 * 1 ≤ _
        omega
    | false =>
      rw [show atI [D.int 1, D.int 3] (if (!false) = true then 1 else 0) = some (.int 3) from rfl]
      simp -implicitDefEqProofs only [t_law, ↓XB, XB, ↓XDm, XDm, ↓XRw, XRw, ↓XTx, XTx, ↓XC, XC, ↓XD, XD, ↓XT, XT, ↓XH, XH, ↓XA, XA, ↓XO, XO, ↓XL, XL, ↓XQE, XQE, ↓XW, XW, ↓XHd, XHd, ↓XP, ↓x_ifs, ↓XU, XU, XQ, eq_self, List.reverse_cons, List.reverse_nil, Int.cast_ofNat_Int, List.length_cons, List.length_nil, List.nil_append, List.cons_append, ne_eq, Nat.reduceAdd, Nat.reduceLeDiff, Int.reduceEq, Int.reduceLT, Int.reduceLE, Int.reduceToNat, Int.reducePow, Int.reduceAdd, Int.reduceMul, Int.reduceSub, Int.reduceNeg, List.getElem?_cons_zero, List.getElem?_cons_succ, dd_is_integer]
      refine for_inv (fun q G => ∃ (o4 : Option SC) (c' : Ct), c'.num + 12 * q.length ≤ c.num + 40 ∧ G = ⟨[some (.dat (.scr ns)), some (.dat (.int (0 + j))), some (.dat (.int v)), some (.dat .src), o4], c'⟩) ?_ _ ?_ _ (show ∃ (o4 : Option SC) (c' : Ct), _ from ⟨_, c, ?_, rfl⟩)
      · rintro G ⟨o4, c', hc', rfl⟩
        exact hN _ ⟨_, _, _, _, _, by rw [List.length_nil] at hc'; omega, rfl⟩
      · rintro d q G M hq ⟨o4, c', hc', rfl⟩ hM
        rw [List.length_cons] at hc'
        simp -implicitDefEqProofs only [t_law, ↓XB, XB, ↓XDm, XDm, ↓XRw, XRw, ↓XTx, XTx, ↓XC, XC, ↓XD, XD, ↓XT, XT, ↓XH, XH, ↓XA, XA, ↓XO, XO, ↓XL, XL, ↓XQE, XQE, ↓XW, XW, ↓XHd, XHd, ↓XP, ↓x_ifs, ↓XU, XU, XQ, eq_self, List.reverse_cons, List.reverse_nil, Int.cast_ofNat_Int, List.length_cons, List.length_nil, List.nil_append, List.cons_append, ne_eq, Nat.reduceAdd, Nat.reduceLeDiff, Int.reduceEq, Int.reduceLT, Int.reduceLE, Int.reduceToNat, Int.reducePow, Int.reduceAdd, Int.reduceMul, Int.reduceSub, Int.reduceNeg, List.getElem?_cons_zero, List.getElem?_cons_succ, dd_is_integer]
        refine ⟨by omega, fun ms j1 m1 m2 m3 m4 n1 n2 => ⟨by decide +kernel, by omega, fun i1 j2 a1 a2 n3 n4 => ⟨by decide +kernel, by omega, fun i2 j3 a3 a4 n5 n6 => ?_⟩⟩⟩
        exact ⟨ms, rfl, ⟨m1, m2, fun p hp => stepTo_ok (m3 p hp) (by decide), m4⟩, m3, by omega, by omega, fun N hN => hM _ ⟨_, N, by omega, rfl⟩⟩
      · show c.num + 12 * 3 ≤ _
        omega
def topS (i : Nat) : Stmt := PySem.Challenge.pw_storerounds_k58_tiles_in_boxes.main.body.getD i (.Pass ⟨0, 0, 0, 0⟩)
abbrev s__law_source : Stmt := topS 29
abbrev s_is_integer : Stmt := topS 8
abbrev s_is_pair : Stmt := topS 9
abbrev s_is_step : Stmt := topS 10
abbrev s_steps_fault : Stmt := topS 11
abbrev s_need_steps : Stmt := topS 12
abbrev s_need_size : Stmt := topS 13
abbrev s_need_box : Stmt := topS 14
abbrev s_need_tiles : Stmt := topS 26
abbrev s_det : Stmt := topS 16
abbrev s_time_of : Stmt := topS 18
abbrev s_comes_on : Stmt := topS 19
abbrev s_outermost : Stmt := topS 20
abbrev s_middle_line : Stmt := topS 21
abbrev s_line_over : Stmt := topS 22
abbrev s_led_to : Stmt := topS 24
abbrev s_tile_steps_of : Stmt := topS 25
abbrev s_tile_order : Stmt := topS 27
abbrev s__law_ahead : Stmt := topS 35
abbrev s__law_waits : Stmt := topS 36
abbrev s__law_can_end : Stmt := topS 37
abbrev s__law_at : Stmt := topS 34
abbrev s__law_right : Stmt := topS 38
abbrev s__law_draw : Stmt := topS 30
abbrev s__law_move : Stmt := topS 31
abbrev s__law_moves : Stmt := topS 32
abbrev s_law : Stmt := topS 39
theorem sc__law_source : FnScope N__law_source ps__law_source (defScope s__law_source) := ⟨rfl, rfl, rfl, by decide +kernel, rfl, by decide +kernel, by decide +kernel⟩
theorem sc_is_integer : FnScope N_is_integer ps_is_integer (defScope s_is_integer) := ⟨rfl, rfl, rfl, by decide +kernel, rfl, by decide +kernel, by decide +kernel⟩
theorem sc_is_pair : FnScope N_is_pair ps_is_pair (defScope s_is_pair) := ⟨rfl, rfl, rfl, by decide +kernel, rfl, by decide +kernel, by decide +kernel⟩
theorem sc_is_step : FnScope N_is_step ps_is_step (defScope s_is_step) := ⟨rfl, rfl, rfl, by decide +kernel, rfl, by decide +kernel, by decide +kernel⟩
theorem sc_steps_fault : FnScope N_steps_fault ps_steps_fault (defScope s_steps_fault) := ⟨rfl, rfl, rfl, by decide +kernel, rfl, by decide +kernel, by decide +kernel⟩
theorem sc_need_steps : FnScope N_need_steps ps_need_steps (defScope s_need_steps) := ⟨rfl, rfl, rfl, by decide +kernel, rfl, by decide +kernel, by decide +kernel⟩
theorem sc_need_size : FnScope N_need_size ps_need_size (defScope s_need_size) := ⟨rfl, rfl, rfl, by decide +kernel, rfl, by decide +kernel, by decide +kernel⟩
theorem sc_need_box : FnScope N_need_box ps_need_box (defScope s_need_box) := ⟨rfl, rfl, rfl, by decide +kernel, rfl, by decide +kernel, by decide +kernel⟩
theorem sc_need_tiles : FnScope N_need_tiles ps_need_tiles (defScope s_need_tiles) := ⟨rfl, rfl, rfl, by decide +kernel, rfl, by decide +kernel, by decide +kernel⟩
theorem sc_det : FnScope N_det ps_det (defScope s_det) := ⟨rfl, rfl, rfl, by decide +kernel, rfl, by decide +kernel, by decide +kernel⟩
theorem sc_time_of : FnScope N_time_of ps_time_of (defScope s_time_of) := ⟨rfl, rfl, rfl, by decide +kernel, rfl, by decide +kernel, by decide +kernel⟩
theorem sc_comes_on : FnScope N_comes_on ps_comes_on (defScope s_comes_on) := ⟨rfl, rfl, rfl, by decide +kernel, rfl, by decide +kernel, by decide +kernel⟩
theorem sc_outermost : FnScope N_outermost ps_outermost (defScope s_outermost) := ⟨rfl, rfl, rfl, by decide +kernel, rfl, by decide +kernel, by decide +kernel⟩
theorem sc_middle_line : FnScope N_middle_line ps_middle_line (defScope s_middle_line) := ⟨rfl, rfl, rfl, by decide +kernel, rfl, by decide +kernel, by decide +kernel⟩
theorem sc_line_over : FnScope N_line_over ps_line_over (defScope s_line_over) := ⟨rfl, rfl, rfl, by decide +kernel, rfl, by decide +kernel, by decide +kernel⟩
theorem sc_led_to : FnScope N_led_to ps_led_to (defScope s_led_to) := ⟨rfl, rfl, rfl, by decide +kernel, rfl, by decide +kernel, by decide +kernel⟩
theorem sc_tile_steps_of : FnScope N_tile_steps_of ps_tile_steps_of (defScope s_tile_steps_of) := ⟨rfl, rfl, rfl, by decide +kernel, rfl, by decide +kernel, by decide +kernel⟩
theorem sc_tile_order : FnScope N_tile_order ps_tile_order (defScope s_tile_order) := ⟨rfl, rfl, rfl, by decide +kernel, rfl, by decide +kernel, by decide +kernel⟩
theorem sc__law_ahead : FnScope N__law_ahead ps__law_ahead (defScope s__law_ahead) := ⟨rfl, rfl, rfl, by decide +kernel, rfl, by decide +kernel, by decide +kernel⟩
theorem sc__law_waits : FnScope N__law_waits ps__law_waits (defScope s__law_waits) := ⟨rfl, rfl, rfl, by decide +kernel, rfl, by decide +kernel, by decide +kernel⟩
theorem sc__law_can_end : FnScope N__law_can_end ps__law_can_end (defScope s__law_can_end) := ⟨rfl, rfl, rfl, by decide +kernel, rfl, by decide +kernel, by decide +kernel⟩
theorem sc__law_at : FnScope N__law_at ps__law_at (defScope s__law_at) := ⟨rfl, rfl, rfl, by decide +kernel, rfl, by decide +kernel, by decide +kernel⟩
theorem sc__law_right : FnScope N__law_right ps__law_right (defScope s__law_right) := ⟨rfl, rfl, rfl, by decide +kernel, rfl, by decide +kernel, by decide +kernel⟩
theorem sc__law_draw : FnScope N__law_draw ps__law_draw (defScope s__law_draw) := ⟨rfl, rfl, rfl, by decide +kernel, rfl, by decide +kernel, by decide +kernel⟩
theorem sc__law_move : FnScope N__law_move ps__law_move (defScope s__law_move) := ⟨rfl, rfl, rfl, by decide +kernel, rfl, by decide +kernel, by decide +kernel⟩
theorem sc__law_moves : FnScope N__law_moves ps__law_moves (defScope s__law_moves) := ⟨rfl, rfl, rfl, by decide +kernel, rfl, by decide +kernel, by decide +kernel⟩
theorem sc_law : FnScope N_law ps_law (defScope s_law) := ⟨rfl, rfl, rfl, by decide +kernel, rfl, by decide +kernel, by decide +kernel⟩
theorem bb_abs : bootBuiltins "abs" = some (.builtin "abs") := by first | decide +kernel | rfl
theorem bb_int : bootBuiltins "int" = some (.type "int") := by first | decide +kernel | rfl
theorem bb_max : bootBuiltins "max" = some (.builtin "max") := by first | decide +kernel | rfl
theorem bb_isinstance : bootBuiltins "isinstance" = some (.builtin "isinstance") := by first | decide +kernel | rfl
theorem bb_bool : bootBuiltins "bool" = some (.type "bool") := by first | decide +kernel | rfl
theorem bb_tuple : bootBuiltins "tuple" = some (.type "tuple") := by first | decide +kernel | rfl
theorem bb_len : bootBuiltins "len" = some (.builtin "len") := by first | decide +kernel | rfl
theorem bb_all : bootBuiltins "all" = some (.builtin "all") := by first | decide +kernel | rfl
theorem bb_list : bootBuiltins "list" = some (.type "list") := by first | decide +kernel | rfl
theorem bb_sorted : bootBuiltins "sorted" = some (.builtin "sorted") := by first | decide +kernel | rfl
theorem bb_dict : bootBuiltins "dict" = some (.type "dict") := by first | decide +kernel | rfl
theorem bb_min : bootBuiltins "min" = some (.builtin "min") := by first | decide +kernel | rfl
theorem bd__law_source_2 {K : PySem.W.Frag} {f : Addr} {fd : FuncData} (F : FunT K "_law_source" "_law_source" s__law_source [] f fd) : Bnd K fd ps__law_source 2 [] fun ds _ => ds := bnd_pos F 2 rfl fun _ _ _ _ _ _ us h1 => match us, h1 with | [_, _], _ => rfl
theorem bd__law_right_3 {K : PySem.W.Frag} {f : Addr} {fd : FuncData} (F : FunT K "_law_right" "_law_right" s__law_right [] f fd) : Bnd K fd ps__law_right 3 [] fun ds _ => ds := bnd_pos F 3 rfl fun _ _ _ _ _ _ us h1 => match us, h1 with | [_, _, _], _ => rfl
theorem bd__law_draw_2 {K : PySem.W.Frag} {f : Addr} {fd : FuncData} (F : FunT K "_law_draw" "_law_draw" s__law_draw [] f fd) : Bnd K fd ps__law_draw 2 [] fun ds _ => ds := bnd_pos F 2 rfl fun _ _ _ _ _ _ us h1 => match us, h1 with | [_, _], _ => rfl
theorem bd__law_moves_3 {K : PySem.W.Frag} {f : Addr} {fd : FuncData} (F : FunT K "_law_moves" "_law_moves" s__law_moves [] f fd) : Bnd K fd ps__law_moves 3 [] fun ds _ => ds := bnd_pos F 3 rfl fun _ _ _ _ _ _ us h1 => match us, h1 with | [_, _, _], _ => rfl
theorem bd__law_can_end_1 {K : PySem.W.Frag} {f : Addr} {fd : FuncData} (F : FunT K "_law_can_end" "_law_can_end" s__law_can_end [] f fd) : Bnd K fd ps__law_can_end 1 [] fun ds _ => ds := bnd_pos F 1 rfl fun _ _ _ _ _ _ us h1 => match us, h1 with | [_], _ => rfl
theorem bd__law_waits_3 {K : PySem.W.Frag} {f : Addr} {fd : FuncData} (F : FunT K "_law_waits" "_law_waits" s__law_waits [] f fd) : Bnd K fd ps__law_waits 3 [] fun ds _ => ds := bnd_pos F 3 rfl fun _ _ _ _ _ _ us h1 => match us, h1 with | [_, _, _], _ => rfl
theorem bd_tile_order_3 {K : PySem.W.Frag} {f : Addr} {fd : FuncData} (F : FunT K "tile_order" "tile_order" s_tile_order [] f fd) : Bnd K fd ps_tile_order 3 [] fun ds _ => ds := bnd_pos F 3 rfl fun _ _ _ _ _ _ us h1 => match us, h1 with | [_, _, _], _ => rfl
theorem bd__law_at_2 {K : PySem.W.Frag} {f : Addr} {fd : FuncData} (F : FunT K "_law_at" "_law_at" s__law_at [] f fd) : Bnd K fd ps__law_at 2 [] fun ds _ => ds := bnd_pos F 2 rfl fun _ _ _ _ _ _ us h1 => match us, h1 with | [_, _], _ => rfl
theorem bd_need_tiles_3 {K : PySem.W.Frag} {f : Addr} {fd : FuncData} (F : FunT K "need_tiles" "need_tiles" s_need_tiles [] f fd) : Bnd K fd ps_need_tiles 3 [] fun ds _ => ds := bnd_pos F 3 rfl fun _ _ _ _ _ _ us h1 => match us, h1 with | [_, _, _], _ => rfl
theorem bd_line_over_1 {K : PySem.W.Frag} {f : Addr} {fd : FuncData} (F : FunT K "line_over" "line_over" s_line_over [] f fd) : Bnd K fd ps_line_over 1 [] fun ds _ => ds := bnd_pos F 1 rfl fun _ _ _ _ _ _ us h1 => match us, h1 with | [_], _ => rfl
theorem bd_tile_steps_of_3 {K : PySem.W.Frag} {f : Addr} {fd : FuncData} (F : FunT K "tile_steps_of" "tile_steps_of" s_tile_steps_of [] f fd) : Bnd K fd ps_tile_steps_of 3 [] fun ds _ => ds := bnd_pos F 3 rfl fun _ _ _ _ _ _ us h1 => match us, h1 with | [_, _, _], _ => rfl
theorem bd_need_steps_1 {K : PySem.W.Frag} {f : Addr} {fd : FuncData} (F : FunT K "need_steps" "need_steps" s_need_steps [] f fd) : Bnd K fd ps_need_steps 1 [] fun ds _ => ds := bnd_pos F 1 rfl fun _ _ _ _ _ _ us h1 => match us, h1 with | [_], _ => rfl
theorem bd_need_box_2 {K : PySem.W.Frag} {f : Addr} {fd : FuncData} (F : FunT K "need_box" "need_box" s_need_box [] f fd) : Bnd K fd ps_need_box 2 [] fun ds _ => ds := bnd_pos F 2 rfl fun _ _ _ _ _ _ us h1 => match us, h1 with | [_, _], _ => rfl
theorem bd_steps_fault_1 {K : PySem.W.Frag} {f : Addr} {fd : FuncData} (F : FunT K "steps_fault" "steps_fault" s_steps_fault [] f fd) : Bnd K fd ps_steps_fault 1 [] fun ds _ => ds := bnd_pos F 1 rfl fun _ _ _ _ _ _ us h1 => match us, h1 with | [_], _ => rfl
theorem bd_is_step_1 {K : PySem.W.Frag} {f : Addr} {fd : FuncData} (F : FunT K "is_step" "is_step" s_is_step [] f fd) : Bnd K fd ps_is_step 1 [] fun ds _ => ds := bnd_pos F 1 rfl fun _ _ _ _ _ _ us h1 => match us, h1 with | [_], _ => rfl
theorem bd_is_pair_1 {K : PySem.W.Frag} {f : Addr} {fd : FuncData} (F : FunT K "is_pair" "is_pair" s_is_pair [] f fd) : Bnd K fd ps_is_pair 1 [] fun ds _ => ds := bnd_pos F 1 rfl fun _ _ _ _ _ _ us h1 => match us, h1 with | [_], _ => rfl
theorem bd_is_integer_1_ {K : PySem.W.Frag} {f : Addr} {fd : FuncData} (F : FunT K "is_integer" "is_integer" s_is_integer dd_is_integer f fd) : Bnd K fd ps_is_integer 1 [] fun ds es => sel [0, 1, 2] (ds ++ es ++ dd_is_integer) := bnd_def F (by decide) (by decide) 1 [] [0, 1, 2] fun _ _ _ _ _ _ _ us ws its h1 h2 h3 => match us, ws, its, h1, h2, h3 with | [_], [], [_, _], _, _, _ => ⟨_, rfl, rfl⟩
theorem bd_need_size_1 {K : PySem.W.Frag} {f : Addr} {fd : FuncData} (F : FunT K "need_size" "need_size" s_need_size [] f fd) : Bnd K fd ps_need_size 1 [] fun ds _ => ds := bnd_pos F 1 rfl fun _ _ _ _ _ _ us h1 => match us, h1 with | [_], _ => rfl
theorem bd_is_integer_3_ {K : PySem.W.Frag} {f : Addr} {fd : FuncData} (F : FunT K "is_integer" "is_integer" s_is_integer dd_is_integer f fd) : Bnd K fd ps_is_integer 3 [] fun ds es => sel [0, 1, 2] (ds ++ es ++ dd_is_integer) := bnd_def F (by decide) (by decide) 3 [] [0, 1, 2] fun _ _ _ _ _ _ _ us ws its h1 h2 h3 => match us, ws, its, h1, h2, h3 with | [_, _, _], [], [_, _], _, _, _ => ⟨_, rfl, rfl⟩
theorem bd_outermost_1 {K : PySem.W.Frag} {f : Addr} {fd : FuncData} (F : FunT K "outermost" "outermost" s_outermost [] f fd) : Bnd K fd ps_outermost 1 [] fun ds _ => ds := bnd_pos F 1 rfl fun _ _ _ _ _ _ us h1 => match us, h1 with | [_], _ => rfl
theorem bd_middle_line_2 {K : PySem.W.Frag} {f : Addr} {fd : FuncData} (F : FunT K "middle_line" "middle_line" s_middle_line [] f fd) : Bnd K fd ps_middle_line 2 [] fun ds _ => ds := bnd_pos F 2 rfl fun _ _ _ _ _ _ us h1 => match us, h1 with | [_, _], _ => rfl
theorem bd_comes_on_2 {K : PySem.W.Frag} {f : Addr} {fd : FuncData} (F : FunT K "comes_on" "comes_on" s_comes_on [] f fd) : Bnd K fd ps_comes_on 2 [] fun ds _ => ds := bnd_pos F 2 rfl fun _ _ _ _ _ _ us h1 => match us, h1 with | [_, _], _ => rfl
theorem bd_det_2 {K : PySem.W.Frag} {f : Addr} {fd : FuncData} (F : FunT K "det" "det" s_det [] f fd) : Bnd K fd ps_det 2 [] fun ds _ => ds := bnd_pos F 2 rfl fun _ _ _ _ _ _ us h1 => match us, h1 with | [_, _], _ => rfl
theorem bd_time_of_2 {K : PySem.W.Frag} {f : Addr} {fd : FuncData} (F : FunT K "time_of" "time_of" s_time_of [] f fd) : Bnd K fd ps_time_of 2 [] fun ds _ => ds := bnd_pos F 2 rfl fun _ _ _ _ _ _ us h1 => match us, h1 with | [_, _], _ => rfl
theorem bd_led_to_2 {K : PySem.W.Frag} {f : Addr} {fd : FuncData} (F : FunT K "led_to" "led_to" s_led_to [] f fd) : Bnd K fd ps_led_to 2 [] fun ds _ => ds := bnd_pos F 2 rfl fun _ _ _ _ _ _ us h1 => match us, h1 with | [_, _], _ => rfl
theorem bd__law_ahead_4 {K : PySem.W.Frag} {f : Addr} {fd : FuncData} (F : FunT K "_law_ahead" "_law_ahead" s__law_ahead [] f fd) : Bnd K fd ps__law_ahead 4 [] fun ds _ => ds := bnd_pos F 4 rfl fun _ _ _ _ _ _ us h1 => match us, h1 with | [_, _, _, _], _ => rfl
theorem bd__law_move_2 {K : PySem.W.Frag} {f : Addr} {fd : FuncData} (F : FunT K "_law_move" "_law_move" s__law_move [] f fd) : Bnd K fd ps__law_move 2 [] fun ds _ => ds := bnd_pos F 2 rfl fun _ _ _ _ _ _ us h1 => match us, h1 with | [_, _], _ => rfl
section
variable {P : Program} {w : World} {K : PySem.W.Frag} {mg : Str → Option Value} {base : Heap}
set_option maxHeartbeats 0 in
theorem ok__law_source (F : FunH K mg "_law_source" s__law_source []) (b_abs : mg "abs" = none) (b_int : mg "int" = none) (b_max : mg "max" = none) : Has P w K mg base 1 "_law_source" s__law_source [] ps__law_source S__law_source :=
  has_of (t := t__law_source) F sc__law_source (fun f cdv A outer s H gd hr => ds_cons (ds_set 2 sc__law_source.nd (de_b1 cd_abs b_abs bb_abs (de_var 0)))
    (ds_one (ds_ret (de_src (de_lst (da_cons (de_bn (cd_max2 rfl) b_max bb_max (da_cons (de_int) (da_cons (de_bin od_sub (de_var 2) (de_bin od_pow (de_int) (de_int))) (da_nil)))) (da_cons (de_bin od_add (de_bin od_add (de_bin od_mul (de_bin od_mod (de_t1 cd_int b_int bb_int (de_var 2)) (de_bin od_add (de_bin od_pow (de_int) (de_int)) (de_int))) (de_int)) (de_bin od_mul (de_int) (de_var 1))) (de_t1 cd_int b_int bb_int (de_cmp od_lt (de_var 0) (de_int)))) (da_cons (de_int) (da_nil))))))))) L__law_source l__law_source
set_option maxHeartbeats 0 in
theorem ok_is_integer (F : FunH K mg "is_integer" s_is_integer dd_is_integer) (b_int : mg "int" = none) (b_isinstance : mg "isinstance" = none) (b_bool : mg "bool" = none) : Has P w K mg base 1 "is_integer" s_is_integer dd_is_integer ps_is_integer S_is_integer :=
  has_of (t := t_is_integer) F sc_is_integer (fun f cdv A outer s H gd hr => ds_cons (ds_if ((dw_or (dt_not (dt_val (de_bn cd_isi b_isinstance bb_isinstance (da_cons (de_var 0) (da_cons (de_ty b_int bb_int) (da_nil)))))) (dw_or1 (dt_val (de_bn cd_isi b_isinstance bb_isinstance (da_cons (de_var 0) (da_cons (de_ty b_bool bb_bool) (da_nil))))))).pt) (ds_one (ds_ret (de_bl))) (ds_nil))
    (ds_one (ds_ret (de_and (de_or (de_cmp od_is (de_var 1) (de_non)) (de_one (de_cmp od_ge (de_var 0) (de_var 1)))) (de_one (de_or (de_cmp od_is (de_var 2) (de_non)) (de_one (de_cmp od_le (de_var 0) (de_var 2))))))))) L_is_integer l_is_integer
set_option maxHeartbeats 0 in
theorem ok_is_pair (F : FunH K mg "is_pair" s_is_pair []) (h_is_integer : Has P w K mg base 1 "is_integer" s_is_integer dd_is_integer ps_is_integer S_is_integer) (b_tuple : mg "tuple" = none) (b_isinstance : mg "isinstance" = none) (b_len : mg "len" = none) (b_all : mg "all" = none) : Has P w K mg base 2 "is_pair" s_is_pair [] ps_is_pair S_is_pair :=
  has_of (t := t_is_pair) F sc_is_pair (fun f cdv A outer s H gd hr => ds_one (ds_ret (de_and (de_bn cd_isi b_isinstance bb_isinstance (da_cons (de_var 0) (da_cons (de_ty b_tuple bb_tuple) (da_nil)))) (de_and (de_cmp (od_eq hr.units) (de_b1 cd_len b_len bb_len (de_var 0)) (de_int)) (de_one (de_b1 (cd_all rfl) b_all bb_all (de_lc (own := [("item", 1)]) sc_is_pair.nd (di_walk (de_var 0)) (by exact blkOk_by (N := N_is_pair) (sc := defScope s_is_pair) (by decide +kernel)) (fun _ _ _ _ _ => dg_name 1 sc_is_pair.nd) (fun _ _ _ _ _ => dts_nil) (fun _ _ _ _ _ => dh_call h_is_integer gd hr (fun _ _ F => bd_is_integer_1_ F) (da_cons (de_var 1) (da_nil)))))))))) L_is_pair l_is_pair
set_option maxHeartbeats 0 in
theorem ok_is_step (F : FunH K mg "is_step" s_is_step []) (h_is_pair : Has P w K mg base 2 "is_pair" s_is_pair [] ps_is_pair S_is_pair) (g_MOST_ITEM : GlbI mg "MOST_ITEM" 6) : Has P w K mg base 3 "is_step" s_is_step [] ps_is_step S_is_step :=
  has_of (t := t_is_step) F sc_is_step (fun f cdv A outer s H gd hr => ds_cons (ds_if ((dw_or (dt_not (dt_val (dh_call h_is_pair gd hr (fun _ _ F => bd_is_pair_1 F) (da_cons (de_var 0) (da_nil))))) (dw_or1 (dt_not (dt_chn od_le od_le (de_int) (de_ix hr.units (de_var 0) (de_int)) (de_glI g_MOST_ITEM))))).pt) (ds_one (ds_ret (de_bl))) (ds_nil))
    (ds_one (ds_ret (de_chn od_le od_le (de_if (dt_cmp (od_eq hr.units) (de_ix hr.units (de_var 0) (de_int)) (de_int)) (de_int) (de_un ud_neg (de_glI g_MOST_ITEM))) (de_ix hr.units (de_var 0) (de_int)) (de_glI g_MOST_ITEM))))) L_is_step l_is_step
set_option maxHeartbeats 0 in
theorem ok_steps_fault (F : FunH K mg "steps_fault" s_steps_fault []) (h_is_step : Has P w K mg base 3 "is_step" s_is_step [] ps_is_step S_is_step) (b_list : mg "list" = none) (b_isinstance : mg "isinstance" = none) (b_len : mg "len" = none) (b_enumerate : mg "enumerate" = none) (g_MOST_STEPS : GlbI mg "MOST_STEPS" 4) : Has P w K mg base 4 "steps_fault" s_steps_fault [] ps_steps_fault S_steps_fault :=
  has_of (t := t_steps_fault) F sc_steps_fault (fun f cdv A outer s H gd hr => ds_cons (ds_if ((dw_or (dt_not (dt_val (de_bn cd_isi b_isinstance bb_isinstance (da_cons (de_var 0) (da_cons (de_ty b_list bb_list) (da_nil)))))) (dw_or1 (dt_not (dt_chn od_le od_le (de_int) (de_b1 cd_len b_len bb_len (de_var 0)) (de_glI g_MOST_STEPS))))).pt) (ds_one (ds_ret (de_tup (da_cons (de_non) (da_nil))))) (ds_nil))
    (ds_cons (ds_for (ws := [1, 2]) PassesOwn.never (di_enum b_enumerate (da_cons (de_var 0) (da_nil))) (dg_tup (dgs_cons (dg_name 1 sc_steps_fault.nd) (dgs_cons (dg_name 2 sc_steps_fault.nd) (dgs_nil)))) (ds_one (ds_if ((dw_or (dt_not (dt_val (dh_call h_is_step gd hr (fun _ _ F => bd_is_step_1 F) (da_cons (de_var 2) (da_nil))))) (dw_or1 (dt_cmp (od_in (u65 hr)) (de_var 2) (de_sl (de_var 0) (dp_none) (dp_some (de_var 1)))))).pt) (ds_one (ds_ret (de_tup (da_cons (de_var 1) (da_nil))))) (ds_nil))))
    (ds_one (ds_ret (de_tup (da_nil)))))) L_steps_fault l_steps_fault
set_option maxHeartbeats 0 in
theorem ok_need_steps (F : FunH K mg "need_steps" s_need_steps []) (h_steps_fault : Has P w K mg base 4 "steps_fault" s_steps_fault [] ps_steps_fault S_steps_fault) : Has P w K mg base 5 "need_steps" s_need_steps [] ps_need_steps S_need_steps :=
  has_of (t := t_need_steps) F sc_need_steps (fun f cdv A outer s H gd hr => ds_cons (ds_set 1 sc_need_steps.nd (dh_call h_steps_fault gd hr (fun _ _ F => bd_steps_fault_1 F) (da_cons (de_var 0) (da_nil))))
    (ds_one (ds_if (dt_cmp (od_ne hr.units) (de_var 1) (de_tup (da_nil))) (dss_never) (ds_nil)))) L_need_steps l_need_steps
set_option maxHeartbeats 0 in
theorem ok_need_size (F : FunH K mg "need_size" s_need_size []) (h_is_integer : Has P w K mg base 1 "is_integer" s_is_integer dd_is_integer ps_is_integer S_is_integer) (g_MOST_SIZE : GlbI mg "MOST_SIZE" 999999999999999999999999999999) : Has P w K mg base 2 "need_size" s_need_size [] ps_need_size S_need_size :=
  has_of (t := t_need_size) F sc_need_size (fun f cdv A outer s H gd hr => ds_one (ds_if (dt_not (dt_val (dh_call h_is_integer gd hr (fun _ _ F => bd_is_integer_3_ F) (da_cons (de_var 0) (da_cons (de_int) (da_cons (de_glI g_MOST_SIZE) (da_nil))))))) (dss_never) (ds_nil))) L_need_size l_need_size
set_option maxHeartbeats 0 in
theorem ok_need_box (F : FunH K mg "need_box" s_need_box []) (h_need_size : Has P w K mg base 2 "need_size" s_need_size [] ps_need_size S_need_size) : Has P w K mg base 3 "need_box" s_need_box [] ps_need_box S_need_box :=
  has_of (t := t_need_box) F sc_need_box (fun f cdv A outer s H gd hr => ds_cons (ds_expr (dh_call h_need_size gd hr (fun _ _ F => bd_need_size_1 F) (da_cons (de_var 0) (da_nil))))
    (ds_one (ds_expr (dh_call h_need_size gd hr (fun _ _ F => bd_need_size_1 F) (da_cons (de_var 1) (da_nil)))))) L_need_box l_need_box
set_option maxHeartbeats 0 in
theorem ok_need_tiles (F : FunH K mg "need_tiles" s_need_tiles []) (h_need_steps : Has P w K mg base 5 "need_steps" s_need_steps [] ps_need_steps S_need_steps) (h_need_box : Has P w K mg base 3 "need_box" s_need_box [] ps_need_box S_need_box) : Has P w K mg base 6 "need_tiles" s_need_tiles [] ps_need_tiles S_need_tiles :=
  has_of (t := t_need_tiles) F sc_need_tiles (fun f cdv A outer s H gd hr => ds_cons (ds_expr (dh_call h_need_steps gd hr (fun _ _ F => bd_need_steps_1 F) (da_cons (de_var 0) (da_nil))))
    (ds_one (ds_expr (dh_call h_need_box gd hr (fun _ _ F => bd_need_box_2 F) (da_cons (de_var 1) (da_cons (de_var 2) (da_nil))))))) L_need_tiles l_need_tiles
set_option maxHeartbeats 0 in
theorem ok_det (F : FunH K mg "det" s_det []) : Has P w K mg base 1 "det" s_det [] ps_det S_det :=
  has_of (t := t_det) F sc_det (fun f cdv A outer s H gd hr => ds_one (ds_ret (de_bin od_sub (de_bin od_mul (de_ix hr.units (de_var 0) (de_int)) (de_ix hr.units (de_var 1) (de_int))) (de_bin od_mul (de_ix hr.units (de_var 0) (de_int)) (de_ix hr.units (de_var 1) (de_int)))))) L_det l_det
set_option maxHeartbeats 0 in
theorem ok_time_of (F : FunH K mg "time_of" s_time_of []) : Has P w K mg base 1 "time_of" s_time_of [] ps_time_of S_time_of :=
  has_of (t := t_time_of) F sc_time_of (fun f cdv A outer s H gd hr => ds_one (ds_ret (de_bin od_add (de_bin od_mul (de_ix hr.units (de_var 0) (de_int)) (de_ix hr.units (de_var 1) (de_int))) (de_bin od_mul (de_ix hr.units (de_var 0) (de_int)) (de_ix hr.units (de_var 1) (de_int)))))) L_time_of l_time_of
set_option maxHeartbeats 0 in
theorem ok_comes_on (F : FunH K mg "comes_on" s_comes_on []) (h_det : Has P w K mg base 1 "det" s_det [] ps_det S_det) (h_time_of : Has P w K mg base 1 "time_of" s_time_of [] ps_time_of S_time_of) : Has P w K mg base 2 "comes_on" s_comes_on [] ps_comes_on S_comes_on :=
  has_of (t := t_comes_on) F sc_comes_on (fun f cdv A outer s H gd hr => ds_cons (ds_set 2 sc_comes_on.nd (dh_call h_det gd hr (fun _ _ F => bd_det_2 F) (da_cons (de_var 0) (da_cons (de_var 1) (da_nil)))))
    (ds_one (ds_ret (de_or (de_cmp od_gt (de_var 2) (de_int)) (de_one (de_and (de_cmp (od_eq hr.units) (de_var 2) (de_int)) (de_one (de_cmp od_gt (dh_call h_time_of gd hr (fun _ _ F => bd_time_of_2 F) (da_cons (de_var 0) (da_cons (de_var 1) (da_nil)))) (de_int))))))))) L_comes_on l_comes_on
set_option maxHeartbeats 0 in
theorem ok_outermost (F : FunH K mg "outermost" s_outermost []) (h_comes_on : Has P w K mg base 2 "comes_on" s_comes_on [] ps_comes_on S_comes_on) (b_all : mg "all" = none) : Has P w K mg base 3 "outermost" s_outermost [] ps_outermost S_outermost :=
  has_of (t := t_outermost) F sc_outermost (fun f cdv A outer s H gd hr => ds_cons (ds_setLc 1 (own := [("one", 3)]) sc_outermost.nd (di_walk (de_var 0)) (by exact blkOk_by (N := N_outermost) (sc := defScope s_outermost) (by decide +kernel)) (fun _ _ _ _ _ => dg_name 3 sc_outermost.nd) (fun _ _ _ _ _ => dts_one (dt_val (de_b1 (cd_all rfl) b_all bb_all (de_lc (own := [("other", 4)]) sc_outermost.nd (di_walk (de_var 0)) (by exact blkOk_by (by with_unfolding_all rfl)) (fun _ _ _ _ _ => dg_name 4 sc_outermost.nd) (fun _ _ _ _ _ => dts_nil) (fun _ _ _ _ _ => dh_call h_comes_on gd hr (fun _ _ F => bd_comes_on_2 F) (da_cons (de_var 3) (da_cons (de_var 4) (da_nil)))))))) (fun _ _ _ _ _ => de_var 3) (sw_true rfl rfl rfl (by decide +kernel)))
    (ds_cons (ds_setLc 2 (own := [("one", 3)]) sc_outermost.nd (di_walk (de_var 0)) (by exact blkOk_by (N := N_outermost) (sc := defScope s_outermost) (by decide +kernel)) (fun _ _ _ _ _ => dg_name 3 sc_outermost.nd) (fun _ _ _ _ _ => dts_one (dt_val (de_b1 (cd_all rfl) b_all bb_all (de_lc (own := [("other", 4)]) sc_outermost.nd (di_walk (de_var 0)) (by exact blkOk_by (by with_unfolding_all rfl)) (fun _ _ _ _ _ => dg_name 4 sc_outermost.nd) (fun _ _ _ _ _ => dts_nil) (fun _ _ _ _ _ => dh_call h_comes_on gd hr (fun _ _ F => bd_comes_on_2 F) (da_cons (de_var 4) (da_cons (de_var 3) (da_nil)))))))) (fun _ _ _ _ _ => de_var 3) (sw_true rfl rfl rfl (by decide +kernel)))
    (ds_one (ds_ret (de_if (dt_cmp (od_ne hr.units) (de_var 1) (de_lst (da_nil))) (de_tup (da_cons (de_ix hr.units (de_var 1) (de_int)) (da_cons (de_ix hr.units (de_var 2) (de_int)) (da_nil)))) (de_non)))))) L_outermost l_outermost
set_option maxHeartbeats 0 in
theorem ok_middle_line (F : FunH K mg "middle_line" s_middle_line []) (h_det : Has P w K mg base 1 "det" s_det [] ps_det S_det) : Has P w K mg base 2 "middle_line" s_middle_line [] ps_middle_line S_middle_line :=
  has_of (t := t_middle_line) F sc_middle_line (fun f cdv A outer s H gd hr => ds_cons (ds_if (dt_cmp (od_eq hr.units) (dh_call h_det gd hr (fun _ _ F => bd_det_2 F) (da_cons (de_var 0) (da_cons (de_var 1) (da_nil)))) (de_int)) (ds_one (ds_ret (de_var 0))) (ds_nil))
    (ds_one (ds_ret (de_tup (da_cons (de_bin od_sub (de_ix hr.units (de_var 1) (de_int)) (de_ix hr.units (de_var 0) (de_int))) (da_cons (de_bin od_sub (de_ix hr.units (de_var 0) (de_int)) (de_ix hr.units (de_var 1) (de_int))) (da_nil))))))) L_middle_line l_middle_line
set_option maxHeartbeats 0 in
theorem ok_line_over (F : FunH K mg "line_over" s_line_over []) (h_outermost : Has P w K mg base 3 "outermost" s_outermost [] ps_outermost S_outermost) (h_middle_line : Has P w K mg base 2 "middle_line" s_middle_line [] ps_middle_line S_middle_line) : Has P w K mg base 4 "line_over" s_line_over [] ps_line_over S_line_over :=
  has_of (t := t_line_over) F sc_line_over (fun f cdv A outer s H gd hr => ds_cons (ds_set 1 sc_line_over.nd (dh_call h_outermost gd hr (fun _ _ F => bd_outermost_1 F) (da_cons (de_var 0) (da_nil))))
    (ds_one (ds_ret (de_if (dt_cmp od_isn (de_var 1) (de_non)) (dh_call h_middle_line gd hr (fun _ _ F => bd_middle_line_2 F) (da_cons (de_ix hr.units (de_var 1) (de_int)) (da_cons (de_ix hr.units (de_var 1) (de_int)) (da_nil)))) (de_non))))) L_line_over l_line_over
set_option maxHeartbeats 0 in
theorem ok_led_to (F : FunH K mg "led_to" s_led_to []) : Has P w K mg base 1 "led_to" s_led_to [] ps_led_to S_led_to :=
  has_of (t := t_led_to) F sc_led_to (fun f cdv A outer s H gd hr => ds_one (ds_ret (de_if (dt_cmp (od_eq hr.units) (de_bin od_mod (de_var 0) (de_var 1)) (de_int)) (de_lst (da_cons (de_bin od_fdv (de_var 0) (de_var 1)) (da_nil))) (de_lst (da_cons (de_bin od_fdv (de_var 0) (de_var 1)) (da_cons (de_bin od_add (de_bin od_fdv (de_var 0) (de_var 1)) (de_int)) (da_nil))))))) L_led_to l_led_to
set_option maxHeartbeats 0 in
theorem ok_tile_steps_of (F : FunH K mg "tile_steps_of" s_tile_steps_of []) (h_led_to : Has P w K mg base 1 "led_to" s_led_to [] ps_led_to S_led_to) (b_sorted : mg "sorted" = none) : Has P w K mg base 2 "tile_steps_of" s_tile_steps_of [] ps_tile_steps_of S_tile_steps_of :=
  has_of (t := t_tile_steps_of) F sc_tile_steps_of (fun f cdv A outer s H gd hr => ds_cons (ds_set 3 sc_tile_steps_of.nd (de_dnT))
    (ds_cons (ds_for (ws := [4, 5]) PassesOwn.never (di_walk (de_var 0)) (dg_tup (dgs_cons (dg_name 4 sc_tile_steps_of.nd) (dgs_cons (dg_name 5 sc_tile_steps_of.nd) (dgs_nil)))) (ds_one (ds_for (ws := [6]) PassesOwn.never (di_walk (dh_call h_led_to gd hr (fun _ _ F => bd_led_to_2 F) (da_cons (de_var 4) (da_cons (de_var 1) (da_nil))))) (dg_name 6 sc_tile_steps_of.nd) (ds_one (ds_for (ws := [7]) PassesOwn.never (di_walk (dh_call h_led_to gd hr (fun _ _ F => bd_led_to_2 F) (da_cons (de_var 5) (da_cons (de_var 2) (da_nil))))) (dg_name 7 sc_tile_steps_of.nd) (ds_one (ds_put 3 (de_bl) (de_tup (da_cons (de_var 6) (da_cons (de_var 7) (da_nil)))) (u65 hr))))))))
    (ds_one (ds_ret (de_b1 cd_sorted b_sorted bb_sorted (de_lcK (own := [("place", 8)]) sc_tile_steps_of.nd  (by exact blkOk_by (N := N_tile_steps_of) (sc := defScope s_tile_steps_of) (by decide +kernel)) (fun _ _ _ _ _ => dg_name 8 sc_tile_steps_of.nd) (fun _ _ _ _ _ => dts_one (dt_cmp (od_ne hr.units) (de_var 8) (de_tup (da_cons (de_int) (da_cons (de_int) (da_nil)))))) (fun _ _ _ _ _ => de_var 8))))))) L_tile_steps_of l_tile_steps_of
set_option maxHeartbeats 0 in
theorem ok_tile_order (F : FunH K mg "tile_order" s_tile_order []) (h_need_tiles : Has P w K mg base 6 "need_tiles" s_need_tiles [] ps_need_tiles S_need_tiles) (h_line_over : Has P w K mg base 4 "line_over" s_line_over [] ps_line_over S_line_over) (h_tile_steps_of : Has P w K mg base 2 "tile_steps_of" s_tile_steps_of [] ps_tile_steps_of S_tile_steps_of) : Has P w K mg base 7 "tile_order" s_tile_order [] ps_tile_order S_tile_order :=
  has_of (t := t_tile_order) F sc_tile_order (fun f cdv A outer s H gd hr => ds_cons (ds_expr (dh_call h_need_tiles gd hr (fun _ _ F => bd_need_tiles_3 F) (da_cons (de_var 0) (da_cons (de_var 1) (da_cons (de_var 2) (da_nil))))))
    (ds_one (ds_ret (dh_call h_line_over gd hr (fun _ _ F => bd_line_over_1 F) (da_cons (dh_call h_tile_steps_of gd hr (fun _ _ F => bd_tile_steps_of_3 F) (da_cons (de_var 0) (da_cons (de_var 1) (da_cons (de_var 2) (da_nil))))) (da_nil)))))) L_tile_order l_tile_order
set_option maxHeartbeats 0 in
theorem ok__law_ahead (F : FunH K mg "_law_ahead" s__law_ahead []) (b_sorted : mg "sorted" = none) : Has P w K mg base 1 "_law_ahead" s__law_ahead [] ps__law_ahead S__law_ahead :=
  has_of (t := t__law_ahead) F sc__law_ahead (fun f cdv A outer s H gd hr => ds_cons (ds_setLc 4 (own := [("_law_x", 5), ("_law_y", 6)]) sc__law_ahead.nd (di_walk (de_var 0)) (by exact blkOk_by (N := N__law_ahead) (sc := defScope s__law_ahead) (by decide +kernel)) (fun _ _ _ _ _ => dg_tup (dgs_cons (dg_name 5 sc__law_ahead.nd) (dgs_cons (dg_name 6 sc__law_ahead.nd) (dgs_nil)))) (fun _ _ _ _ _ => dts_nil) (fun _ _ _ _ _ => de_tup (da_cons (de_bin od_add (de_ix hr.units (de_var 1) (de_int)) (de_var 5)) (da_cons (de_bin od_add (de_ix hr.units (de_var 1) (de_int)) (de_var 6)) (da_nil)))) (sw_true rfl rfl rfl (by decide +kernel)))
    (ds_one (ds_ret (de_b1 cd_sorted b_sorted bb_sorted (de_lc (own := [("_law_one", 7)]) sc__law_ahead.nd (di_walk (de_var 4)) (by exact blkOk_by (N := N__law_ahead) (sc := defScope s__law_ahead) (by decide +kernel)) (fun _ _ _ _ _ => dg_name 7 sc__law_ahead.nd) (fun _ _ _ _ _ => dts_one ((dw_and (dt_chn od_le od_lt (de_int) (de_ix hr.units (de_var 7) (de_int)) (de_var 2)) (dw_and1 (dt_chn od_le od_lt (de_int) (de_ix hr.units (de_var 7) (de_int)) (de_var 3)))).pt)) (fun _ _ _ _ _ => de_var 7)))))) L__law_ahead l__law_ahead
set_option maxHeartbeats 0 in
theorem ok__law_waits (F : FunH K mg "_law_waits" s__law_waits []) (h__law_ahead : Has P w K mg base 1 "_law_ahead" s__law_ahead [] ps__law_ahead S__law_ahead) (b_range : mg "range" = none) : Has P w K mg base 2 "_law_waits" s__law_waits [] ps__law_waits S__law_waits :=
  has_of (t := t__law_waits) F sc__law_waits (fun f cdv A outer s H gd hr => ds_cons (ds_set 3 sc__law_waits.nd (de_dnT))
    (ds_cons (ds_for (ws := [4]) PassesOwn.never (di_range1 b_range (da_cons (de_int) (da_nil))) (dg_name 4 sc__law_waits.nd) (ds_one (ds_for (ws := [5]) PassesOwn.never (di_range1 b_range (da_cons (de_int) (da_nil))) (dg_name 5 sc__law_waits.nd) (ds_one (ds_put 3 (de_mut (de_dnT)) (de_tup (da_cons (de_var 4) (da_cons (de_var 5) (da_nil)))) (u65 hr))))))
    (ds_cons (ds_for (ws := [4]) PassesOwn.never (di_range1 b_range (da_cons (de_bin od_mul (de_int) (de_var 1)) (da_nil))) (dg_name 4 sc__law_waits.nd) (ds_one (ds_for (ws := [5]) PassesOwn.never (di_range1 b_range (da_cons (de_bin od_mul (de_int) (de_var 2)) (da_nil))) (dg_name 5 sc__law_waits.nd) (ds_one (ds_for (ws := [6, 7]) PassesOwn.never (di_walk (dh_call h__law_ahead gd hr (fun _ _ F => bd__law_ahead_4 F) (da_cons (de_var 0) (da_cons (de_tup (da_cons (de_var 4) (da_cons (de_var 5) (da_nil)))) (da_cons (de_bin od_mul (de_int) (de_var 1)) (da_cons (de_bin od_mul (de_int) (de_var 2)) (da_nil))))))) (dg_tup (dgs_cons (dg_name 6 sc__law_waits.nd) (dgs_cons (dg_name 7 sc__law_waits.nd) (dgs_nil)))) (ds_cons (ds_par2 8 9 sc__law_waits.nd (de_tup (da_cons (de_bin od_fdv (de_var 4) (de_var 1)) (da_cons (de_bin od_fdv (de_var 5) (de_var 2)) (da_nil)))) (de_tup (da_cons (de_bin od_fdv (de_var 6) (de_var 1)) (da_cons (de_bin od_fdv (de_var 7) (de_var 2)) (da_nil)))))
    (ds_one (ds_if (dt_cmp (od_ne hr.units) (de_var 8) (de_var 9)) (ds_one (ds_putM (de_ix hr.units (de_var 3) (de_var 9)) (de_bl) (de_var 8) (u65 hr))) (ds_nil)))))))))
    (ds_one (ds_ret (de_var 3)))))) L__law_waits l__law_waits
set_option maxHeartbeats 0 in
theorem ok__law_can_end (F : FunH K mg "_law_can_end" s__law_can_end []) (b_dict : mg "dict" = none) : Has P w K mg base 1 "_law_can_end" s__law_can_end [] ps__law_can_end S__law_can_end :=
  has_of (t := t__law_can_end) F sc__law_can_end (fun f cdv A outer s H gd hr => ds_cons (ds_set 1 sc__law_can_end.nd (de_mut (de_t1 (cd_dictC hr.units) b_dict bb_dict (de_var 0))))
    (ds_cons (ds_setLcN 2 (own := [("_law_spot", 3)]) sc__law_can_end.nd  (by exact blkOk_by (N := N__law_can_end) (sc := defScope s__law_can_end) (by decide +kernel)) (fun _ _ _ _ _ => dg_name 3 sc__law_can_end.nd) (fun _ _ _ _ _ => dts_one (dt_cmp (od_eqE hr.units) (de_lcLk (own := [("_law_one", 4)]) sc__law_can_end.nd (di_walkLk (de_ixN hr.units (de_var 1) (de_var 3))) (by exact blkOk_by (by with_unfolding_all rfl)) (fun _ _ _ _ _ => dg_name 4 sc__law_can_end.nd) (fun _ _ _ _ _ => dts_one (dt_cmpN (od_in (u65 hr)) (de_var 4) (de_var 1))) (fun _ _ _ _ _ => de_int)) (de_lst (da_nil)))) (fun _ _ _ _ _ => de_var 3) (sw_true rfl rfl rfl (by decide +kernel)))
    (ds_cons (ds_while PassesOwn.never (dt_cmp (od_neE hr.units) (de_var 2) (de_lst (da_nil))) (ds_cons (ds_for (ws := [3]) PassesOwn.never (di_walk (de_var 2)) (dg_name 3 sc__law_can_end.nd) (ds_one (ds_expr (de_popM 1 (de_var 3) (u65 hr)))))
    (ds_one (ds_setLcN 2 (own := [("_law_spot", 3)]) sc__law_can_end.nd  (by exact blkOk_by (N := N__law_can_end) (sc := defScope s__law_can_end) (by decide +kernel)) (fun _ _ _ _ _ => dg_name 3 sc__law_can_end.nd) (fun _ _ _ _ _ => dts_one (dt_cmp (od_eqE hr.units) (de_lcLk (own := [("_law_one", 4)]) sc__law_can_end.nd (di_walkLk (de_ixN hr.units (de_var 1) (de_var 3))) (by exact blkOk_by (by with_unfolding_all rfl)) (fun _ _ _ _ _ => dg_name 4 sc__law_can_end.nd) (fun _ _ _ _ _ => dts_one (dt_cmpN (od_in (u65 hr)) (de_var 4) (de_var 1))) (fun _ _ _ _ _ => de_int)) (de_lst (da_nil)))) (fun _ _ _ _ _ => de_var 3) (sw_true rfl rfl rfl (by decide +kernel))))))
    (ds_one (ds_ret (de_cmpN (od_eqT hr.units) (de_var 1) (de_dnK))))))) L__law_can_end l__law_can_end
set_option maxHeartbeats 0 in
theorem ok__law_at (F : FunH K mg "_law_at" s__law_at []) : Has P w K mg base 1 "_law_at" s__law_at [] ps__law_at S__law_at :=
  has_of (t := t__law_at) F sc__law_at (fun f cdv A outer s H gd hr => ds_one (ds_ret (de_bin od_add (de_bin od_mul (de_ix hr.units (de_var 0) (de_int)) (de_ix hr.units (de_var 1) (de_int))) (de_bin od_mul (de_ix hr.units (de_var 0) (de_int)) (de_ix hr.units (de_var 1) (de_int)))))) L__law_at l__law_at
set_option maxHeartbeats 0 in
theorem ok__law_right (F : FunH K mg "_law_right" s__law_right []) (h_tile_order : Has P w K mg base 7 "tile_order" s_tile_order [] ps_tile_order S_tile_order) (h__law_waits : Has P w K mg base 2 "_law_waits" s__law_waits [] ps__law_waits S__law_waits) (h__law_can_end : Has P w K mg base 1 "_law_can_end" s__law_can_end [] ps__law_can_end S__law_can_end) (h__law_at : Has P w K mg base 1 "_law_at" s__law_at [] ps__law_at S__law_at) : Has P w K mg base 8 "_law_right" s__law_right [] ps__law_right S__law_right :=
  has_of (t := t__law_right) F sc__law_right (fun f cdv A outer s H gd hr => ds_cons (ds_parC 4 5 sc__law_right.nd (dh_call h_tile_order gd hr (fun _ _ F => bd_tile_order_3 F) (da_cons (de_var 0) (da_cons (de_var 1) (da_cons (de_var 2) (da_nil))))) (de_hold (dh_call h__law_waits gd hr (fun _ _ F => bd__law_waits_3 F) (da_cons (de_var 0) (da_cons (de_var 1) (da_cons (de_var 2) (da_nil)))))))
    (ds_cons (ds_if (dt_cmp (od_ne hr.units) (de_cmp od_isn (de_var 4) (de_non)) (dh_call h__law_can_end gd hr (fun _ _ F => bd__law_can_end_1 F) (da_cons (de_var 5) (da_nil)))) (ds_one (ds_ret (de_bl))) (ds_nil))
    (ds_cons (ds_if (dt_cmp od_is (de_var 4) (de_non)) (ds_one (ds_ret (de_bl))) (ds_nil))
    (ds_cons (ds_forK (i := 5) (ws := [3]) PassesOwn.never (dg_name 3 sc__law_right.nd) (ds_one (ds_if (dt_cmp (od_neE hr.units) (de_lcLk (own := [("_law_here", 6)]) sc__law_right.nd (di_walkLk (de_ix hr.units (de_var 5) (de_var 3))) (by exact blkOk_by (N := N__law_right) (sc := defScope s__law_right) (by decide +kernel)) (fun _ _ _ _ _ => dg_name 6 sc__law_right.nd) (fun _ _ _ _ _ => dts_one (dt_cmp od_ge (dh_call h__law_at gd hr (fun _ _ F => bd__law_at_2 F) (da_cons (de_var 4) (da_cons (de_var 6) (da_nil)))) (dh_call h__law_at gd hr (fun _ _ F => bd__law_at_2 F) (da_cons (de_var 4) (da_cons (de_var 3) (da_nil)))))) (fun _ _ _ _ _ => de_int)) (de_lst (da_nil))) (ds_one (ds_ret (de_bl))) (ds_nil))))
    (ds_one (ds_ret (de_bl))))))) L__law_right l__law_right
set_option maxHeartbeats 0 in
theorem ok__law_draw (F : FunH K mg "_law_draw" s__law_draw []) (b_int : mg "int" = none) : Has P w K mg base 1 "_law_draw" s__law_draw [] ps__law_draw S__law_draw :=
  has_of (t := t__law_draw) F sc__law_draw (fun f cdv A outer s H gd hr => ds_cons (ds_if (dt_cmp od_gt (de_ixSrc 0 0) (de_int)) (ds_cons (ds_set 3 sc__law_draw.nd (de_bin od_mod (de_t1 cd_int b_int bb_int (de_ixSrc 0 0)) (de_var 1)))
    (ds_cons (ds_setSrc 0 0 (de_bin od_fdv (de_ixSrc 0 0) (de_var 1)))
    (ds_one (ds_ret (de_var 3))))) (ds_nil))
    (ds_cons (ds_setSrc 0 2 (de_bin od_add (de_ixSrc 0 2) (de_int)))
    (ds_cons (ds_set 2 sc__law_draw.nd (de_bin od_mod (de_t1 cd_int b_int bb_int (de_bin od_pow (de_bin od_add (de_ixSrc 0 1) (de_bin od_mul (de_int) (de_ixSrc 0 2))) (de_int))) (de_bin od_add (de_bin od_pow (de_int) (de_int)) (de_int))))
    (ds_cons (ds_set 2 sc__law_draw.nd (de_bin od_mod (de_t1 cd_int b_int bb_int (de_bin od_pow (de_bin od_add (de_bin od_mul (de_var 2) (de_ixSrc 0 2)) (de_int)) (de_int))) (de_bin od_add (de_bin od_pow (de_int) (de_int)) (de_int))))
    (ds_one (ds_ret (de_bin od_mod (de_t1 cd_int b_int bb_int (de_bin od_fdv (de_var 2) (de_int))) (de_var 1)))))))) L__law_draw l__law_draw
set_option maxHeartbeats 0 in
theorem ok__law_move (F : FunH K mg "_law_move" s__law_move []) (h__law_draw : Has P w K mg base 1 "_law_draw" s__law_draw [] ps__law_draw S__law_draw) : Has P w K mg base 2 "_law_move" s__law_move [] ps__law_move S__law_move :=
  has_of (t := t__law_move) F sc__law_move (fun f cdv A outer s H gd hr => ds_cons (ds_set 2 sc__law_move.nd (dh_call h__law_draw gd hr (fun _ _ F => bd__law_draw_2 F) (da_cons (de_var 0) (da_cons (de_bin od_add (de_var 1) (de_int)) (da_nil)))))
    (ds_cons (ds_if (dt_cmp (od_eq hr.units) (de_var 2) (de_int)) (ds_one (ds_ret (de_tup (da_cons (de_int) (da_cons (de_bin od_add (de_int) (dh_call h__law_draw gd hr (fun _ _ F => bd__law_draw_2 F) (da_cons (de_var 0) (da_cons (de_var 1) (da_nil))))) (da_nil)))))) (ds_nil))
    (ds_one (ds_ret (de_tup (da_cons (de_var 2) (da_cons (de_bin od_sub (dh_call h__law_draw gd hr (fun _ _ F => bd__law_draw_2 F) (da_cons (de_var 0) (da_cons (de_bin od_add (de_bin od_mul (de_int) (de_var 1)) (de_int)) (da_nil)))) (de_var 1)) (da_nil)))))))) L__law_move l__law_move
set_option maxHeartbeats 0 in
theorem ok__law_moves (F : FunH K mg "_law_moves" s__law_moves []) (h__law_draw : Has P w K mg base 1 "_law_draw" s__law_draw [] ps__law_draw S__law_draw) (h__law_move : Has P w K mg base 2 "_law_move" s__law_move [] ps__law_move S__law_move) (b_range : mg "range" = none) : Has P w K mg base 3 "_law_moves" s__law_moves [] ps__law_moves S__law_moves :=
  has_of (t := t__law_moves) F sc__law_moves (fun f cdv A outer s H gd hr => ds_cons (ds_set 3 sc__law_moves.nd (de_lst (da_nil)))
    (ds_cons (ds_for (ws := [4]) PassesOwn.never (di_range1 b_range (da_cons (de_bin od_add (de_int) (dh_call h__law_draw gd hr (fun _ _ F => bd__law_draw_2 F) (da_cons (de_var 0) (da_cons (de_var 2) (da_nil))))) (da_nil))) (dg_name 4 sc__law_moves.nd) (ds_cons (ds_set 5 sc__law_moves.nd (dh_call h__law_move gd hr (fun _ _ F => bd__law_move_2 F) (da_cons (de_var 0) (da_cons (de_var 1) (da_nil)))))
    (ds_one (ds_if (dt_cmp (od_notin (u65 hr)) (de_var 5) (de_var 3)) (ds_one (ds_expr (de_ml (i := 3) PySem.F.slot_list_append PySem.F.type_list_append mt_append ml_append (da_cons (de_var 5) (da_nil))))) (ds_nil)))))
    (ds_one (ds_ret (de_var 3))))) L__law_moves l__law_moves
set_option maxHeartbeats 0 in
theorem ok_law (F : FunH K mg "law" s_law []) (h__law_source : Has P w K mg base 1 "_law_source" s__law_source [] ps__law_source S__law_source) (h__law_right : Has P w K mg base 8 "_law_right" s__law_right [] ps__law_right S__law_right) (h__law_draw : Has P w K mg base 1 "_law_draw" s__law_draw [] ps__law_draw S__law_draw) (h__law_moves : Has P w K mg base 3 "_law_moves" s__law_moves [] ps__law_moves S__law_moves) (h__law_can_end : Has P w K mg base 1 "_law_can_end" s__law_can_end [] ps__law_can_end S__law_can_end) (h__law_waits : Has P w K mg base 2 "_law_waits" s__law_waits [] ps__law_waits S__law_waits) (b_len : mg "len" = none) (b_min : mg "min" = none) (b_max : mg "max" = none) (b_enumerate : mg "enumerate" = none) (b_int : mg "int" = none) (b_range : mg "range" = none) : Has P w K mg base 9 "law" s_law [] ps_law S_law :=
  has_of (t := t_law) F sc_law (fun f cdv A outer s H gd hr => ds_cons (ds_for (ws := [1, 2]) PassesOwn.never (di_enum b_enumerate (da_cons (de_sl (de_bin od_add (de_var 0) (de_lst (da_cons (de_int) (da_nil)))) (dp_none) (dp_some (de_bn (cd_max2 rfl) b_max bb_max (da_cons (de_int) (da_cons (de_bn (cd_min2 rfl) b_min bb_min (da_cons (de_b1 cd_len b_len bb_len (de_var 0)) (da_cons (de_int) (da_nil)))) (da_nil)))))) (da_nil))) (dg_tup (dgs_cons (dg_name 1 sc_law.nd) (dgs_cons (dg_name 2 sc_law.nd) (dgs_nil)))) (ds_cons (ds_set 3 sc_law.nd (dh_call h__law_source gd hr (fun _ _ F => bd__law_source_2 F) (da_cons (de_var 2) (da_cons (de_var 1) (da_nil)))))
    (ds_one (ds_for (ws := [4]) PassesOwn.never (di_range1 b_range (da_cons (de_ix hr.units (de_lst (da_cons (de_int) (da_cons (de_int) (da_nil)))) (de_t1 cd_int b_int bb_int (de_cmp (od_ne hr.units) (de_var 0) (de_lst (da_nil))))) (da_nil))) (dg_name 4 sc_law.nd) (ds_one (ds_if (dt_not (dt_val (dh_call h__law_right gd hr (fun _ _ F => bd__law_right_3 F) (da_cons (dh_call h__law_moves gd hr (fun _ _ F => bd__law_moves_3 F) (da_cons (de_var 3) (da_cons (de_int) (da_cons (de_int) (da_nil))))) (da_cons (de_bin od_add (de_int) (dh_call h__law_draw gd hr (fun _ _ F => bd__law_draw_2 F) (da_cons (de_var 3) (da_cons (de_int) (da_nil))))) (da_cons (de_bin od_add (de_int) (dh_call h__law_draw gd hr (fun _ _ F => bd__law_draw_2 F) (da_cons (de_var 3) (da_cons (de_int) (da_nil))))) (da_nil))))))) (ds_one (ds_ret (de_bl))) (ds_nil)))))))
    (ds_one (ds_ret (de_not (dh_call h__law_can_end gd hr (fun _ _ F => bd__law_can_end_1 F) (da_cons (de_hold (dh_call h__law_waits gd hr (fun _ _ F => bd__law_waits_3 F) (da_cons (de_lst (da_cons (de_tup (da_cons (de_int) (da_cons (de_un ud_neg (de_int)) (da_nil)))) (da_cons (de_tup (da_cons (de_int) (da_cons (de_int) (da_nil)))) (da_nil)))) (da_cons (de_int) (da_cons (de_int) (da_nil)))))) (da_nil))))))) L_law l_law
end
theorem all_ok {P : Program} {w : World} {K : PySem.W.Frag} {mg : Str → Option Value} {base : Heap} (F__law_source : FunH K mg "_law_source" s__law_source []) (F_is_integer : FunH K mg "is_integer" s_is_integer dd_is_integer) (F_is_pair : FunH K mg "is_pair" s_is_pair []) (F_is_step : FunH K mg "is_step" s_is_step []) (F_steps_fault : FunH K mg "steps_fault" s_steps_fault []) (F_need_steps : FunH K mg "need_steps" s_need_steps []) (F_need_size : FunH K mg "need_size" s_need_size []) (F_need_box : FunH K mg "need_box" s_need_box []) (F_need_tiles : FunH K mg "need_tiles" s_need_tiles []) (F_det : FunH K mg "det" s_det []) (F_time_of : FunH K mg "time_of" s_time_of []) (F_comes_on : FunH K mg "comes_on" s_comes_on []) (F_outermost : FunH K mg "outermost" s_outermost []) (F_middle_line : FunH K mg "middle_line" s_middle_line []) (F_line_over : FunH K mg "line_over" s_line_over []) (F_led_to : FunH K mg "led_to" s_led_to []) (F_tile_steps_of : FunH K mg "tile_steps_of" s_tile_steps_of []) (F_tile_order : FunH K mg "tile_order" s_tile_order []) (F__law_ahead : FunH K mg "_law_ahead" s__law_ahead []) (F__law_waits : FunH K mg "_law_waits" s__law_waits []) (F__law_can_end : FunH K mg "_law_can_end" s__law_can_end []) (F__law_at : FunH K mg "_law_at" s__law_at []) (F__law_right : FunH K mg "_law_right" s__law_right []) (F__law_draw : FunH K mg "_law_draw" s__law_draw []) (F__law_move : FunH K mg "_law_move" s__law_move []) (F__law_moves : FunH K mg "_law_moves" s__law_moves []) (F_law : FunH K mg "law" s_law []) (b_abs : mg "abs" = none) (b_int : mg "int" = none) (b_max : mg "max" = none) (b_isinstance : mg "isinstance" = none) (b_bool : mg "bool" = none) (b_tuple : mg "tuple" = none) (b_len : mg "len" = none) (b_all : mg "all" = none) (b_list : mg "list" = none) (b_enumerate : mg "enumerate" = none) (b_sorted : mg "sorted" = none) (b_range : mg "range" = none) (b_dict : mg "dict" = none) (b_min : mg "min" = none) (g_MOST_ITEM : GlbI mg "MOST_ITEM" 6) (g_MOST_STEPS : GlbI mg "MOST_STEPS" 4) (g_MOST_SIZE : GlbI mg "MOST_SIZE" 999999999999999999999999999999) : Has P w K mg base 9 "law" s_law [] ps_law S_law := by
  have h__law_source := ok__law_source (P := P) (w := w) (mg := mg) (base := base) F__law_source b_abs b_int b_max
  have h_is_integer := ok_is_integer (P := P) (w := w) (mg := mg) (base := base) F_is_integer b_int b_isinstance b_bool
  have h_is_pair := ok_is_pair (P := P) (w := w) (mg := mg) (base := base) F_is_pair h_is_integer b_tuple b_isinstance b_len b_all
  have h_is_step := ok_is_step (P := P) (w := w) (mg := mg) (base := base) F_is_step h_is_pair g_MOST_ITEM
  have h_steps_fault := ok_steps_fault (P := P) (w := w) (mg := mg) (base := base) F_steps_fault h_is_step b_list b_isinstance b_len b_enumerate g_MOST_STEPS
  have h_need_steps := ok_need_steps (P := P) (w := w) (mg := mg) (base := base) F_need_steps h_steps_fault
  have h_need_size := ok_need_size (P := P) (w := w) (mg := mg) (base := base) F_need_size h_is_integer g_MOST_SIZE
  have h_need_box := ok_need_box (P := P) (w := w) (mg := mg) (base := base) F_need_box h_need_size
  have h_need_tiles := ok_need_tiles (P := P) (w := w) (mg := mg) (base := base) F_need_tiles h_need_steps h_need_box
  have h_det := ok_det (P := P) (w := w) (mg := mg) (base := base) F_det 
  have h_time_of := ok_time_of (P := P) (w := w) (mg := mg) (base := base) F_time_of 
  have h_comes_on := ok_comes_on (P := P) (w := w) (mg := mg) (base := base) F_comes_on h_det h_time_of
  have h_outermost := ok_outermost (P := P) (w := w) (mg := mg) (base := base) F_outermost h_comes_on b_all
  have h_middle_line := ok_middle_line (P := P) (w := w) (mg := mg) (base := base) F_middle_line h_det
  have h_line_over := ok_line_over (P := P) (w := w) (mg := mg) (base := base) F_line_over h_outermost h_middle_line
  have h_led_to := ok_led_to (P := P) (w := w) (mg := mg) (base := base) F_led_to 
  have h_tile_steps_of := ok_tile_steps_of (P := P) (w := w) (mg := mg) (base := base) F_tile_steps_of h_led_to b_sorted
  have h_tile_order := ok_tile_order (P := P) (w := w) (mg := mg) (base := base) F_tile_order h_need_tiles h_line_over h_tile_steps_of
  have h__law_ahead := ok__law_ahead (P := P) (w := w) (mg := mg) (base := base) F__law_ahead b_sorted
  have h__law_waits := ok__law_waits (P := P) (w := w) (mg := mg) (base := base) F__law_waits h__law_ahead b_range
  have h__law_can_end := ok__law_can_end (P := P) (w := w) (mg := mg) (base := base) F__law_can_end b_dict
  have h__law_at := ok__law_at (P := P) (w := w) (mg := mg) (base := base) F__law_at 
  have h__law_right := ok__law_right (P := P) (w := w) (mg := mg) (base := base) F__law_right h_tile_order h__law_waits h__law_can_end h__law_at
  have h__law_draw := ok__law_draw (P := P) (w := w) (mg := mg) (base := base) F__law_draw b_int
  have h__law_move := ok__law_move (P := P) (w := w) (mg := mg) (base := base) F__law_move h__law_draw
  have h__law_moves := ok__law_moves (P := P) (w := w) (mg := mg) (base := base) F__law_moves h__law_draw h__law_move b_range
  have h_law := ok_law (P := P) (w := w) (mg := mg) (base := base) F_law h__law_source h__law_right h__law_draw h__law_moves h__law_can_end h__law_waits b_len b_min b_max b_enumerate b_int b_range
  exact h_law
theorem fin {l : PySem.W.OpenLaw} {w : World} {K : PySem.W.Frag} {h : Heap} {mg : Str → Option Value} {fa : Addr} (X : K.In h) (G : h.Ns mainGlobals mg) (hfa : mg "law" = some (.ref fa))
    {f0 : Addr} {od0 an0 : Option Addr} {sl0 : Array (Option Value)} {oc0 kV0 dc0 pm0 cd0 ct0 : Value}
    (a0 : PySem.W.nsIn K mainGlobals "_law_source" = some (some (.ref f0)))
    (l0 : K.lookup f0 = some ⟨oc0, od0, .func (PySem.W.fnOf "_law_source" "_law_source" (defArgs s__law_source) (defBody s__law_source) (defScope s__law_source) .none kV0 dc0 pm0 an0 cd0 ct0), sl0⟩) (c0 : PySem.W.codeIn K cd0 "_law_source" = true) (k0 : PySem.W.keepIn K (.ref f0) = true)
    {f1 : Addr} {od1 an1 : Option Addr} {sl1 : Array (Option Value)} {oc1 kV1 dc1 pm1 cd1 ct1 dV1 : Value}
    (a1 : PySem.W.nsIn K mainGlobals "is_integer" = some (some (.ref f1)))
    (l1 : K.lookup f1 = some ⟨oc1, od1, .func (PySem.W.fnOf "is_integer" "is_integer" (defArgs s_is_integer) (defBody s_is_integer) (defScope s_is_integer) dV1 kV1 dc1 pm1 an1 cd1 ct1), sl1⟩) (c1 : PySem.W.codeIn K cd1 "is_integer" = true) (k1 : PySem.W.keepIn K (.ref f1) = true)
    (d1 : He.dflB K dV1 (dd_is_integer.map flV) = true)
    {f2 : Addr} {od2 an2 : Option Addr} {sl2 : Array (Option Value)} {oc2 kV2 dc2 pm2 cd2 ct2 : Value}
    (a2 : PySem.W.nsIn K mainGlobals "is_pair" = some (some (.ref f2)))
    (l2 : K.lookup f2 = some ⟨oc2, od2, .func (PySem.W.fnOf "is_pair" "is_pair" (defArgs s_is_pair) (defBody s_is_pair) (defScope s_is_pair) .none kV2 dc2 pm2 an2 cd2 ct2), sl2⟩) (c2 : PySem.W.codeIn K cd2 "is_pair" = true) (k2 : PySem.W.keepIn K (.ref f2) = true)
    {f3 : Addr} {od3 an3 : Option Addr} {sl3 : Array (Option Value)} {oc3 kV3 dc3 pm3 cd3 ct3 : Value}
    (a3 : PySem.W.nsIn K mainGlobals "is_step" = some (some (.ref f3)))
    (l3 : K.lookup f3 = some ⟨oc3, od3, .func (PySem.W.fnOf "is_step" "is_step" (defArgs s_is_step) (defBody s_is_step) (defScope s_is_step) .none kV3 dc3 pm3 an3 cd3 ct3), sl3⟩) (c3 : PySem.W.codeIn K cd3 "is_step" = true) (k3 : PySem.W.keepIn K (.ref f3) = true)
    {f4 : Addr} {od4 an4 : Option Addr} {sl4 : Array (Option Value)} {oc4 kV4 dc4 pm4 cd4 ct4 : Value}
    (a4 : PySem.W.nsIn K mainGlobals "steps_fault" = some (some (.ref f4)))
    (l4 : K.lookup f4 = some ⟨oc4, od4, .func (PySem.W.fnOf "steps_fault" "steps_fault" (defArgs s_steps_fault) (defBody s_steps_fault) (defScope s_steps_fault) .none kV4 dc4 pm4 an4 cd4 ct4), sl4⟩) (c4 : PySem.W.codeIn K cd4 "steps_fault" = true) (k4 : PySem.W.keepIn K (.ref f4) = true)
    {f5 : Addr} {od5 an5 : Option Addr} {sl5 : Array (Option Value)} {oc5 kV5 dc5 pm5 cd5 ct5 : Value}
    (a5 : PySem.W.nsIn K mainGlobals "need_steps" = some (some (.ref f5)))
    (l5 : K.lookup f5 = some ⟨oc5, od5, .func (PySem.W.fnOf "need_steps" "need_steps" (defArgs s_need_steps) (defBody s_need_steps) (defScope s_need_steps) .none kV5 dc5 pm5 an5 cd5 ct5), sl5⟩) (c5 : PySem.W.codeIn K cd5 "need_steps" = true) (k5 : PySem.W.keepIn K (.ref f5) = true)
    {f6 : Addr} {od6 an6 : Option Addr} {sl6 : Array (Option Value)} {oc6 kV6 dc6 pm6 cd6 ct6 : Value}
    (a6 : PySem.W.nsIn K mainGlobals "need_size" = some (some (.ref f6)))
    (l6 : K.lookup f6 = some ⟨oc6, od6, .func (PySem.W.fnOf "need_size" "need_size" (defArgs s_need_size) (defBody s_need_size) (defScope s_need_size) .none kV6 dc6 pm6 an6 cd6 ct6), sl6⟩) (c6 : PySem.W.codeIn K cd6 "need_size" = true) (k6 : PySem.W.keepIn K (.ref f6) = true)
    {f7 : Addr} {od7 an7 : Option Addr} {sl7 : Array (Option Value)} {oc7 kV7 dc7 pm7 cd7 ct7 : Value}
    (a7 : PySem.W.nsIn K mainGlobals "need_box" = some (some (.ref f7)))
    (l7 : K.lookup f7 = some ⟨oc7, od7, .func (PySem.W.fnOf "need_box" "need_box" (defArgs s_need_box) (defBody s_need_box) (defScope s_need_box) .none kV7 dc7 pm7 an7 cd7 ct7), sl7⟩) (c7 : PySem.W.codeIn K cd7 "need_box" = true) (k7 : PySem.W.keepIn K (.ref f7) = true)
    {f8 : Addr} {od8 an8 : Option Addr} {sl8 : Array (Option Value)} {oc8 kV8 dc8 pm8 cd8 ct8 : Value}
    (a8 : PySem.W.nsIn K mainGlobals "need_tiles" = some (some (.ref f8)))
    (l8 : K.lookup f8 = some ⟨oc8, od8, .func (PySem.W.fnOf "need_tiles" "need_tiles" (defArgs s_need_tiles) (defBody s_need_tiles) (defScope s_need_tiles) .none kV8 dc8 pm8 an8 cd8 ct8), sl8⟩) (c8 : PySem.W.codeIn K cd8 "need_tiles" = true) (k8 : PySem.W.keepIn K (.ref f8) = true)
    {f9 : Addr} {od9 an9 : Option Addr} {sl9 : Array (Option Value)} {oc9 kV9 dc9 pm9 cd9 ct9 : Value}
    (a9 : PySem.W.nsIn K mainGlobals "det" = some (some (.ref f9)))
    (l9 : K.lookup f9 = some ⟨oc9, od9, .func (PySem.W.fnOf "det" "det" (defArgs s_det) (defBody s_det) (defScope s_det) .none kV9 dc9 pm9 an9 cd9 ct9), sl9⟩) (c9 : PySem.W.codeIn K cd9 "det" = true) (k9 : PySem.W.keepIn K (.ref f9) = true)
    {f10 : Addr} {od10 an10 : Option Addr} {sl10 : Array (Option Value)} {oc10 kV10 dc10 pm10 cd10 ct10 : Value}
    (a10 : PySem.W.nsIn K mainGlobals "time_of" = some (some (.ref f10)))
    (l10 : K.lookup f10 = some ⟨oc10, od10, .func (PySem.W.fnOf "time_of" "time_of" (defArgs s_time_of) (defBody s_time_of) (defScope s_time_of) .none kV10 dc10 pm10 an10 cd10 ct10), sl10⟩) (c10 : PySem.W.codeIn K cd10 "time_of" = true) (k10 : PySem.W.keepIn K (.ref f10) = true)
    {f11 : Addr} {od11 an11 : Option Addr} {sl11 : Array (Option Value)} {oc11 kV11 dc11 pm11 cd11 ct11 : Value}
    (a11 : PySem.W.nsIn K mainGlobals "comes_on" = some (some (.ref f11)))
    (l11 : K.lookup f11 = some ⟨oc11, od11, .func (PySem.W.fnOf "comes_on" "comes_on" (defArgs s_comes_on) (defBody s_comes_on) (defScope s_comes_on) .none kV11 dc11 pm11 an11 cd11 ct11), sl11⟩) (c11 : PySem.W.codeIn K cd11 "comes_on" = true) (k11 : PySem.W.keepIn K (.ref f11) = true)
    {f12 : Addr} {od12 an12 : Option Addr} {sl12 : Array (Option Value)} {oc12 kV12 dc12 pm12 cd12 ct12 : Value}
    (a12 : PySem.W.nsIn K mainGlobals "outermost" = some (some (.ref f12)))
    (l12 : K.lookup f12 = some ⟨oc12, od12, .func (PySem.W.fnOf "outermost" "outermost" (defArgs s_outermost) (defBody s_outermost) (defScope s_outermost) .none kV12 dc12 pm12 an12 cd12 ct12), sl12⟩) (c12 : PySem.W.codeIn K cd12 "outermost" = true) (k12 : PySem.W.keepIn K (.ref f12) = true)
    {f13 : Addr} {od13 an13 : Option Addr} {sl13 : Array (Option Value)} {oc13 kV13 dc13 pm13 cd13 ct13 : Value}
    (a13 : PySem.W.nsIn K mainGlobals "middle_line" = some (some (.ref f13)))
    (l13 : K.lookup f13 = some ⟨oc13, od13, .func (PySem.W.fnOf "middle_line" "middle_line" (defArgs s_middle_line) (defBody s_middle_line) (defScope s_middle_line) .none kV13 dc13 pm13 an13 cd13 ct13), sl13⟩) (c13 : PySem.W.codeIn K cd13 "middle_line" = true) (k13 : PySem.W.keepIn K (.ref f13) = true)
    {f14 : Addr} {od14 an14 : Option Addr} {sl14 : Array (Option Value)} {oc14 kV14 dc14 pm14 cd14 ct14 : Value}
    (a14 : PySem.W.nsIn K mainGlobals "line_over" = some (some (.ref f14)))
    (l14 : K.lookup f14 = some ⟨oc14, od14, .func (PySem.W.fnOf "line_over" "line_over" (defArgs s_line_over) (defBody s_line_over) (defScope s_line_over) .none kV14 dc14 pm14 an14 cd14 ct14), sl14⟩) (c14 : PySem.W.codeIn K cd14 "line_over" = true) (k14 : PySem.W.keepIn K (.ref f14) = true)
    {f15 : Addr} {od15 an15 : Option Addr} {sl15 : Array (Option Value)} {oc15 kV15 dc15 pm15 cd15 ct15 : Value}
    (a15 : PySem.W.nsIn K mainGlobals "led_to" = some (some (.ref f15)))
    (l15 : K.lookup f15 = some ⟨oc15, od15, .func (PySem.W.fnOf "led_to" "led_to" (defArgs s_led_to) (defBody s_led_to) (defScope s_led_to) .none kV15 dc15 pm15 an15 cd15 ct15), sl15⟩) (c15 : PySem.W.codeIn K cd15 "led_to" = true) (k15 : PySem.W.keepIn K (.ref f15) = true)
    {f16 : Addr} {od16 an16 : Option Addr} {sl16 : Array (Option Value)} {oc16 kV16 dc16 pm16 cd16 ct16 : Value}
    (a16 : PySem.W.nsIn K mainGlobals "tile_steps_of" = some (some (.ref f16)))
    (l16 : K.lookup f16 = some ⟨oc16, od16, .func (PySem.W.fnOf "tile_steps_of" "tile_steps_of" (defArgs s_tile_steps_of) (defBody s_tile_steps_of) (defScope s_tile_steps_of) .none kV16 dc16 pm16 an16 cd16 ct16), sl16⟩) (c16 : PySem.W.codeIn K cd16 "tile_steps_of" = true) (k16 : PySem.W.keepIn K (.ref f16) = true)
    {f17 : Addr} {od17 an17 : Option Addr} {sl17 : Array (Option Value)} {oc17 kV17 dc17 pm17 cd17 ct17 : Value}
    (a17 : PySem.W.nsIn K mainGlobals "tile_order" = some (some (.ref f17)))
    (l17 : K.lookup f17 = some ⟨oc17, od17, .func (PySem.W.fnOf "tile_order" "tile_order" (defArgs s_tile_order) (defBody s_tile_order) (defScope s_tile_order) .none kV17 dc17 pm17 an17 cd17 ct17), sl17⟩) (c17 : PySem.W.codeIn K cd17 "tile_order" = true) (k17 : PySem.W.keepIn K (.ref f17) = true)
    {f18 : Addr} {od18 an18 : Option Addr} {sl18 : Array (Option Value)} {oc18 kV18 dc18 pm18 cd18 ct18 : Value}
    (a18 : PySem.W.nsIn K mainGlobals "_law_ahead" = some (some (.ref f18)))
    (l18 : K.lookup f18 = some ⟨oc18, od18, .func (PySem.W.fnOf "_law_ahead" "_law_ahead" (defArgs s__law_ahead) (defBody s__law_ahead) (defScope s__law_ahead) .none kV18 dc18 pm18 an18 cd18 ct18), sl18⟩) (c18 : PySem.W.codeIn K cd18 "_law_ahead" = true) (k18 : PySem.W.keepIn K (.ref f18) = true)
    {f19 : Addr} {od19 an19 : Option Addr} {sl19 : Array (Option Value)} {oc19 kV19 dc19 pm19 cd19 ct19 : Value}
    (a19 : PySem.W.nsIn K mainGlobals "_law_waits" = some (some (.ref f19)))
    (l19 : K.lookup f19 = some ⟨oc19, od19, .func (PySem.W.fnOf "_law_waits" "_law_waits" (defArgs s__law_waits) (defBody s__law_waits) (defScope s__law_waits) .none kV19 dc19 pm19 an19 cd19 ct19), sl19⟩) (c19 : PySem.W.codeIn K cd19 "_law_waits" = true) (k19 : PySem.W.keepIn K (.ref f19) = true)
    {f20 : Addr} {od20 an20 : Option Addr} {sl20 : Array (Option Value)} {oc20 kV20 dc20 pm20 cd20 ct20 : Value}
    (a20 : PySem.W.nsIn K mainGlobals "_law_can_end" = some (some (.ref f20)))
    (l20 : K.lookup f20 = some ⟨oc20, od20, .func (PySem.W.fnOf "_law_can_end" "_law_can_end" (defArgs s__law_can_end) (defBody s__law_can_end) (defScope s__law_can_end) .none kV20 dc20 pm20 an20 cd20 ct20), sl20⟩) (c20 : PySem.W.codeIn K cd20 "_law_can_end" = true) (k20 : PySem.W.keepIn K (.ref f20) = true)
    {f21 : Addr} {od21 an21 : Option Addr} {sl21 : Array (Option Value)} {oc21 kV21 dc21 pm21 cd21 ct21 : Value}
    (a21 : PySem.W.nsIn K mainGlobals "_law_at" = some (some (.ref f21)))
    (l21 : K.lookup f21 = some ⟨oc21, od21, .func (PySem.W.fnOf "_law_at" "_law_at" (defArgs s__law_at) (defBody s__law_at) (defScope s__law_at) .none kV21 dc21 pm21 an21 cd21 ct21), sl21⟩) (c21 : PySem.W.codeIn K cd21 "_law_at" = true) (k21 : PySem.W.keepIn K (.ref f21) = true)
    {f22 : Addr} {od22 an22 : Option Addr} {sl22 : Array (Option Value)} {oc22 kV22 dc22 pm22 cd22 ct22 : Value}
    (a22 : PySem.W.nsIn K mainGlobals "_law_right" = some (some (.ref f22)))
    (l22 : K.lookup f22 = some ⟨oc22, od22, .func (PySem.W.fnOf "_law_right" "_law_right" (defArgs s__law_right) (defBody s__law_right) (defScope s__law_right) .none kV22 dc22 pm22 an22 cd22 ct22), sl22⟩) (c22 : PySem.W.codeIn K cd22 "_law_right" = true) (k22 : PySem.W.keepIn K (.ref f22) = true)
    {f23 : Addr} {od23 an23 : Option Addr} {sl23 : Array (Option Value)} {oc23 kV23 dc23 pm23 cd23 ct23 : Value}
    (a23 : PySem.W.nsIn K mainGlobals "_law_draw" = some (some (.ref f23)))
    (l23 : K.lookup f23 = some ⟨oc23, od23, .func (PySem.W.fnOf "_law_draw" "_law_draw" (defArgs s__law_draw) (defBody s__law_draw) (defScope s__law_draw) .none kV23 dc23 pm23 an23 cd23 ct23), sl23⟩) (c23 : PySem.W.codeIn K cd23 "_law_draw" = true) (k23 : PySem.W.keepIn K (.ref f23) = true)
    {f24 : Addr} {od24 an24 : Option Addr} {sl24 : Array (Option Value)} {oc24 kV24 dc24 pm24 cd24 ct24 : Value}
    (a24 : PySem.W.nsIn K mainGlobals "_law_move" = some (some (.ref f24)))
    (l24 : K.lookup f24 = some ⟨oc24, od24, .func (PySem.W.fnOf "_law_move" "_law_move" (defArgs s__law_move) (defBody s__law_move) (defScope s__law_move) .none kV24 dc24 pm24 an24 cd24 ct24), sl24⟩) (c24 : PySem.W.codeIn K cd24 "_law_move" = true) (k24 : PySem.W.keepIn K (.ref f24) = true)
    {f25 : Addr} {od25 an25 : Option Addr} {sl25 : Array (Option Value)} {oc25 kV25 dc25 pm25 cd25 ct25 : Value}
    (a25 : PySem.W.nsIn K mainGlobals "_law_moves" = some (some (.ref f25)))
    (l25 : K.lookup f25 = some ⟨oc25, od25, .func (PySem.W.fnOf "_law_moves" "_law_moves" (defArgs s__law_moves) (defBody s__law_moves) (defScope s__law_moves) .none kV25 dc25 pm25 an25 cd25 ct25), sl25⟩) (c25 : PySem.W.codeIn K cd25 "_law_moves" = true) (k25 : PySem.W.keepIn K (.ref f25) = true)
    {f26 : Addr} {od26 an26 : Option Addr} {sl26 : Array (Option Value)} {oc26 kV26 dc26 pm26 cd26 ct26 : Value}
    (a26 : PySem.W.nsIn K mainGlobals "law" = some (some (.ref f26)))
    (l26 : K.lookup f26 = some ⟨oc26, od26, .func (PySem.W.fnOf "law" "law" (defArgs s_law) (defBody s_law) (defScope s_law) .none kV26 dc26 pm26 an26 cd26 ct26), sl26⟩) (c26 : PySem.W.codeIn K cd26 "law" = true) (k26 : PySem.W.keepIn K (.ref f26) = true)
    (z_abs : PySem.W.nsIn K mainGlobals "abs" = some none)
    (z_int : PySem.W.nsIn K mainGlobals "int" = some none)
    (z_max : PySem.W.nsIn K mainGlobals "max" = some none)
    (z_isinstance : PySem.W.nsIn K mainGlobals "isinstance" = some none)
    (z_bool : PySem.W.nsIn K mainGlobals "bool" = some none)
    (z_tuple : PySem.W.nsIn K mainGlobals "tuple" = some none)
    (z_len : PySem.W.nsIn K mainGlobals "len" = some none)
    (z_all : PySem.W.nsIn K mainGlobals "all" = some none)
    (z_list : PySem.W.nsIn K mainGlobals "list" = some none)
    (z_enumerate : PySem.W.nsIn K mainGlobals "enumerate" = some none)
    (z_sorted : PySem.W.nsIn K mainGlobals "sorted" = some none)
    (z_range : PySem.W.nsIn K mainGlobals "range" = some none)
    (z_dict : PySem.W.nsIn K mainGlobals "dict" = some none)
    (z_min : PySem.W.nsIn K mainGlobals "min" = some none)
    {y_MOST_ITEM : Tok} (g_MOST_ITEM : PySem.W.nsIn K mainGlobals "MOST_ITEM" = some (some (.int 6 y_MOST_ITEM)))
    {y_MOST_STEPS : Tok} (g_MOST_STEPS : PySem.W.nsIn K mainGlobals "MOST_STEPS" = some (some (.int 4 y_MOST_STEPS)))
    {y_MOST_SIZE : Tok} (g_MOST_SIZE : PySem.W.nsIn K mainGlobals "MOST_SIZE" = some (some (.int 999999999999999999999999999999 y_MOST_SIZE)))
    : ∃ fd : FuncData, (∀ (s : Shared) (v : Value), BindsTo s fd ⟨[v], []⟩ [("_law_script", v)]) ∧ ∀ base : Heap, K.In base → base.Ns mainGlobals mg → FnD l.prog w K mg base 9 fa fd ["_law_script"] S_law := by
  obtain rfl : fa = f26 := by have e := hfa.symm.trans (PySem.W.mg_of X G a26); cases e; rfl
  have F0 : FunH K mg "_law_source" s__law_source [] := ⟨_, _, PySem.W.mg_of X G a0, fund_mk l0 c0 k0 rfl⟩
  have F1 : FunH K mg "is_integer" s_is_integer dd_is_integer := ⟨_, _, PySem.W.mg_of X G a1, fund_mk l1 c1 k1 d1⟩
  have F2 : FunH K mg "is_pair" s_is_pair [] := ⟨_, _, PySem.W.mg_of X G a2, fund_mk l2 c2 k2 rfl⟩
  have F3 : FunH K mg "is_step" s_is_step [] := ⟨_, _, PySem.W.mg_of X G a3, fund_mk l3 c3 k3 rfl⟩
  have F4 : FunH K mg "steps_fault" s_steps_fault [] := ⟨_, _, PySem.W.mg_of X G a4, fund_mk l4 c4 k4 rfl⟩
  have F5 : FunH K mg "need_steps" s_need_steps [] := ⟨_, _, PySem.W.mg_of X G a5, fund_mk l5 c5 k5 rfl⟩
  have F6 : FunH K mg "need_size" s_need_size [] := ⟨_, _, PySem.W.mg_of X G a6, fund_mk l6 c6 k6 rfl⟩
  have F7 : FunH K mg "need_box" s_need_box [] := ⟨_, _, PySem.W.mg_of X G a7, fund_mk l7 c7 k7 rfl⟩
  have F8 : FunH K mg "need_tiles" s_need_tiles [] := ⟨_, _, PySem.W.mg_of X G a8, fund_mk l8 c8 k8 rfl⟩
  have F9 : FunH K mg "det" s_det [] := ⟨_, _, PySem.W.mg_of X G a9, fund_mk l9 c9 k9 rfl⟩
  have F10 : FunH K mg "time_of" s_time_of [] := ⟨_, _, PySem.W.mg_of X G a10, fund_mk l10 c10 k10 rfl⟩
  have F11 : FunH K mg "comes_on" s_comes_on [] := ⟨_, _, PySem.W.mg_of X G a11, fund_mk l11 c11 k11 rfl⟩
  have F12 : FunH K mg "outermost" s_outermost [] := ⟨_, _, PySem.W.mg_of X G a12, fund_mk l12 c12 k12 rfl⟩
  have F13 : FunH K mg "middle_line" s_middle_line [] := ⟨_, _, PySem.W.mg_of X G a13, fund_mk l13 c13 k13 rfl⟩
  have F14 : FunH K mg "line_over" s_line_over [] := ⟨_, _, PySem.W.mg_of X G a14, fund_mk l14 c14 k14 rfl⟩
  have F15 : FunH K mg "led_to" s_led_to [] := ⟨_, _, PySem.W.mg_of X G a15, fund_mk l15 c15 k15 rfl⟩
  have F16 : FunH K mg "tile_steps_of" s_tile_steps_of [] := ⟨_, _, PySem.W.mg_of X G a16, fund_mk l16 c16 k16 rfl⟩
  have F17 : FunH K mg "tile_order" s_tile_order [] := ⟨_, _, PySem.W.mg_of X G a17, fund_mk l17 c17 k17 rfl⟩
  have F18 : FunH K mg "_law_ahead" s__law_ahead [] := ⟨_, _, PySem.W.mg_of X G a18, fund_mk l18 c18 k18 rfl⟩
  have F19 : FunH K mg "_law_waits" s__law_waits [] := ⟨_, _, PySem.W.mg_of X G a19, fund_mk l19 c19 k19 rfl⟩
  have F20 : FunH K mg "_law_can_end" s__law_can_end [] := ⟨_, _, PySem.W.mg_of X G a20, fund_mk l20 c20 k20 rfl⟩
  have F21 : FunH K mg "_law_at" s__law_at [] := ⟨_, _, PySem.W.mg_of X G a21, fund_mk l21 c21 k21 rfl⟩
  have F22 : FunH K mg "_law_right" s__law_right [] := ⟨_, _, PySem.W.mg_of X G a22, fund_mk l22 c22 k22 rfl⟩
  have F23 : FunH K mg "_law_draw" s__law_draw [] := ⟨_, _, PySem.W.mg_of X G a23, fund_mk l23 c23 k23 rfl⟩
  have F24 : FunH K mg "_law_move" s__law_move [] := ⟨_, _, PySem.W.mg_of X G a24, fund_mk l24 c24 k24 rfl⟩
  have F25 : FunH K mg "_law_moves" s__law_moves [] := ⟨_, _, PySem.W.mg_of X G a25, fund_mk l25 c25 k25 rfl⟩
  have F26 : FunH K mg "law" s_law [] := ⟨_, _, PySem.W.mg_of X G a26, fund_mk l26 c26 k26 rfl⟩
  refine ⟨PySem.W.fnOf "law" "law" (defArgs s_law) (defBody s_law) (defScope s_law) .none kV26 dc26 pm26 an26 cd26 ct26, fun s v => .of_eq rfl, fun base _ _ => ?_⟩
  obtain ⟨f, fd, m, F, h⟩ := all_ok (P := l.prog) (w := w) (base := base) F0 F1 F2 F3 F4 F5 F6 F7 F8 F9 F10 F11 F12 F13 F14 F15 F16 F17 F18 F19 F20 F21 F22 F23 F24 F25 F26 (PySem.W.mg_none_of X G z_abs) (PySem.W.mg_none_of X G z_int) (PySem.W.mg_none_of X G z_max) (PySem.W.mg_none_of X G z_isinstance) (PySem.W.mg_none_of X G z_bool) (PySem.W.mg_none_of X G z_tuple) (PySem.W.mg_none_of X G z_len) (PySem.W.mg_none_of X G z_all) (PySem.W.mg_none_of X G z_list) (PySem.W.mg_none_of X G z_enumerate) (PySem.W.mg_none_of X G z_sorted) (PySem.W.mg_none_of X G z_range) (PySem.W.mg_none_of X G z_dict) (PySem.W.mg_none_of X G z_min) ⟨_, PySem.W.mg_of X G g_MOST_ITEM⟩ ⟨_, PySem.W.mg_of X G g_MOST_STEPS⟩ ⟨_, PySem.W.mg_of X G g_MOST_SIZE⟩
  have e := m.symm.trans (PySem.W.mg_of X G a26)
  cases e
  obtain ⟨_, _, _, _, _, _, _, _, _, _, e1, e2, _⟩ := F.ex
  rw [l26] at e2
  cases e2
  exact h
end LD
open PySem PySem.W PyProof.Rows
set_option maxHeartbeats 0 in
theorem PySem.Challenge.cw_storerounds_k58_tiles_in_boxes_holds : PySem.Challenge.rw_storerounds_k58_tiles_in_boxes.Holds := by
  w_on; o_law; k_head; (case hw => w_witness2)
  k_fill
  refine LD.walk_d (l := PySem.Challenge.rw_storerounds_k58_tiles_in_boxes) (n := LD.most) (k := 9) (x := "_law_script") rfl (by decide) rfl ⟨rfl, by decide, by decide⟩ (fun w h Y => PySem.W.kIn_of Y) ?F
  case F =>
    intro w mg fa h KX G hmg
    refine' LD.fin KX G hmg ?a0 ?l0 ?c0 ?k0 ?a1 ?l1 ?c1 ?k1 ?d1 ?a2 ?l2 ?c2 ?k2 ?a3 ?l3 ?c3 ?k3 ?a4 ?l4 ?c4 ?k4 ?a5 ?l5 ?c5 ?k5 ?a6 ?l6 ?c6 ?k6 ?a7 ?l7 ?c7 ?k7 ?a8 ?l8 ?c8 ?k8 ?a9 ?l9 ?c9 ?k9 ?a10 ?l10 ?c10 ?k10 ?a11 ?l11 ?c11 ?k11 ?a12 ?l12 ?c12 ?k12 ?a13 ?l13 ?c13 ?k13 ?a14 ?l14 ?c14 ?k14 ?a15 ?l15 ?c15 ?k15 ?a16 ?l16 ?c16 ?k16 ?a17 ?l17 ?c17 ?k17 ?a18 ?l18 ?c18 ?k18 ?a19 ?l19 ?c19 ?k19 ?a20 ?l20 ?c20 ?k20 ?a21 ?l21 ?c21 ?k21 ?a22 ?l22 ?c22 ?k22 ?a23 ?l23 ?c23 ?k23 ?a24 ?l24 ?c24 ?k24 ?a25 ?l25 ?c25 ?k25 ?a26 ?l26 ?c26 ?k26 ?z_abs ?z_int ?z_max ?z_isinstance ?z_bool ?z_tuple ?z_len ?z_all ?z_list ?z_enumerate ?z_sorted ?z_range ?z_dict ?z_min ?g_MOST_ITEM ?g_MOST_STEPS ?g_MOST_SIZE
    (case a0 => k_is)
    (case l0 => k_is)
    (case c0 => k_is)
    (case k0 => k_is)
    (case a1 => k_is)
    (case l1 => k_is)
    (case c1 => k_is)
    (case k1 => k_is)
    (case d1 => rfl)
    (case a2 => k_is)
    (case l2 => k_is)
    (case c2 => k_is)
    (case k2 => k_is)
    (case a3 => k_is)
    (case l3 => k_is)
    (case c3 => k_is)
    (case k3 => k_is)
    (case a4 => k_is)
    (case l4 => k_is)
    (case c4 => k_is)
    (case k4 => k_is)
    (case a5 => k_is)
    (case l5 => k_is)
    (case c5 => k_is)
    (case k5 => k_is)
    (case a6 => k_is)
    (case l6 => k_is)
    (case c6 => k_is)
    (case k6 => k_is)
    (case a7 => k_is)
    (case l7 => k_is)
    (case c7 => k_is)
    (case k7 => k_is)
    (case a8 => k_is)
    (case l8 => k_is)
    (case c8 => k_is)
    (case k8 => k_is)
    (case a9 => k_is)
    (case l9 => k_is)
    (case c9 => k_is)
    (case k9 => k_is)
    (case a10 => k_is)
    (case l10 => k_is)
    (case c10 => k_is)
    (case k10 => k_is)
    (case a11 => k_is)
    (case l11 => k_is)
    (case c11 => k_is)
    (case k11 => k_is)
    (case a12 => k_is)
    (case l12 => k_is)
    (case c12 => k_is)
    (case k12 => k_is)
    (case a13 => k_is)
    (case l13 => k_is)
    (case c13 => k_is)
    (case k13 => k_is)
    (case a14 => k_is)
    (case l14 => k_is)
    (case c14 => k_is)
    (case k14 => k_is)
    (case a15 => k_is)
    (case l15 => k_is)
    (case c15 => k_is)
    (case k15 => k_is)
    (case a16 => k_is)
    (case l16 => k_is)
    (case c16 => k_is)
    (case k16 => k_is)
    (case a17 => k_is)
    (case l17 => k_is)
    (case c17 => k_is)
    (case k17 => k_is)
    (case a18 => k_is)
    (case l18 => k_is)
    (case c18 => k_is)
    (case k18 => k_is)
    (case a19 => k_is)
    (case l19 => k_is)
    (case c19 => k_is)
    (case k19 => k_is)
    (case a20 => k_is)
    (case l20 => k_is)
    (case c20 => k_is)
    (case k20 => k_is)
    (case a21 => k_is)
    (case l21 => k_is)
    (case c21 => k_is)
    (case k21 => k_is)
    (case a22 => k_is)
    (case l22 => k_is)
    (case c22 => k_is)
    (case k22 => k_is)
    (case a23 => k_is)
    (case l23 => k_is)
    (case c23 => k_is)
    (case k23 => k_is)
    (case a24 => k_is)
    (case l24 => k_is)
    (case c24 => k_is)
    (case k24 => k_is)
    (case a25 => k_is)
    (case l25 => k_is)
    (case c25 => k_is)
    (case k25 => k_is)
    (case a26 => k_is)
    (case l26 => k_is)
    (case c26 => k_is)
    (case k26 => k_is)
    (case z_abs => k_is)
    (case z_int => k_is)
    (case z_max => k_is)
    (case z_isinstance => k_is)
    (case z_bool => k_is)
    (case z_tuple => k_is)
    (case z_len => k_is)
    (case z_all => k_is)
    (case z_list => k_is)
    (case z_enumerate => k_is)
    (case z_sorted => k_is)
    (case z_range => k_is)
    (case z_dict => k_is)
    (case z_min => k_is)
    (case g_MOST_ITEM => k_is)
    (case g_MOST_STEPS => k_is)
    (case g_MOST_SIZE => k_is)
