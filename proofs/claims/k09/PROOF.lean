import PyProof.Rows.All
import Wide.All
import OpenK.AllK
import Wide.FinOn
import PyProof.EqAt
import PyProof.EqKinds
import PyProof.TupleCall
import HandS.ForMost
import HandS.ForExc
import HandS.Lambda
import HandS.TupAny
import HandS.Wide
import HandS.Deep
import HandS.Style
import HandS.IsInst
import HandS.Flow
import HandS.TupLen
import HandS.NoneIn
import HandS.Rev
import HandS.Zip
import HandS.Exc
import HandS.Comp
import HandS.ExcOwn
import OpenK.KMore
import HandS.More
import HandS.Small
import KE.KExcSuper
import HandS.ExcInit
import HandS.ExcSuper
import HandS.TryMany
import HandS.ExcField
import HandS.Nested
import HandS.EndTab
import HandS.HeadWalk
import HandS.HeadHook4
import HandS.ExcValue
import HandS.IterVal
import HandS.Head2
import HandS.HeadEnd
import PySem.Challenge.RW_everytwo_k09_whole_fields
set_option linter.all false
set_option autoImplicit false
set_option Elab.async false
set_option maxRecDepth 100000
set_option maxHeartbeats 0
namespace Ev
open PySem PySem.Spec PyProof.Rows L2
/-! ## 1. the values of the reference language, their representation -/
inductive DK where
  | k (x : Key)
  | t (xs : List Key)
deriving DecidableEq
inductive D where
  | non | bl (b : Bool) | int (i : Int) | str (s : Str)
  | lst (xs : List D) | tup (xs : List D) | dct (kvs : List (DK × D))
  | lab (n : Nat) (d : D)
  | ro (d : D)
  | fn (f : Nat)
  | ref (k : Nat)
  | clm (k : Nat)
  | clo (k : Nat) (cs : List D)
inductive Ob where
  | lst (xs : List D)
  | dct (kvs : List (DK × D))
def Ob.toD : Ob → D
  | .lst xs => .lst xs
  | .dct kvs => .dct kvs
inductive Res where
  | val (d : D) | own (o : Ob)
def Res.toD : Res → D
  | .val d => d
  | .own o => o.toD
inductive Slot where
  | none | val (d : D) | own (o : Ob)
structure SS where
  dl : List Slot
  om : List Ob
  lc : Nat
inductive Out (α : Type) where
  | ok (a : α) (s : SS) | exc (c : Nat) (fs : List D) (s : SS) | no
def Out.bind {α β : Type} (o : Out α) (f : α → SS → Out β) : Out β :=
  match o with
  | .ok a s => f a s
  | .exc c fs s => .exc c fs s
  | .no => .no
/-- what is fixed through the whole law -/
structure LamD where
  params : Arguments
  body : Expr
  scope : Scope
  qual : Str
  fr : List Str
  dv : Option Int
structure PG where
  K : PySem.W.Frag
  fa : Nat → Addr
  ca : Nat → Addr
  xf : Nat → List Str
  la : Nat → LamD
  tabs : List (Addr × Str)
/-- what is fixed through a def's run -/
structure RS extends PG where
  H0 : Hp
  Z0 : Hp
  old : Hp
  L0 : Addr → Option Obj
  sp0 : Nat → Option Addr
  cl : List (Str × Addr)
  ce : Addr → Option Obj
/-- and what grows -/
structure RC extends RS where
  sp : Nat → Option Addr
  lb : Nat → Option V
  Hz : Hp
  lk : Addr → Option Obj
/-- a str that is a key is no longer than a line of the model -/
def kOk : Key → Prop
  | .inl _ => True
  | .inr s => s.length ≤ sizeLine
/-- how much is known of a container: any one that is read, one of ours, one of ours that is younger than old -/
inductive Md where
  | any | our | new
/-- the function object at f that a lambda made: its code object at c, its defaults dV -/
def LamO (f c : Addr) (l : LamD) (cl : List (Str × Addr)) (dV : Value) : HO := .ext fun h => ∃ (od : Option Addr) (sl : Array (Option Value)) (doc pm ctv : Value),
  h.get? f = some (⟨.type "function", od, .func (PySem.W.kdv_fn "<lambda>" l.qual l.params (.expr l.body) l.scope cl dV doc pm (.ref c) ctv), sl⟩ : Obj)
def LamAt (R : RC) (f : Addr) (l : LamD) (cl : List (Str × Addr)) : Prop := ∃ c dV, R.Hz f = some (LamO f c l cl dV) ∧ R.Hz c = some (LamX.CodeO c l.qual) ∧
  match l.dv with
  | none => dV = .none
  | some n => ∃ t, dV = .ref t ∧ R.Hz t = some (.tup [.int n])
/-- the captured cells, as they are known, and what they hold -/
structure CellsIn (ce : Addr → Option Obj) (cl : List (Str × Addr)) (fr : List Str) (vs : List V) : Prop where
  len : vs.length = fr.length
  all : ∀ y c, cl.lookup y = some c → ∃ o, ce c = some o
  dom : ∀ y c, cl.lookup y = some c → y ∈ fr
  inj : ∀ x y c, cl.lookup x = some c → cl.lookup y = some c → x = y
  has : ∀ (j : Nat) y, fr[j]? = some y → ∃ c o u v, cl.lookup y = some c ∧ ce c = some o ∧ o.data = .cell (some u) ∧ vs[j]? = some v ∧ RelV v u
mutual
def RV (R : RC) (c : Md) : D → V → Prop
  | .non, v => v = .non
  | .bl b, v => v = .bl b
  | .int i, v => v = .int i
  | .str s, v => v = .str s ∧ s.length ≤ sizeLine
  | .lst xs, v => ∃ a vs, v = .ref a ∧ (match c with | .new => R.old a = none ∧ R.Hz a = some (.lst vs) | .our => R.Hz a = some (.lst vs) | .any => SqL R.K R.Hz a vs) ∧ RVs R xs vs
  | .tup xs, v => ∃ a vs, v = .ref a ∧ (match c with | .new => R.old a = none ∧ R.Hz a = some (.tup vs) | .our => R.Hz a = some (.tup vs) | .any => SqT R.K R.Hz a vs) ∧ RVs R xs vs
  | .dct kvs, v => ∃ a, v = .ref a ∧ (c = .new → R.old a = none) ∧ ((∃ l, R.Hz a = some (.dK l) ∧ RVk R kvs l) ∨ ∃ l, R.Hz a = some (.dT l) ∧ RVt R kvs l)
  | .lab n d, v => (n ≠ 0 → R.lb n = some v) ∧ RV R .our d v
  | .ro d, v => RV R .any d v
  | .fn f, v => v = .ref (R.fa f)
  | .ref k, v => ∃ a, v = .ref a ∧ R.sp k = some a
  | .clm k, v => R.cl ≠ [] ∧ ∃ f, v = .ref f ∧ LamAt R f (R.la k) (cloFrom R.cl (R.la k).scope.names [])
  | .clo k cs, v => ∃ f cl vs, v = .ref f ∧ LamAt R f (R.la k) cl ∧ RVs R cs vs ∧ CellsIn R.ce cl (R.la k).fr vs
def RVs (R : RC) : List D → List V → Prop
  | [], vs => vs = []
  | d :: ds, vs => ∃ v r, vs = v :: r ∧ RV R .new d v ∧ RVs R ds r
def RVk (R : RC) : List (DK × D) → List (Key × V) → Prop
  | [], l => l = []
  | (k, d) :: ds, l => ∃ v x r, l = (x, v) :: r ∧ (k = .k x ∧ kOk x) ∧ RV R .new d v ∧ RVk R ds r
def RVt (R : RC) : List (DK × D) → List (List Key × V) → Prop
  | [], l => l = []
  | (k, d) :: ds, l => ∃ v x r, l = (x, v) :: r ∧ k = .t x ∧ RV R .new d v ∧ RVt R ds r
end
/-- what RV reads of R: the same, or grown -/
structure RLv (R R' : RC) : Prop where
  K : R'.K = R.K
  fa : R'.fa = R.fa
  old : R'.old = R.old
  la : R'.la = R.la
  cl : R.cl = [] ∨ R'.cl = R.cl
  ce : ∀ a o, R.ce a = some o → R'.ce a = some o
  sp : ∀ k a, R.sp k = some a → R'.sp k = some a
  lb : ∀ n v, R.lb n = some v → R'.lb n = some v
  hz : ∀ a o, R.Hz a = some o → R'.Hz a = some o
structure RLe (R R' : RC) : Prop where
  rs : R'.toRS = R.toRS
  lk : R'.lk = R.lk
  sp : ∀ k a, R.sp k = some a → R'.sp k = some a
  lb : ∀ n v, R.lb n = some v → R'.lb n = some v
  hz : ∀ a o, R.Hz a = some o → R'.Hz a = some o
theorem RLe.refl (R : RC) : RLe R R := ⟨rfl, rfl, fun _ _ h => h, fun _ _ h => h, fun _ _ h => h⟩
theorem RLe.trans {R R' R'' : RC} (h : RLe R R') (h' : RLe R' R'') : RLe R R'' :=
  ⟨h'.rs.trans h.rs, h'.lk.trans h.lk, fun n v e => h'.sp n v (h.sp n v e), fun n v e => h'.lb n v (h.lb n v e), fun a o e => h'.hz a o (h.hz a o e)⟩
theorem RLe.v {R R' : RC} (h : RLe R R') : RLv R R' := ⟨by rw [h.rs], by rw [h.rs], by rw [h.rs], by rw [h.rs], .inr (by rw [h.rs]), fun a o e => by rw [h.rs]; exact e, h.sp, h.lb, h.hz⟩
/-- a dict with something in it -/
def isDct : HO → Bool
  | .dK (_ :: _) => true
  | _ => false
/-- what is frozen stands in the heap; a dict may be locked there -/
def Sub (Z H : Hp) : Prop := ∀ a o, Z a = some o → Rd H a o ∧ (isDct o = false → H a = some o)
theorem Sub.rd {Z H : Hp} {a : Addr} {o : HO} (h : Sub Z H) (e : Z a = some o) : Rd H a o := (h a o e).1
theorem Sub.at {Z H : Hp} {a : Addr} {o : HO} (h : Sub Z H) (e : Z a = some o) (d : isDct o = false := by rfl) : H a = some o := (h a o e).2 d
theorem Sub.sqL {K : PySem.W.Frag} {Z H : Hp} {a : Addr} {xs : List V} (h : Sub Z H) (r : SqL K Z a xs) : SqL K H a xs := by
  rcases r with (r | ⟨o, r⟩) | r
  · exact .inl (h.rd r)
  · exact .inl (.inr ⟨o, h.at r⟩)
  · exact .inr r
theorem Sub.sqT {K : PySem.W.Frag} {Z H : Hp} {a : Addr} {xs : List V} (h : Sub Z H) (r : SqT K Z a xs) : SqT K H a xs := by
  rcases r with (r | ⟨o, r⟩) | r
  · exact .inl (h.rd r)
  · exact .inl (.inr ⟨o, h.at r⟩)
  · exact .inr r
/-- grown, under the same locks -/
structure RLw (R R' : RC) : Prop extends RLv R R' where
  lk : R'.lk = R.lk
theorem RLe.w {R R' : RC} (h : RLe R R') : RLw R R' := ⟨h.v, h.lk⟩
theorem RLw.trans {R R' R'' : RC} (h : RLw R R') (h' : RLw R' R'') : RLw R R'' := ⟨⟨h'.K.trans h.K, h'.fa.trans h.fa, h'.old.trans h.old, h'.la.trans h.la, h.cl.elim .inl (fun z => h'.cl.elim (fun w => .inl (by rw [← z]; exact w)) fun w => .inr (w.trans z)), fun a o e => h'.ce a o (h.ce a o e), fun n v e => h'.sp n v (h.sp n v e), fun n v e => h'.lb n v (h.lb n v e), fun a o e => h'.hz a o (h.hz a o e)⟩, h'.lk.trans h.lk⟩
theorem rdExt {H H' : Hp} {a : Addr} {u : HO} (h : ∀ a o, H a = some o → H' a = some o) (r : Rd H a u) : Rd H' a u := by
  rcases r with r | ⟨o, r⟩
  · exact .inl (h _ _ r)
  · exact .inr ⟨o, h _ _ r⟩
theorem SqL.ext {K : PySem.W.Frag} {H H' : Hp} {a : Addr} {xs : List V} (h : ∀ a o, H a = some o → H' a = some o) (r : SqL K H a xs) : SqL K H' a xs := by
  rcases r with r | r
  · exact .inl (rdExt h r)
  · exact .inr r
theorem SqT.ext {K : PySem.W.Frag} {H H' : Hp} {a : Addr} {xs : List V} (h : ∀ a o, H a = some o → H' a = some o) (r : SqT K H a xs) : SqT K H' a xs := by
  rcases r with r | r
  · exact .inl (rdExt h r)
  · exact .inr r
theorem LamAt.mono {R R' : RC} (h : ∀ a o, R.Hz a = some o → R'.Hz a = some o) {f : Addr} {l : LamD} {cl : List (Str × Addr)} (x : LamAt R f l cl) : LamAt R' f l cl := by
  obtain ⟨c, dV, e1, e2, e3⟩ := x
  refine ⟨c, dV, h _ _ e1, h _ _ e2, ?_⟩
  cases q : l.dv with
  | none => rw [q] at e3; exact e3
  | some n => rw [q] at e3; obtain ⟨t, z1, z2⟩ := e3; exact ⟨t, z1, h _ _ z2⟩
theorem CellsIn.mono {ce ce' : Addr → Option Obj} (h : ∀ a o, ce a = some o → ce' a = some o) {cl : List (Str × Addr)} {fr : List Str} {vs : List V} (x : CellsIn ce cl fr vs) : CellsIn ce' cl fr vs :=
  ⟨x.len, fun y c e => (x.all y c e).imp fun o q => h _ _ q, x.dom, x.inj, fun j y e => by
    obtain ⟨c, o, u, v, e1, e2, e3⟩ := x.has j y e
    exact ⟨c, o, u, v, e1, h _ _ e2, e3⟩⟩
mutual
theorem RV.monoV {R R' : RC} (h : RLv R R') : ∀ {c : Md} {d : D} {v : V}, RV R c d v → RV R' c d v
  | c, .non, v, x => by rw [RV] at x ⊢; exact x
  | c, .bl b, v, x => by rw [RV] at x ⊢; exact x
  | c, .int i, v, x => by rw [RV] at x ⊢; exact x
  | c, .str s, v, x => by rw [RV] at x ⊢; exact x
  | c, .lst xs, v, x => by
    rw [RV] at x ⊢
    obtain ⟨a, vs, e, p, q⟩ := x
    refine ⟨a, vs, e, ?_, RVs.monoV h q⟩
    cases c with
    | new => exact ⟨by rw [h.old]; exact p.1, h.hz _ _ p.2⟩
    | our => exact h.hz _ _ p
    | any => exact h.K ▸ SqL.ext h.hz p
  | c, .tup xs, v, x => by
    rw [RV] at x ⊢
    obtain ⟨a, vs, e, p, q⟩ := x
    refine ⟨a, vs, e, ?_, RVs.monoV h q⟩
    cases c with
    | new => exact ⟨by rw [h.old]; exact p.1, h.hz _ _ p.2⟩
    | our => exact h.hz _ _ p
    | any => exact h.K ▸ SqT.ext h.hz p
  | c, .dct kvs, v, x => by
    rw [RV] at x ⊢
    obtain ⟨a, e, p, q⟩ := x
    refine ⟨a, e, by rw [h.old]; exact p, ?_⟩
    rcases q with ⟨l, q1, q2⟩ | ⟨l, q1, q2⟩
    · exact .inl ⟨l, h.hz _ _ q1, RVk.monoV h q2⟩
    · exact .inr ⟨l, h.hz _ _ q1, RVt.monoV h q2⟩
  | c, .lab n d, v, x => by
    rw [RV] at x ⊢
    exact ⟨fun hn => h.lb _ _ (x.1 hn), RV.monoV h x.2⟩
  | c, .ro d, v, x => by
    rw [RV] at x ⊢
    exact RV.monoV h x
  | c, .fn f, v, x => by rw [RV] at x ⊢; rw [h.fa]; exact x
  | c, .ref k, v, x => by rw [RV] at x ⊢; obtain ⟨a, e, p⟩ := x; exact ⟨a, e, h.sp _ _ p⟩
  | c, .clm k, v, x => by
    rw [RV] at x ⊢
    obtain ⟨n, f, e, p⟩ := x
    rcases h.cl with z | z
    · exact (n z).elim
    · exact ⟨by rw [z]; exact n, f, e, by rw [h.la, z]; exact p.mono h.hz⟩
  | c, .clo k cs, v, x => by
    rw [RV] at x ⊢
    obtain ⟨f, cl, vs, e, p, q, r⟩ := x
    exact ⟨f, cl, vs, e, by rw [h.la]; exact p.mono h.hz, RVs.monoV h q, by rw [h.la]; exact r.mono h.ce⟩
theorem RVs.monoV {R R' : RC} (h : RLv R R') : ∀ {ds : List D} {vs : List V}, RVs R ds vs → RVs R' ds vs
  | [], vs, x => by rw [RVs] at x ⊢; exact x
  | d :: ds, vs, x => by
    rw [RVs] at x ⊢
    obtain ⟨v, r, e, p, q⟩ := x
    exact ⟨v, r, e, RV.monoV h p, RVs.monoV h q⟩
theorem RVk.monoV {R R' : RC} (h : RLv R R') : ∀ {ds : List (DK × D)} {vs : List (Key × V)}, RVk R ds vs → RVk R' ds vs
  | [], vs, x => by rw [RVk] at x ⊢; exact x
  | (k, d) :: ds, vs, x => by
    rw [RVk] at x ⊢
    obtain ⟨v, y, r, e, p, q, z⟩ := x
    exact ⟨v, y, r, e, p, RV.monoV h q, RVk.monoV h z⟩
theorem RVt.monoV {R R' : RC} (h : RLv R R') : ∀ {ds : List (DK × D)} {vs : List (List Key × V)}, RVt R ds vs → RVt R' ds vs
  | [], vs, x => by rw [RVt] at x ⊢; exact x
  | (k, d) :: ds, vs, x => by
    rw [RVt] at x ⊢
    obtain ⟨v, y, r, e, p, q, z⟩ := x
    exact ⟨v, y, r, e, p, RV.monoV h q, RVt.monoV h z⟩
end
theorem RV.mono {R R' : RC} (h : RLe R R') {c : Md} {d : D} {v : V} (x : RV R c d v) : RV R' c d v := RV.monoV h.v x
theorem RVs.mono {R R' : RC} (h : RLe R R') {d : List D} {v : List V} (x : RVs R d v) : RVs R' d v := RVs.monoV h.v x
theorem RVk.mono {R R' : RC} (h : RLe R R') {d : List (DK × D)} {v : List (Key × V)} (x : RVk R d v) : RVk R' d v := RVk.monoV h.v x
theorem RVt.mono {R R' : RC} (h : RLe R R') {d : List (DK × D)} {v : List (List Key × V)} (x : RVt R d v) : RVt R' d v := RVt.monoV h.v x
/-! ### values without functions that hold cells -/
mutual
def noFn : D → Bool
  | .lst xs => noFns xs
  | .tup xs => noFns xs
  | .dct kvs => noFnk kvs
  | .lab _ d => noFn d
  | .ro d => noFn d
  | .clm _ => false
  | .clo _ cs => cs.isEmpty
  | .non => true
  | .bl _ => true
  | .int _ => true
  | .str _ => true
  | .fn _ => true
  | .ref _ => true
def noFns : List D → Bool
  | [] => true
  | d :: ds => noFn d && noFns ds
def noFnk : List (DK × D) → Bool
  | [] => true
  | (_, d) :: ds => noFn d && noFnk ds
end
def Ob.noFn : Ob → Bool
  | .lst xs => noFns xs
  | .dct kvs => noFnk kvs
/-- what RV reads of R, cells aside -/
structure RLx (R R' : RC) : Prop where
  K : R'.K = R.K
  fa : R'.fa = R.fa
  old : R'.old = R.old
  la : R'.la = R.la
  sp : ∀ k a, R.sp k = some a → R'.sp k = some a
  lb : ∀ n v, R.lb n = some v → R'.lb n = some v
  hz : ∀ a o, R.Hz a = some o → R'.Hz a = some o
theorem CellsIn.nil {ce ce' : Addr → Option Obj} {cl : List (Str × Addr)} {fr : List Str} {vs : List V} (hv : vs = []) (x : CellsIn ce cl fr vs) : CellsIn ce' cl fr vs := by
  subst hv
  have e : fr = [] := List.length_eq_zero_iff.mp x.len.symm
  subst e
  exact ⟨rfl, fun y c h => (by have := x.dom y c h; cases this), fun y c h => (by have := x.dom y c h; cases this), x.inj, fun j y h => by cases h⟩
mutual
theorem RV.monoX {R R' : RC} (h : RLx R R') : ∀ {c : Md} {d : D} {v : V}, noFn d = true → RV R c d v → RV R' c d v
  | c, .non, v, n, x => by rw [RV] at x ⊢; exact x
  | c, .bl b, v, n, x => by rw [RV] at x ⊢; exact x
  | c, .int i, v, n, x => by rw [RV] at x ⊢; exact x
  | c, .str s, v, n, x => by rw [RV] at x ⊢; exact x
  | c, .lst xs, v, n, x => by
    rw [noFn] at n
    rw [RV] at x ⊢
    obtain ⟨a, vs, e, p, q⟩ := x
    refine ⟨a, vs, e, ?_, RVs.monoX h n q⟩
    cases c with
    | new => exact ⟨by rw [h.old]; exact p.1, h.hz _ _ p.2⟩
    | our => exact h.hz _ _ p
    | any => exact h.K ▸ SqL.ext h.hz p
  | c, .tup xs, v, n, x => by
    rw [noFn] at n
    rw [RV] at x ⊢
    obtain ⟨a, vs, e, p, q⟩ := x
    refine ⟨a, vs, e, ?_, RVs.monoX h n q⟩
    cases c with
    | new => exact ⟨by rw [h.old]; exact p.1, h.hz _ _ p.2⟩
    | our => exact h.hz _ _ p
    | any => exact h.K ▸ SqT.ext h.hz p
  | c, .dct kvs, v, n, x => by
    rw [noFn] at n
    rw [RV] at x ⊢
    obtain ⟨a, e, p, q⟩ := x
    refine ⟨a, e, by rw [h.old]; exact p, ?_⟩
    rcases q with ⟨l, q1, q2⟩ | ⟨l, q1, q2⟩
    · exact .inl ⟨l, h.hz _ _ q1, RVk.monoX h n q2⟩
    · exact .inr ⟨l, h.hz _ _ q1, RVt.monoX h n q2⟩
  | c, .lab m d, v, n, x => by
    rw [noFn] at n
    rw [RV] at x ⊢
    exact ⟨fun hn => h.lb _ _ (x.1 hn), RV.monoX h n x.2⟩
  | c, .ro d, v, n, x => by
    rw [noFn] at n
    rw [RV] at x ⊢
    exact RV.monoX h n x
  | c, .fn f, v, n, x => by rw [RV] at x ⊢; rw [h.fa]; exact x
  | c, .ref k, v, n, x => by rw [RV] at x ⊢; obtain ⟨a, e, p⟩ := x; exact ⟨a, e, h.sp _ _ p⟩
  | c, .clm k, v, n, x => by rw [noFn] at n; cases n
  | c, .clo k [], v, n, x => by
    rw [RV] at x ⊢
    obtain ⟨f, cl, vs, e, p, q, r⟩ := x
    rw [RVs] at q
    exact ⟨f, cl, vs, e, by rw [h.la]; exact p.mono h.hz, by rw [RVs]; exact q, by rw [h.la]; exact r.nil q⟩
  | c, .clo k (_ :: _), v, n, x => by rw [noFn] at n; cases n
theorem RVs.monoX {R R' : RC} (h : RLx R R') : ∀ {ds : List D} {vs : List V}, noFns ds = true → RVs R ds vs → RVs R' ds vs
  | [], vs, n, x => by rw [RVs] at x ⊢; exact x
  | d :: ds, vs, n, x => by
    rw [noFns, Bool.and_eq_true] at n
    rw [RVs] at x ⊢
    obtain ⟨v, r, e, p, q⟩ := x
    exact ⟨v, r, e, RV.monoX h n.1 p, RVs.monoX h n.2 q⟩
theorem RVk.monoX {R R' : RC} (h : RLx R R') : ∀ {ds : List (DK × D)} {vs : List (Key × V)}, noFnk ds = true → RVk R ds vs → RVk R' ds vs
  | [], vs, n, x => by rw [RVk] at x ⊢; exact x
  | (k, d) :: ds, vs, n, x => by
    rw [noFnk, Bool.and_eq_true] at n
    rw [RVk] at x ⊢
    obtain ⟨v, y, r, e, p, q, z⟩ := x
    exact ⟨v, y, r, e, p, RV.monoX h n.1 q, RVk.monoX h n.2 z⟩
theorem RVt.monoX {R R' : RC} (h : RLx R R') : ∀ {ds : List (DK × D)} {vs : List (List Key × V)}, noFnk ds = true → RVt R ds vs → RVt R' ds vs
  | [], vs, n, x => by rw [RVt] at x ⊢; exact x
  | (k, d) :: ds, vs, n, x => by
    rw [noFnk, Bool.and_eq_true] at n
    rw [RVt] at x ⊢
    obtain ⟨v, y, r, e, p, q, z⟩ := x
    exact ⟨v, y, r, e, p, RV.monoX h n.1 q, RVt.monoX h n.2 z⟩
end
/-- values go over from R to R': all, or those without functions (x) -/
structure Mn (x : Bool) (R R' : RC) : Prop where
  v : ∀ {c : Md} {d : D} {v : V}, (x = true → noFn d = true) → RV R c d v → RV R' c d v
  s : ∀ {d : List D} {v : List V}, (x = true → noFns d = true) → RVs R d v → RVs R' d v
  k : ∀ {d : List (DK × D)} {v : List (Key × V)}, (x = true → noFnk d = true) → RVk R d v → RVk R' d v
  t : ∀ {d : List (DK × D)} {v : List (List Key × V)}, (x = true → noFnk d = true) → RVt R d v → RVt R' d v
  old : R'.old = R.old
theorem RLv.mn {R R' : RC} (h : RLv R R') : Mn false R R' := ⟨fun _ => RV.monoV h, fun _ => RVs.monoV h, fun _ => RVk.monoV h, fun _ => RVt.monoV h, h.old⟩
theorem RLx.mn {R R' : RC} (h : RLx R R') : Mn true R R' := ⟨fun n => RV.monoX h (n rfl), fun n => RVs.monoX h (n rfl), fun n => RVk.monoX h (n rfl), fun n => RVt.monoX h (n rfl), h.old⟩
end Ev
namespace Ev
open PySem PySem.Spec PyProof.Rows L2
/-! ## 2. the state's representation -/
/-- an object that one slot alone holds -/
def OwnAt (R : RC) (H : Hp) (o : Ob) (a : Addr) : Prop :=
  R.old a = none ∧ R.H0 a = none ∧ R.Hz a = none ∧
  match o with
  | .lst ds => ∃ vs, H a = some (.lst vs) ∧ RVs R ds vs
  | .dct kvs => (∃ l, H a = some (.dK l) ∧ RVk R kvs l) ∨ ∃ l, H a = some (.dT l) ∧ RVt R kvs l
/-- slot i of σ owns the object at a -/
def Owns (S : SS) (σ : L2.St) (i : Nat) (a : Addr) : Prop := (∃ o, S.dl[i]? = some (Slot.own o)) ∧ σ[i]? = some (some (V.ref a))
/-- the shared object o, at a -/
def RefAt (R : RC) (H : Hp) (o : Ob) (a : Addr) : Prop :=
  R.Hz a = none ∧
  match o with
  | .lst ds => ∃ vs, H a = some (.lst vs) ∧ RVs R ds vs
  | .dct kvs => (∃ l, H a = some (.dK l) ∧ RVk R kvs l) ∨ ∃ l, H a = some (.dT l) ∧ RVt R kvs l
/-- as it stands under the locks -/
def lkd (R : RC) (a : Addr) (o : HO) : HO :=
  match R.lk a with
  | some od => .frz od o
  | none => o
/-- a was no shared object's place at the start -/
def NoRef0 (R : RC) (a : Addr) : Prop := ∀ k, R.sp0 k ≠ some a
/-- a is no shared object's place -/
def NoRef (R : RC) (a : Addr) : Prop := ∀ k, R.sp k ≠ some a
/-- a table of code objects that is ours to ask: each that it tells is known, with its name -/
def TabZ (R : RC) (H : Hp) (p : Addr × Str) : Prop := ∃ ps : Array Value, H p.1 = some (.tbl ps) ∧ TriplesOk ps.toList ∧ ∀ (pos : Pos) (cv : Value), codeAmong pos ps.toList = some cv → ∃ c, cv = .ref c ∧ R.Hz c = some (LamX.CodeO c p.2)
theorem TabZ.mono {R R' : RC} {H H' : Hp} {p : Addr × Str} (t : TabZ R H p) (h : ∀ ps, H p.1 = some (.tbl ps) → H' p.1 = some (.tbl ps)) (z : ∀ a o, R.Hz a = some o → R'.Hz a = some o) : TabZ R' H' p := by
  obtain ⟨ps, e1, e2, e3⟩ := t
  refine ⟨ps, h _ e1, e2, fun pos cv q => ?_⟩
  obtain ⟨c, q1, q2⟩ := e3 pos cv q
  exact ⟨c, q1, z _ _ q2⟩
structure SI (R : RC) (S : SS) (σ : L2.St) (H : Hp) : Prop where
  len : S.dl.length = σ.length
  sub0 : ∀ a o, R.Hz a = some o → H a = some (lkd R a o)
  lkz : ∀ a od, R.lk a = some od → ∃ p l, R.Hz a = some (.dK (p :: l))
  l0 : ∀ a od, R.L0 a = some od → R.lk a = some od
  nfz : True
  z0 : ∀ a o, R.Z0 a = some o → R.Hz a = some o
  new : ∀ a o, R.Hz a = some o → R.Z0 a = some o ∨ R.H0 a = none
  ntb : ∀ a ps, R.Hz a ≠ some (.tbl ps)
  tb : (∀ a ps, R.H0 a = some (.tbl ps) → ∃ more, H a = some (.tbl (ps ++ more))) ∧ ∀ p ∈ R.tabs, TabZ R H p
  keep : ∀ a o, R.H0 a = some o → NoRef0 R a → (∀ ps, o ≠ .tbl ps) → H a = some (match R.L0 a with | some _ => o | none => lkd R a o)
  dom : ∀ a, H a = none → R.H0 a = none
  oldd : ∀ a, R.H0 a = none → R.old a = none
  val : ∀ (i : Nat) d, S.dl[i]? = some (Slot.val d) → ∃ v, σ[i]? = some (some v) ∧ RV R .new d v
  own : ∀ (i : Nat) o, S.dl[i]? = some (Slot.own o) → ∃ a, σ[i]? = some (some (V.ref a)) ∧ OwnAt R H o a
  disj : ∀ i j a, Owns S σ i a → Owns S σ j a → i = j
  ref : ∀ (k : Nat) o, S.om[k]? = some o → ∃ a, R.sp k = some a ∧ RefAt R H o a
  rlt : ∀ k a, R.sp k = some a → k < S.om.length
  rfr : ∀ k a, R.sp k = some a → R.sp0 k = some a ∨ R.H0 a = none
  rs0 : ∀ k a, R.sp0 k = some a → R.sp k = some a
  rno : ∀ k a, R.sp k = some a → ∀ i, ¬ Owns S σ i a
  rinj : ∀ k j a, R.sp k = some a → R.sp j = some a → k = j
  lbl : ∀ n v, R.lb n = some v → n ≤ S.lc
section
variable {R R' : RC} {S : SS} {σ : L2.St} {H H' : Hp} {a p : Addr} {o : Ob}
theorem SI.lkN (si : SI R S σ H) (h : R.Hz a = none) : R.lk a = none := by
  cases e : R.lk a with
  | none => rfl
  | some od => obtain ⟨p, l, q⟩ := si.lkz a od e; rw [h] at q; cases q
theorem SI.sub (si : SI R S σ H) : Sub R.Hz H := fun a o e => by
  have q := si.sub0 a o e
  unfold lkd at q
  refine ⟨?_, fun d => ?_⟩
  · cases l : R.lk a with
    | none => rw [l] at q; exact .inl q
    | some od => rw [l] at q; exact .inr ⟨od, q⟩
  · cases l : R.lk a with
    | none => rw [l] at q; exact q
    | some od => obtain ⟨p, l', q'⟩ := si.lkz a od l; rw [e] at q'; cases q'; cases d
theorem OwnAt.at {ds : List D} (h : OwnAt R H (.lst ds) a) : ∃ vs, H a = some (.lst vs) ∧ RVs R ds vs := h.2.2.2
theorem OwnAt.there (h : OwnAt R H o a) : ∃ u, H a = some u := by
  obtain ⟨_, _, _, h⟩ := h
  cases o with
  | lst ds => obtain ⟨vs, e, _⟩ := h; exact ⟨_, e⟩
  | dct kvs => rcases h with ⟨l, e, _⟩ | ⟨l, e, _⟩ <;> exact ⟨_, e⟩
/-- Hz may grow beside a -/
theorem OwnAt.mono (h : OwnAt R H o a) (l : RLe R R') (n : R'.Hz a = none) (e : H' a = H a) : OwnAt R' H' o a := by
  obtain ⟨h1, h2, h3, h4⟩ := h
  have e1 := l.rs
  refine ⟨by rw [show R'.old = R.old by rw [e1]]; exact h1, by rw [show R'.H0 = R.H0 by rw [e1]]; exact h2, n, ?_⟩
  cases o with
  | lst ds => obtain ⟨vs, q, r⟩ := h4; exact ⟨vs, e.trans q, RVs.mono l r⟩
  | dct kvs =>
    rcases h4 with ⟨ll, q, r⟩ | ⟨ll, q, r⟩
    · exact .inl ⟨ll, e.trans q, RVk.mono l r⟩
    · exact .inr ⟨ll, e.trans q, RVt.mono l r⟩
theorem RefAt.there (h : RefAt R H o a) : ∃ u, H a = some u := by
  obtain ⟨_, h⟩ := h
  cases o with
  | lst ds => obtain ⟨vs, e, _⟩ := h; exact ⟨_, e⟩
  | dct kvs => rcases h with ⟨l, e, _⟩ | ⟨l, e, _⟩ <;> exact ⟨_, e⟩
theorem RefAt.mono (h : RefAt R H o a) (l : RLv R R') (n : R'.Hz a = none) (e : H' a = H a) : RefAt R' H' o a := by
  obtain ⟨h3, h4⟩ := h
  refine ⟨n, ?_⟩
  cases o with
  | lst ds => obtain ⟨vs, q, r⟩ := h4; exact ⟨vs, e.trans q, RVs.monoV l r⟩
  | dct kvs =>
    rcases h4 with ⟨ll, q, r⟩ | ⟨ll, q, r⟩
    · exact .inl ⟨ll, e.trans q, RVk.monoV l r⟩
    · exact .inr ⟨ll, e.trans q, RVt.monoV l r⟩
theorem RefAt.mn {x : Bool} (h : RefAt R H o a) (l : Mn x R R') (nf : x = true → o.noFn = true) (n : R'.Hz a = none) (e : H' a = H a) : RefAt R' H' o a := by
  obtain ⟨h3, h4⟩ := h
  refine ⟨n, ?_⟩
  cases o with
  | lst ds => obtain ⟨vs, q, r⟩ := h4; exact ⟨vs, e.trans q, l.s nf r⟩
  | dct kvs =>
    rcases h4 with ⟨ll, q, r⟩ | ⟨ll, q, r⟩
    · exact .inl ⟨ll, e.trans q, l.k nf r⟩
    · exact .inr ⟨ll, e.trans q, l.t nf r⟩
theorem SI.refOf (si : SI R S σ H) {k : Nat} (e : R.sp k = some a) : ∃ o, S.om[k]? = some o ∧ RefAt R H o a := by
  have hl := si.rlt k a e
  obtain ⟨b, e2, w⟩ := si.ref k _ (List.getElem?_eq_getElem hl)
  rw [e] at e2; cases e2
  exact ⟨_, List.getElem?_eq_getElem hl, w⟩
/-- the heap grew -/
theorem SI.heap (si : SI R S σ H) (x : ∀ a o, H a = some o → H' a = some o) : SI R S σ H' where
  len := si.len
  sub0 := fun a o e => x _ _ (si.sub0 a o e)
  lkz := si.lkz
  l0 := si.l0
  nfz := si.nfz
  z0 := si.z0
  new := si.new
  ntb := si.ntb
  tb := ⟨fun a ps e => by
    obtain ⟨more, q⟩ := si.tb.1 a ps e
    exact ⟨more, x _ _ q⟩, fun p hp => (si.tb.2 p hp).mono (fun ps e => x _ _ e) fun _ _ e => e⟩
  keep := fun a o e h1 h2 => x _ _ (si.keep a o e h1 h2)
  dom := fun a e => si.dom a (by
    cases q : H a with
    | none => rfl
    | some u => rw [x _ _ q] at e; cases e)
  oldd := si.oldd
  val := si.val
  own := fun i o e => by
    obtain ⟨a, e1, w⟩ := si.own i o e
    obtain ⟨u, hu⟩ := w.there
    exact ⟨a, e1, w.mono (RLe.refl R) w.2.2.1 ((x _ _ hu).trans hu.symm)⟩
  disj := si.disj
  ref := fun k o e => by
    obtain ⟨a, e1, w⟩ := si.ref k o e
    obtain ⟨u, hu⟩ := w.there
    exact ⟨a, e1, w.mono (RLe.refl R).v w.1 ((x _ _ hu).trans hu.symm)⟩
  rlt := si.rlt
  rfr := si.rfr
  rs0 := si.rs0
  rno := si.rno
  rinj := si.rinj
  lbl := si.lbl
theorem updExt {u : HO} (hp : H p = none) : ∀ a o, H a = some o → upd H p u a = some o := fun a o e => by
  rw [upd_ne (ne_of_none e hp)]; exact e
/-- a new object at p that nothing holds yet -/
theorem SI.alloc {u : HO} (si : SI R S σ H) (hp : H p = none) : SI R S σ (upd H p u) := si.heap (updExt hp)
theorem SI.fresh (si : SI R S σ H) (hp : H p = none) : R.old p = none ∧ R.H0 p = none ∧ R.Hz p = none := by
  have h0 := si.dom p hp
  refine ⟨si.oldd p h0, h0, ?_⟩
  cases q : R.Hz p with
  | none => rfl
  | some u => have := si.sub0 _ _ q; rw [hp] at this; cases this
theorem SI.notOwned (si : SI R S σ H) (hp : H p = none) (i : Nat) : ¬ Owns S σ i p := fun ⟨⟨o, e⟩, e2⟩ => by
  obtain ⟨a, e3, w⟩ := si.own i o e
  rw [e2] at e3; cases e3
  obtain ⟨u, hu⟩ := w.there
  rw [hp] at hu; cases hu
theorem SI.notRef (si : SI R S σ H) (hp : H p = none) : NoRef R p := fun k e => by
  obtain ⟨o, _, w⟩ := si.refOf e
  obtain ⟨u, hu⟩ := w.there
  rw [hp] at hu; cases hu
/-- what an object of ours becomes once it is frozen -/
def frzR (R : RC) (a : Addr) (u : HO) : RC := { R with Hz := upd R.Hz a u }
theorem frzR_le {u : HO} (h : R.Hz a = none) : RLe R (frzR R a u) := ⟨rfl, rfl, fun _ _ e => e, fun _ _ e => e, fun b o e => by
  show upd R.Hz a u b = some o
  rw [upd_ne (ne_of_none e h)]; exact e⟩
/-- R with the object at a frozen: a is no slot's own (any more), not the spring -/
theorem SI.freeze {u : HO} (si : SI R S σ H) (h0 : R.H0 a = none) (hz : R.Hz a = none) (hu : H a = some u) (nt : (∀ ps, u ≠ .tbl ps) ∧ ∀ od o, u ≠ .frz od o) (no : ∀ i, ¬ Owns S σ i a) (ns : NoRef R a) : SI (frzR R a u) S σ H where
  len := si.len
  sub0 := fun b o e => by
    have e : upd R.Hz a u b = some o := e
    by_cases h : b = a
    · subst h; rw [upd_same] at e; cases e
      show H b = some (lkd R b u)
      unfold lkd; rw [si.lkN hz]; exact hu
    · rw [upd_ne h] at e; exact si.sub0 b o e
  lkz := fun b od e => by
    have e : R.lk b = some od := e
    have hb : b ≠ a := fun z => by rw [z, si.lkN hz] at e; cases e
    show ∃ p l, upd R.Hz a u b = _
    rw [upd_ne hb]
    exact si.lkz b od e
  l0 := si.l0
  nfz := trivial
  z0 := fun b o e => (frzR_le hz).hz _ _ (si.z0 b o e)
  new := fun b o e => by
    have e : upd R.Hz a u b = some o := e
    by_cases h : b = a
    · subst h; exact .inr h0
    · rw [upd_ne h] at e; exact si.new b o e
  ntb := fun b ps e => by
    have e : upd R.Hz a u b = some (.tbl ps) := e
    by_cases h : b = a
    · subst h; rw [upd_same] at e; cases e; exact nt.1 ps rfl
    · rw [upd_ne h] at e; exact si.ntb b ps e
  tb := ⟨si.tb.1, fun p hp => (si.tb.2 p hp).mono (fun _ e => e) (frzR_le hz).hz⟩
  keep := si.keep
  dom := si.dom
  oldd := si.oldd
  val := fun i d e => by
    obtain ⟨v, e1, r⟩ := si.val i d e
    exact ⟨v, e1, RV.mono (frzR_le hz) r⟩
  own := fun i o e => by
    obtain ⟨b, e1, w⟩ := si.own i o e
    have hb : b ≠ a := fun z => no i ⟨⟨o, e⟩, by rw [← z]; exact e1⟩
    exact ⟨b, e1, w.mono (frzR_le hz) (by show upd R.Hz a u b = none; rw [upd_ne hb]; exact w.2.2.1) rfl⟩
  disj := si.disj
  ref := fun k o e => by
    obtain ⟨b, e1, w⟩ := si.ref k o e
    have hb : b ≠ a := fun z => ns k (by rw [← z]; exact e1)
    exact ⟨b, e1, w.mono (frzR_le hz).v (by show upd R.Hz a u b = none; rw [upd_ne hb]; exact w.1) rfl⟩
  rlt := si.rlt
  rfr := si.rfr
  rs0 := si.rs0
  rno := si.rno
  rinj := si.rinj
  lbl := si.lbl
/-- the representation of a frozen object -/
theorem OwnAt.frz (w : OwnAt R H o a) : ∃ u, H a = some u ∧ ((∀ ps, u ≠ .tbl ps) ∧ ∀ od o, u ≠ .frz od o) ∧ RV (frzR R a u) .new o.toD (.ref a) := by
  obtain ⟨h1, h2, h3, h4⟩ := w
  cases o with
  | lst ds =>
    obtain ⟨vs, e, r⟩ := h4
    refine ⟨_, e, ⟨(fun ps z => by cases z), (fun od o z => by cases z)⟩, ?_⟩
    show RV _ .new (.lst ds) _
    rw [RV]
    exact ⟨a, vs, rfl, ⟨h1, upd_same⟩, RVs.mono (frzR_le h3) r⟩
  | dct kvs =>
    rcases h4 with ⟨l, e, r⟩ | ⟨l, e, r⟩
    · refine ⟨_, e, ⟨(fun ps z => by cases z), (fun od o z => by cases z)⟩, ?_⟩
      show RV _ .new (.dct kvs) _
      rw [RV]
      exact ⟨a, rfl, fun _ => h1, .inl ⟨l, upd_same, RVk.mono (frzR_le h3) r⟩⟩
    · refine ⟨_, e, ⟨(fun ps z => by cases z), (fun od o z => by cases z)⟩, ?_⟩
      show RV _ .new (.dct kvs) _
      rw [RV]
      exact ⟨a, rfl, fun _ => h1, .inr ⟨l, upd_same, RVt.mono (frzR_le h3) r⟩⟩
/-! ### results -/
def RR (R : RC) (S : SS) (σ : L2.St) (H : Hp) (r : Res) (v : V) : Prop :=
  match r with
  | .val d => RV R .new d v
  | .own o => ∃ a, v = .ref a ∧ OwnAt R H o a ∧ (∀ i, ¬ Owns S σ i a) ∧ NoRef R a
/-- a result frozen -/
theorem RR.fz {r : Res} {v : V} (si : SI R S σ H) (h : RR R S σ H r v) : ∃ R', RLe R R' ∧ SI R' S σ H ∧ RV R' .new r.toD v := by
  cases r with
  | val d => exact ⟨R, RLe.refl R, si, h⟩
  | own o =>
    obtain ⟨a, e, w, n, ns⟩ := h
    subst e
    obtain ⟨u, hu, nt, rv⟩ := w.frz
    exact ⟨_, frzR_le w.2.2.1, si.freeze w.2.1 w.2.2.1 hu nt n ns, rv⟩
/-! ### slots -/
theorem Owns.of_set_other {i j : Nat} {sl : Slot} {v : V} (h : Owns { S with dl := S.dl.set i sl } (σ.set i (some v)) j a) (hj : j ≠ i) : Owns S σ j a := by
  obtain ⟨⟨o, e⟩, e2⟩ := h
  exact ⟨⟨o, by rw [List.getElem?_set_ne (Ne.symm hj)] at e; exact e⟩, by rw [List.getElem?_set_ne (Ne.symm hj)] at e2; exact e2⟩
def Res.slot : Res → Slot
  | .val d => .val d
  | .own o => .own o
def SS.put (S : SS) (i : Nat) (r : Res) : SS := { S with dl := S.dl.set i r.slot }
/-- a store to slot i -/
theorem SI.put {i : Nat} {r : Res} {v : V} (si : SI R S σ H) (h : RR R S σ H r v) : SI R (S.put i r) (σ.set i (some v)) H where
  len := by simpa [SS.put] using si.len
  sub0 := si.sub0
  lkz := si.lkz
  l0 := si.l0
  nfz := si.nfz
  z0 := si.z0
  new := si.new
  ntb := si.ntb
  tb := si.tb
  keep := si.keep
  dom := si.dom
  oldd := si.oldd
  val := fun j d e => by
    by_cases hj : j = i
    · subst hj
      have hl : j < S.dl.length := by
        by_cases q : j < S.dl.length
        · exact q
        · rw [List.getElem?_eq_none (by simpa [SS.put] using q)] at e; cases e
      have e : (S.dl.set j r.slot)[j]? = some (Slot.val d) := e
      rw [List.getElem?_set_self hl] at e
      have e := Option.some.inj e
      cases r with
      | val d' =>
        have : d' = d := by cases e; rfl
        subst this
        exact ⟨v, List.getElem?_set_self (by rw [← si.len]; exact hl), h⟩
      | own o => cases e
    · have e : (S.dl.set i r.slot)[j]? = some (Slot.val d) := e
      rw [List.getElem?_set_ne (Ne.symm hj)] at e
      obtain ⟨w, e1, rv⟩ := si.val j d e
      exact ⟨w, by rw [List.getElem?_set_ne (Ne.symm hj)]; exact e1, rv⟩
  own := fun j o e => by
    by_cases hj : j = i
    · subst hj
      have hl : j < S.dl.length := by
        by_cases q : j < S.dl.length
        · exact q
        · rw [List.getElem?_eq_none (by simpa [SS.put] using q)] at e; cases e
      have e : (S.dl.set j r.slot)[j]? = some (Slot.own o) := e
      rw [List.getElem?_set_self hl] at e
      have e := Option.some.inj e
      cases r with
      | val d' => cases e
      | own o' =>
        have : o' = o := by cases e; rfl
        subst this
        obtain ⟨a, ev, w, _⟩ := h
        subst ev
        exact ⟨a, List.getElem?_set_self (by rw [← si.len]; exact hl), w⟩
    · have e : (S.dl.set i r.slot)[j]? = some (Slot.own o) := e
      rw [List.getElem?_set_ne (Ne.symm hj)] at e
      obtain ⟨w, e1, rv⟩ := si.own j o e
      exact ⟨w, by rw [List.getElem?_set_ne (Ne.symm hj)]; exact e1, rv⟩
  disj := fun j k a h1 h2 => by
    have fr : ∀ k, k ≠ i → Owns S σ k a → Owns (S.put i r) (σ.set i (some v)) i a → False := fun k hk o1 o2 => by
      obtain ⟨⟨o, e⟩, e2⟩ := o2
      have e : (S.dl.set i r.slot)[i]? = some (Slot.own o) := e
      have hl : i < S.dl.length := by
        by_cases q : i < S.dl.length
        · exact q
        · rw [List.getElem?_eq_none (by simpa using q)] at e; cases e
      rw [List.getElem?_set_self hl] at e
      rw [List.getElem?_set_self (by rw [← si.len]; exact hl)] at e2
      have e := Option.some.inj e
      cases r with
      | val d' => cases e
      | own o' =>
        obtain ⟨b, ev, _, no, _⟩ := h
        rw [ev] at e2
        cases e2
        exact no k o1
    by_cases hj : j = i
    · by_cases hk : k = i
      · exact hj.trans hk.symm
      · exact (fr k hk (Owns.of_set_other h2 hk) (hj ▸ h1)).elim
    · by_cases hk : k = i
      · exact (fr j hj (Owns.of_set_other h1 hj) (hk ▸ h2)).elim
      · exact si.disj j k a (Owns.of_set_other h1 hj) (Owns.of_set_other h2 hk)
  ref := si.ref
  rlt := si.rlt
  rfr := si.rfr
  rs0 := si.rs0
  rno := fun k a ea j ow => by
    by_cases hj : j = i
    · subst hj
      obtain ⟨⟨o, e⟩, e2⟩ := ow
      have e : (S.dl.set j r.slot)[j]? = some (Slot.own o) := e
      have hl : j < S.dl.length := by
        by_cases q : j < S.dl.length
        · exact q
        · rw [List.getElem?_eq_none (by simpa using q)] at e; cases e
      rw [List.getElem?_set_self hl] at e
      rw [List.getElem?_set_self (by rw [← si.len]; exact hl)] at e2
      have e := Option.some.inj e
      cases r with
      | val d' => cases e
      | own o' =>
        obtain ⟨b, ev, _, _, ns⟩ := h
        rw [ev] at e2
        cases e2
        exact ns k ea
    · exact si.rno k a ea j (Owns.of_set_other ow hj)
  rinj := si.rinj
  lbl := si.lbl
end
end Ev
namespace Ev
open PySem PySem.Spec PyProof.Rows L2
/-! ## 3. the reading of a state function -/
structure EC where
  G : PG
  cl : List (Str × Addr)
  ce : Addr → Option Obj
  W : WX
def Base (C : EC) (R : RC) : Prop := R.toPG = C.G ∧ R.cl = C.cl ∧ R.ce = C.ce
theorem Base.le {C : EC} {R R' : RC} (b : Base C R) (h : RLe R R') : Base C R' := by
  obtain ⟨b1, b2, b3⟩ := b
  exact ⟨by rw [show R'.toPG = R.toPG by rw [h.rs]]; exact b1, by rw [show R'.cl = R.cl by rw [h.rs]]; exact b2, by rw [show R'.ce = R.ce by rw [h.rs]]; exact b3⟩
theorem Base.K {C : EC} {R : RC} (b : Base C R) : R.K = C.G.K := by rw [b.1]
/-- an exception, its dict at d -/
def XR (R : RC) (H : Hp) (c : Nat) (fs : List D) (d : Option Addr) : Prop :=
  ∃ dx vs l, d = some dx ∧ H dx = some (.xd l) ∧ RVs R fs vs ∧ ∀ (i : Nat) f v, (R.xf c)[i]? = some f → vs[i]? = some v → l.lookup f = some v
section
variable {α β γ δ : Type}
abbrev Rel (α β : Type) := RC → SS → L2.St → Hp → α → β → Prop
def Po (C : EC) (rel : Rel α β) (R : RC) (σ : L2.St) (o : Out α) (Q : β → Hp → Prop) : Prop :=
  match o with
  | .ok a S' => ∀ R' H' x, RLe R R' → SI R' S' σ H' → rel R' S' σ H' a x → Q x H'
  | .exc c fs S' => ∀ R' H' d, RLe R R' → SI R' S' σ H' → XR R' H' c fs d → C.W (.ref (R.ca c)) d σ H'
  | .no => False
def T (C : EC) (rel : Rel α β) (F : SS → Out α) : L2.St → Hp → (β → Hp → Prop) → Prop := fun σ H Q => ∃ R S, Base C R ∧ SI R S σ H ∧ Po C rel R σ (F S) Q
variable {C : EC} {rel : Rel α β} {rel' : Rel γ δ} {R R' : RC} {σ : L2.St} {H : Hp} {S : SS} {F : SS → Out α} {K : α → SS → Out γ}
theorem Po.mono {o : Out α} {Q Q' : β → Hp → Prop} (h : Po C rel R σ o Q) (q : ∀ x H, Q x H → Q' x H) : Po C rel R σ o Q' := by
  cases o with
  | ok a S' => exact fun R' H' x l si r => q _ _ (h R' H' x l si r)
  | exc c fs S' => exact h
  | no => exact h
theorem Po.up {o : Out α} {Q : β → Hp → Prop} (h : Po C rel R σ o Q) (l : RLe R R') : Po C rel R' σ o Q := by
  cases o with
  | ok a S' => exact fun R'' H' x l' si r => h R'' H' x (l.trans l') si r
  | exc c fs S' =>
    intro R'' H' d l' si x
    have e : R'.ca = R.ca := by rw [l.rs]
    rw [e]
    exact h R'' H' d (l.trans l') si x
  | no => exact h
theorem T.mono {Q Q' : β → Hp → Prop} (h : T C rel F σ H Q) (q : ∀ x H, Q x H → Q' x H) : T C rel F σ H Q' := by
  obtain ⟨R, S, b, si, p⟩ := h
  exact ⟨R, S, b, si, p.mono q⟩
/-- one after another -/
theorem seqT {Q : δ → Hp → Prop} (b : Base C R) (si : SI R S σ H) (h : Po C rel' R σ ((F S).bind K) Q) :
    T C rel F σ H fun x H1 => ∃ R1 S1 a, RLe R R1 ∧ Base C R1 ∧ SI R1 S1 σ H1 ∧ rel R1 S1 σ H1 a x ∧ Po C rel' R1 σ (K a S1) Q := by
  refine ⟨R, S, b, si, ?_⟩
  cases e : F S with
  | ok a S' =>
    rw [e] at h
    exact fun R' H' x l si' r => ⟨R', S', a, l, b.le l, si', r, Po.up h l⟩
  | exc c fs S' => rw [e] at h; exact h
  | no => rw [e] at h; exact h
theorem seqT' {Q : δ → Hp → Prop} (h : T C rel' (fun S => (F S).bind K) σ H Q) :
    T C rel F σ H fun x H1 => ∃ R1 S1 a, Base C R1 ∧ SI R1 S1 σ H1 ∧ rel R1 S1 σ H1 a x ∧ Po C rel' R1 σ (K a S1) Q := by
  obtain ⟨R, S, b, si, p⟩ := h
  exact (seqT (rel := rel) b si p).mono fun x H1 ⟨R1, S1, a, _, b1, s1, r1, p1⟩ => ⟨R1, S1, a, b1, s1, r1, p1⟩
end
/-! ### the relations: a value (frozen), a result, a list of values, a truth -/
def rV : Rel D V := fun R _ _ _ d v => RV R .new d v
def rR : Rel Res V := RR
def rVs : Rel (List D) (List V) := fun R _ _ _ ds vs => RVs R ds vs
def rB : Rel Bool Bool := fun _ _ _ _ a b => a = b
def tE (C : EC) (F : SS → Out Res) : TE := fun σ H Q => T C rR F σ H Q
def tD (C : EC) (F : SS → Out D) : TE := fun σ H Q => T C rV F σ H Q
def tA (C : EC) (F : SS → Out (List D)) : TA := fun σ H Q => T C rVs F σ H Q
def tT (C : EC) (F : SS → Out Bool) : TT := fun σ H Q => T C rB F σ H Q
/-- frozen -/
def fz (F : SS → Out Res) : SS → Out D := fun S => (F S).bind fun r S' => .ok r.toD S'
theorem tE_of_fz {C : EC} {F : SS → Out Res} {σ : L2.St} {H : Hp} {Q : VK} (h : tD C (fz F) σ H Q) : tE C F σ H Q := by
  obtain ⟨R, S, b, si, p⟩ := h
  refine ⟨R, S, b, si, ?_⟩
  unfold fz at p
  cases e : F S with
  | ok r S' =>
    rw [e] at p
    intro R' H' x l si' r'
    obtain ⟨R2, l2, si2, rv⟩ := RR.fz si' r'
    exact p R2 H' x (l.trans l2) si2 rv
  | exc c fs S' => rw [e] at p; exact p
  | no => rw [e] at p; exact p
theorem pe_fz {X : Cx} {C : EC} {F : SS → Out Res} {e : Expr} (h : PE X e (tE C F)) : PE X e (tD C (fz F)) :=
  ⟨fun pins s σ H Q I q => h.run pins s σ H Q I (tE_of_fz q)⟩
/-! ### toolkit -/
section
variable {R R' : RC} {σ : L2.St} {H : Hp} {S : SS} {p : Addr}
theorem SI.own_lst {ds : List D} {vs : List V} (si : SI R S σ H) (hp : H p = none) (r : RVs R ds vs) : SI R S σ (upd H p (.lst vs)) ∧ RR R S σ (upd H p (.lst vs)) (.own (.lst ds)) (.ref p) := by
  obtain ⟨h1, h2, h3⟩ := si.fresh hp
  exact ⟨si.alloc hp, p, rfl, ⟨h1, h2, h3, vs, upd_same, r⟩, si.notOwned hp, si.notRef hp⟩
theorem SI.own_dct {kvs : List (DK × D)} {l : List (Key × V)} (si : SI R S σ H) (hp : H p = none) (r : RVk R kvs l) : SI R S σ (upd H p (.dK l)) ∧ RR R S σ (upd H p (.dK l)) (.own (.dct kvs)) (.ref p) := by
  obtain ⟨h1, h2, h3⟩ := si.fresh hp
  exact ⟨si.alloc hp, p, rfl, ⟨h1, h2, h3, .inl ⟨l, upd_same, r⟩⟩, si.notOwned hp, si.notRef hp⟩
theorem SI.own_dctT {kvs : List (DK × D)} {l : List (List Key × V)} (si : SI R S σ H) (hp : H p = none) (r : RVt R kvs l) : SI R S σ (upd H p (.dT l)) ∧ RR R S σ (upd H p (.dT l)) (.own (.dct kvs)) (.ref p) := by
  obtain ⟨h1, h2, h3⟩ := si.fresh hp
  exact ⟨si.alloc hp, p, rfl, ⟨h1, h2, h3, .inr ⟨l, upd_same, r⟩⟩, si.notOwned hp, si.notRef hp⟩
theorem SI.tup {ds : List D} {vs : List V} (si : SI R S σ H) (hp : H p = none) (r : RVs R ds vs) : ∃ R', RLe R R' ∧ SI R' S σ (upd H p (.tup vs)) ∧ RV R' .new (.tup ds) (.ref p) := by
  obtain ⟨h1, h2, h3⟩ := si.fresh hp
  refine ⟨frzR R p (.tup vs), frzR_le h3, (si.alloc hp).freeze h2 h3 upd_same ⟨(fun ps z => by cases z), (fun od o z => by cases z)⟩ (fun i ow => si.notOwned hp i ow) (si.notRef hp), ?_⟩
  · rw [RV]
    exact ⟨p, vs, rfl, ⟨h1, upd_same⟩, RVs.mono (frzR_le h3) r⟩
end
/-- without its labels -/
def D.lview : D → D
  | .lab _ d => d.lview
  | d => d
def D.view : D → D
  | .lab _ d => d.view
  | .ro d => d.view
  | d => d
theorem RV.weak {R : RC} : ∀ {d : D} {c : Md} {v : V}, RV R c d v → RV R .any d v := fun {d c v} h => by
  cases c with
  | any => exact h
  | new =>
    cases d with
    | lst xs => rw [RV] at h ⊢; obtain ⟨a, vs, e, p, q⟩ := h; exact ⟨a, vs, e, SqL.of p.2, q⟩
    | tup xs => rw [RV] at h ⊢; obtain ⟨a, vs, e, p, q⟩ := h; exact ⟨a, vs, e, SqT.of p.2, q⟩
    | dct kvs => rw [RV] at h ⊢; obtain ⟨a, e, p, q⟩ := h; exact ⟨a, e, (by intro z; cases z), q⟩
    | _ => rw [RV] at h ⊢; exact h
  | our =>
    cases d with
    | lst xs => rw [RV] at h ⊢; obtain ⟨a, vs, e, p, q⟩ := h; exact ⟨a, vs, e, SqL.of p, q⟩
    | tup xs => rw [RV] at h ⊢; obtain ⟨a, vs, e, p, q⟩ := h; exact ⟨a, vs, e, SqT.of p, q⟩
    | dct kvs => rw [RV] at h ⊢; obtain ⟨a, e, p, q⟩ := h; exact ⟨a, e, (by intro z; cases z), q⟩
    | _ => rw [RV] at h ⊢; exact h
theorem RV.our {R : RC} : ∀ {d : D} {v : V}, RV R .new d v → RV R .our d v := fun {d v} h => by
  cases d with
  | lst xs => rw [RV] at h ⊢; obtain ⟨a, vs, e, p, q⟩ := h; exact ⟨a, vs, e, p.2, q⟩
  | tup xs => rw [RV] at h ⊢; obtain ⟨a, vs, e, p, q⟩ := h; exact ⟨a, vs, e, p.2, q⟩
  | dct kvs => rw [RV] at h ⊢; obtain ⟨a, e, p, q⟩ := h; exact ⟨a, e, (by intro z; cases z), q⟩
  | _ => rw [RV] at h ⊢; exact h
theorem RV.view {R : RC} : ∀ {d : D} {c : Md} {v : V}, RV R c d v → RV R .any d.view v
  | .lab n d, c, v, h => by rw [RV] at h; exact RV.view (d := d) h.2
  | .ro d, c, v, h => by rw [RV] at h; exact RV.view (d := d) h
  | .non, c, v, h => RV.weak h
  | .bl b, c, v, h => RV.weak h
  | .int b, c, v, h => RV.weak h
  | .str b, c, v, h => RV.weak h
  | .lst b, c, v, h => RV.weak h
  | .tup b, c, v, h => RV.weak h
  | .dct b, c, v, h => RV.weak h
  | .fn b, c, v, h => RV.weak h
  | .ref b, c, v, h => RV.weak h
  | .clm b, c, v, h => RV.weak h
  | .clo b cs, c, v, h => RV.weak h
/-- ours: behind the labels alone -/
theorem RV.lview {R : RC} : ∀ {d : D} {v : V}, RV R .our d v → RV R .our d.lview v
  | .lab n d, v, h => by rw [RV] at h; exact RV.lview (d := d) h.2
  | .ro d, v, h => h
  | .non, v, h => h
  | .bl b, v, h => h
  | .int b, v, h => h
  | .str b, v, h => h
  | .lst b, v, h => h
  | .tup b, v, h => h
  | .dct b, v, h => h
  | .fn b, v, h => h
  | .ref b, v, h => h
  | .clm b, v, h => h
  | .clo b cs, v, h => h
section
variable {R : RC} {v : V} {c : Md}
theorem RV.int_ {i : Int} {d : D} (h : RV R c d v) (e : d.view = .int i) : v = .int i := by have := h.view; rw [e, RV] at this; exact this
theorem RV.bl_ {i : Bool} {d : D} (h : RV R c d v) (e : d.view = .bl i) : v = .bl i := by have := h.view; rw [e, RV] at this; exact this
theorem RV.non_ {d : D} (h : RV R c d v) (e : d.view = .non) : v = .non := by have := h.view; rw [e, RV] at this; exact this
theorem RV.str_ {i : Str} {d : D} (h : RV R c d v) (e : d.view = .str i) : v = .str i ∧ i.length ≤ sizeLine := by have := h.view; rw [e, RV] at this; exact this
theorem RV.lst_ {xs : List D} {d : D} (h : RV R c d v) (e : d.view = .lst xs) : ∃ a vs, v = .ref a ∧ SqL R.K R.Hz a vs ∧ RVs R xs vs := by
  have := h.view; rw [e, RV] at this; exact this
theorem RV.tup_ {xs : List D} {d : D} (h : RV R c d v) (e : d.view = .tup xs) : ∃ a vs, v = .ref a ∧ SqT R.K R.Hz a vs ∧ RVs R xs vs := by
  have := h.view; rw [e, RV] at this; exact this
theorem RV.dct_ {kvs : List (DK × D)} {d : D} (h : RV R c d v) (e : d.view = .dct kvs) : ∃ a, v = .ref a ∧ ((∃ l, R.Hz a = some (.dK l) ∧ RVk R kvs l) ∨ ∃ l, R.Hz a = some (.dT l) ∧ RVt R kvs l) := by
  have := h.view; rw [e, RV] at this
  obtain ⟨a, e, _, q⟩ := this
  exact ⟨a, e, q⟩
theorem RV.lstO {xs : List D} {d : D} (h : RV R .new d v) (e : d.lview = .lst xs) : ∃ a vs, v = .ref a ∧ R.Hz a = some (.lst vs) ∧ RVs R xs vs := by
  have := h.our.lview; rw [e, RV] at this; exact this
theorem RV.tupO {xs : List D} {d : D} (h : RV R .new d v) (e : d.lview = .tup xs) : ∃ a vs, v = .ref a ∧ R.Hz a = some (.tup vs) ∧ RVs R xs vs := by
  have := h.our.lview; rw [e, RV] at this; exact this
end
theorem RVs.length {R : RC} : ∀ {ds : List D} {vs : List V}, RVs R ds vs → vs.length = ds.length
  | [], vs, h => by rw [RVs] at h; rw [h]; rfl
  | d :: ds, vs, h => by
    rw [RVs] at h
    obtain ⟨v, r, e, _, q⟩ := h
    rw [e]; simp [RVs.length q]
theorem RVs.append {R : RC} : ∀ {ds es : List D} {vs ws : List V}, RVs R ds vs → RVs R es ws → RVs R (ds ++ es) (vs ++ ws)
  | [], es, vs, ws, h, h' => by rw [RVs] at h; rw [h]; exact h'
  | d :: ds, es, vs, ws, h, h' => by
    rw [RVs] at h
    obtain ⟨v, r, e, p, q⟩ := h
    rw [e, List.cons_append, RVs]
    exact ⟨v, r ++ ws, rfl, p, RVs.append q h'⟩
theorem RVs.get {R : RC} : ∀ {ds : List D} {vs : List V} {i : Nat} {v : V}, RVs R ds vs → vs[i]? = some v → ∃ d, ds[i]? = some d ∧ RV R .new d v
  | [], vs, i, v, h, e => by rw [RVs] at h; rw [h] at e; simp at e
  | d :: ds, vs, i, v, h, e => by
    rw [RVs] at h
    obtain ⟨w, r, e1, p, q⟩ := h
    rw [e1] at e
    cases i with
    | zero => simp at e; subst e; exact ⟨d, rfl, p⟩
    | succ i => simp at e; obtain ⟨d', e2, p2⟩ := RVs.get q e; exact ⟨d', by simpa using e2, p2⟩
theorem RVs.getD {R : RC} : ∀ {ds : List D} {vs : List V} {i : Nat} {d : D}, RVs R ds vs → ds[i]? = some d → ∃ v, vs[i]? = some v ∧ RV R .new d v
  | [], vs, i, d, h, e => by simp at e
  | d' :: ds, vs, i, d, h, e => by
    rw [RVs] at h
    obtain ⟨w, r, e1, p, q⟩ := h
    rw [e1]
    cases i with
    | zero => simp at e; subst e; exact ⟨w, rfl, p⟩
    | succ i => simp at e; obtain ⟨v, e2, p2⟩ := RVs.getD q e; exact ⟨v, by simpa using e2, p2⟩
/-! ### names and constants -/
section
variable {X : Cx} {C : EC}
/-- a name: an object that the slot owns is frozen -/
def fVar (i : Nat) : SS → Out Res := fun S =>
  match S.dl[i]? with
  | some (.val d) => .ok (.val d) S
  | some (.own o) => .ok (.val o.toD) { S with dl := S.dl.set i (.val o.toD) }
  | _ => .no
def SS.drop (S : SS) (i : Nat) : SS := { S with dl := S.dl.set i .none }
theorem Owns.of_drop {S : SS} {σ : L2.St} {i j : Nat} {b : Addr} (ow : Owns (S.drop i) σ j b) : j ≠ i ∧ Owns S σ j b := by
  obtain ⟨⟨o', q⟩, q2⟩ := ow
  have q : (S.dl.set i Slot.none)[j]? = some (Slot.own o') := q
  by_cases hj : j = i
  · subst hj
    by_cases hl : j < S.dl.length
    · rw [List.getElem?_set_self hl] at q; cases q
    · rw [List.getElem?_eq_none (by simpa using hl)] at q; cases q
  · rw [List.getElem?_set_ne (Ne.symm hj)] at q
    exact ⟨hj, ⟨o', q⟩, q2⟩
/-- a slot forgotten -/
theorem SI.drop {R : RC} {S : SS} {σ : L2.St} {H : Hp} (si : SI R S σ H) (i : Nat) : SI R (S.drop i) σ H where
  len := by simpa [SS.drop] using si.len
  sub0 := si.sub0
  lkz := si.lkz
  l0 := si.l0
  nfz := si.nfz
  z0 := si.z0
  new := si.new
  ntb := si.ntb
  tb := si.tb
  keep := si.keep
  dom := si.dom
  oldd := si.oldd
  val := fun j d q => by
    have q : (S.dl.set i Slot.none)[j]? = some (Slot.val d) := q
    by_cases hj : j = i
    · subst hj
      by_cases hl : j < S.dl.length
      · rw [List.getElem?_set_self hl] at q; cases q
      · rw [List.getElem?_eq_none (by simpa using hl)] at q; cases q
    · rw [List.getElem?_set_ne (Ne.symm hj)] at q; exact si.val j d q
  own := fun j d q => by
    have q : (S.dl.set i Slot.none)[j]? = some (Slot.own d) := q
    by_cases hj : j = i
    · subst hj
      by_cases hl : j < S.dl.length
      · rw [List.getElem?_set_self hl] at q; cases q
      · rw [List.getElem?_eq_none (by simpa using hl)] at q; cases q
    · rw [List.getElem?_set_ne (Ne.symm hj)] at q; exact si.own j d q
  disj := fun j k b h1 h2 => si.disj j k b h1.of_drop.2 h2.of_drop.2
  ref := si.ref
  rlt := si.rlt
  rfr := si.rfr
  rs0 := si.rs0
  rno := fun k a ea j ow => si.rno k a ea j ow.of_drop.2
  rinj := si.rinj
  lbl := si.lbl
/-- a slot's object taken out of it -/
theorem SI.move {R : RC} {S : SS} {σ : L2.St} {H : Hp} {i : Nat} {o : Ob} (si : SI R S σ H) (e : S.dl[i]? = some (Slot.own o)) :
    ∃ v, σ[i]? = some (some v) ∧ SI R (S.drop i) σ H ∧ RR R (S.drop i) σ H (.own o) v := by
  obtain ⟨a, e1, w⟩ := si.own i o e
  exact ⟨.ref a, e1, si.drop i, a, rfl, w, fun j ow => ow.of_drop.1 (si.disj j i a ow.of_drop.2 ⟨⟨o, e⟩, e1⟩), fun k ea => si.rno k a ea i ⟨⟨o, e⟩, e1⟩⟩
theorem SI.freezeSlot {R : RC} {S : SS} {σ : L2.St} {H : Hp} {i : Nat} {o : Ob} (si : SI R S σ H) (e : S.dl[i]? = some (Slot.own o)) :
    ∃ R' v, RLe R R' ∧ σ[i]? = some (some v) ∧ SI R' { S with dl := S.dl.set i (.val o.toD) } σ H ∧ RV R' .new o.toD v := by
  obtain ⟨v, e1, s1, rr⟩ := si.move e
  obtain ⟨R', le, s2, rv⟩ := RR.fz s1 rr
  have hl : i < S.dl.length := by
    by_cases q : i < S.dl.length
    · exact q
    · rw [List.getElem?_eq_none (by simpa using q)] at e; cases e
  have e1' : σ.set i (some v) = σ := by
    apply List.ext_getElem?
    intro j
    by_cases hj : j = i
    · subst hj; rw [List.getElem?_set_self (by rw [← si.len]; exact hl), e1]
    · rw [List.getElem?_set_ne (Ne.symm hj)]
  refine ⟨R', v, le, e1, ?_, rv⟩
  have s3 := s2.put (i := i) (r := .val o.toD) (v := v) rv
  have ee : (S.drop i).put i (.val o.toD) = { S with dl := S.dl.set i (.val o.toD) } := by
    simp [SS.put, SS.drop, Res.slot]
  rw [ee, e1'] at s3
  exact s3
theorem pe_fVar {i : Nat} {x : Str} {pos : Pos} (hN : X.N[i]? = some x) (hv : Vis X.env.scope x) (hd : (x == ("__debug__" : Str)) = false) (hcd : (x == ("__classdict__" : Str)) = false) : PE X (.Name x pos) (tE C (fVar i)) := by
  refine ⟨fun pins s σ H Q I h => ?_⟩
  obtain ⟨R, S, b, si, p⟩ := h
  unfold fVar at p
  cases e : S.dl[i]? with
  | none => rw [e] at p; exact p.elim
  | some sl =>
    rw [e] at p
    cases sl with
    | none => exact p.elim
    | val d =>
      obtain ⟨v, ev, rv⟩ := si.val i d e
      exact (pe_var hN hv hd hcd).run pins s σ H Q I ⟨v, ev, p R H v (RLe.refl R) si rv⟩
    | own o =>
      obtain ⟨R', v, le, ev, si', rv⟩ := si.freezeSlot e
      exact (pe_var hN hv hd hcd).run pins s σ H Q I ⟨v, ev, p R' H v le si' rv⟩
def fCon (d : D) : SS → Out Res := fun S => .ok (.val d) S
theorem fCon_run {d : D} {σ : L2.St} {H : Hp} {Q : VK} {v : V} (h : tE C (fCon d) σ H Q) (r : ∀ R, RV R .new d v) : Q v H := by
  obtain ⟨R, S, b, si, p⟩ := h
  exact p R H v (RLe.refl R) si (r R)
theorem pe_fInt {i : Int} {j pos} : PE X (.Constant (.int i) j pos) (tE C (fCon (.int i))) := ⟨fun pins s σ H Q I h => pe_int.run pins s σ H Q I (fCon_run (v := .int i) h fun R => by rw [RV])⟩
theorem pe_fBl {i : Bool} {j pos} : PE X (.Constant (.bool i) j pos) (tE C (fCon (.bl i))) := ⟨fun pins s σ H Q I h => pe_bl.run pins s σ H Q I (fCon_run (v := .bl i) h fun R => by rw [RV])⟩
theorem pe_fNon {j pos} : PE X (.Constant .none j pos) (tE C (fCon .non)) := ⟨fun pins s σ H Q I h => pe_non.run pins s σ H Q I (fCon_run (v := .non) h fun R => by rw [RV])⟩
theorem pe_fStr {x : Str} {j pos} (hx : x.length ≤ sizeLine) : PE X (.Constant (.str x) j pos) (tE C (fCon (.str x))) := ⟨fun pins s σ H Q I h => pe_str.run pins s σ H Q I (fCon_run (v := .str x) h fun R => by rw [RV]; exact ⟨rfl, hx⟩)⟩
end
end Ev
namespace Ev
open PySem PySem.Spec PyProof.Rows L2
/-! ## 4. operators -/
def D.isRo : D → Bool
  | .lab _ d => d.isRo
  | .ro _ => true
  | _ => false
theorem D.lview_of : ∀ {d : D}, d.isRo = false → d.lview = d.view
  | .lab n d, h => D.lview_of (d := d) h
  | .ro _, h => Bool.noConfusion h
  | .non, _ | .bl _, _ | .int _, _ | .str _, _ | .lst _, _ | .tup _, _ | .dct _, _ | .fn _, _ | .ref _, _ | .clm _, _ | .clo _ _, _ => rfl
/-! ### data as the library's data -/
mutual
def D.py : D → Option PyData
  | .non => some .none
  | .bl b => some (.bool b)
  | .int i => some (.int i)
  | .str s => some (.str s)
  | .lst xs => (pyAll xs).map .list
  | .tup xs => (pyAll xs).map .tuple
  | .lab _ d => d.py
  | .ro d => d.py
  | _ => none
def pyAll : List D → Option (List PyData)
  | [] => some []
  | d :: ds => match d.py, pyAll ds with
    | some p, some ps => some (p :: ps)
    | _, _ => none
end
mutual
theorem RV.dp {R : RC} {H : Hp} (hs : Sub R.Hz H) : ∀ {d : D} {c : Md} {v : V} {p : PyData}, RV R c d v → d.py = some p → Dp R.K H v p
  | .non, c, v, p, h, e => by rw [RV] at h; rw [D.py] at e; cases e; subst h; exact .non
  | .bl b, c, v, p, h, e => by rw [RV] at h; rw [D.py] at e; cases e; subst h; exact .bl b
  | .int b, c, v, p, h, e => by rw [RV] at h; rw [D.py] at e; cases e; subst h; exact .int b
  | .str b, c, v, p, h, e => by rw [RV] at h; rw [D.py] at e; cases e; rw [h.1]; exact .str b
  | .lst xs, c, v, p, h, e => by
    have h := h.weak
    rw [RV] at h
    obtain ⟨a, vs, ev, q, r⟩ := h
    rw [D.py] at e
    cases ep : pyAll xs with
    | none => rw [ep] at e; cases e
    | some ps => rw [ep] at e; cases e; subst ev; exact .lst (hs.sqL q) (RVs.dp hs r ep)
  | .tup xs, c, v, p, h, e => by
    have h := h.weak
    rw [RV] at h
    obtain ⟨a, vs, ev, q, r⟩ := h
    rw [D.py] at e
    cases ep : pyAll xs with
    | none => rw [ep] at e; cases e
    | some ps => rw [ep] at e; cases e; subst ev; exact .tup (hs.sqT q) (RVs.dp hs r ep)
  | .lab n d, c, v, p, h, e => by rw [RV] at h; rw [D.py] at e; exact RV.dp hs (d := d) h.2 e
  | .ro d, c, v, p, h, e => by rw [RV] at h; rw [D.py] at e; exact RV.dp hs (d := d) h e
  | .dct _, c, v, p, h, e => by rw [D.py] at e; cases e; all_goals (intros; rename_i z; cases z)
  | .fn _, c, v, p, h, e => by rw [D.py] at e; cases e; all_goals (intros; rename_i z; cases z)
  | .ref _, c, v, p, h, e => by rw [D.py] at e; cases e; all_goals (intros; rename_i z; cases z)
  | .clm _, c, v, p, h, e => by rw [D.py] at e; cases e; all_goals (intros; rename_i z; cases z)
  | .clo _ _, c, v, p, h, e => by rw [D.py] at e; cases e; all_goals (intros; rename_i z; cases z)
theorem RVs.dp {R : RC} {H : Hp} (hs : Sub R.Hz H) : ∀ {ds : List D} {vs : List V} {ps : List PyData}, RVs R ds vs → pyAll ds = some ps → DpAll R.K H vs ps
  | [], vs, ps, h, e => by rw [RVs] at h; rw [pyAll] at e; cases e; subst h; exact .nil
  | d :: ds, vs, ps, h, e => by
    rw [RVs] at h
    obtain ⟨v, r, ev, p, q⟩ := h
    rw [pyAll] at e
    cases e1 : d.py with
    | none => rw [e1] at e; cases e
    | some p1 =>
      cases e2 : pyAll ds with
      | none => rw [e1, e2] at e; cases e
      | some p2 => rw [e1, e2] at e; cases e; subst ev; exact .cons (RV.dp hs p e1) (RVs.dp hs q e2)
end
/-! ### binary operators -/
def smallMul (i j : Int) : Bool := decide (-(2 ^ 64) < i ∧ i < 2 ^ 64) || decide (-(2 ^ 64) < j ∧ j < 2 ^ 64)
/-- a + b and so on, by the operands without their labels -/
def bop (o : Operator) (a b : D) : Option Res :=
  match o, a.view, b.view with
  | .Add, .int i, .int j => some (.val (.int (i + j)))
  | .Add, .str x, .str y => if x.length + y.length ≤ sizeLine then some (.val (.str (x ++ y))) else none
  | .Add, .lst xs, .lst ys => if (a.isRo || b.isRo) = false ∧ xs.length + ys.length ≤ sizeLine then some (.own (.lst (xs ++ ys))) else none
  | .Add, .tup xs, .tup ys => if xs.length + ys.length ≤ sizeLine then some (if xs.isEmpty then .val b else if ys.isEmpty then .val a else .val (.tup (xs ++ ys))) else none
  | .Sub, .int i, .int j => some (.val (.int (i - j)))
  | .Mult, .int i, .int j => if smallMul i j then some (.val (.int (i * j))) else none
  | .Mult, .lst xs, .int k => if a.isRo = false ∧ -(2 ^ 63) ≤ k ∧ k < 2 ^ 63 ∧ xs.length * k.toNat ≤ sizeLine then some (.own (.lst (List.replicate k.toNat xs).flatten)) else none
  | .Mod, .int i, .int j => if 0 < j then some (.val (.int (i % j))) else none
  | .FloorDiv, .int i, .int j => if 0 < j ∧ j.natAbs.log2 < 9000 then some (.val (.int (i / j))) else none
  | .Pow, .int i, .int j => if 0 ≤ j ∧ j ≤ 1000000 ∧ i.natAbs < 2 ^ 64 then some (.val (.int (i ^ j.toNat))) else none
  | _, _, _ => none
/-- what an operation on values is to show -/
def Ok2 (X : Cx) (C : EC) (f : Value → Value → Sem Value) (g : D → D → Option Res) : Prop :=
  ∀ (pins : List (Addr × Obj)) (s : Shared) (σ : L2.St) (H : Hp) (R : RC) (S : SS) (a b : D) (x y : V) (v u : Value) (r : Res) (Q : VK), Inv X pins σ H s → Base C R → SI R S σ H → RV R .new a x → RV R .new b y → RelV x v → RelV y u → g a b = some r →
    (∀ R' H' z, RLe R R' → SI R' S σ H' → RR R' S σ H' r z → Q z H') → wpAny (model X.prog X.w) X.A (f v u) (EP X pins σ Q) X.xe s
theorem RVs.replicate {R : RC} {ds : List D} {vs : List V} (h : RVs R ds vs) : ∀ k : Nat, RVs R (List.replicate k ds).flatten (List.replicate k vs).flatten
  | 0 => by simp [RVs]
  | k + 1 => by
    rw [List.replicate_succ, List.replicate_succ, List.flatten_cons, List.flatten_cons]
    exact RVs.append h (RVs.replicate h k)
theorem str_app_len (x y : Str) : (x ++ y).length = x.length + y.length := by
  show (x.cps ++ y.cps).size = _
  simp [Str.length]
theorem ok_bop {X : Cx} {C : EC} (hK : X.K = C.G.K) {o : Operator} : Ok2 X C (binaryOp o) (bop o) := by
  intro pins s σ H R S a b x y v u r Q I hb si ra rb rx ry e q
  have eK : R.K = X.K := hb.K.trans hK.symm
  unfold bop at e
  split at e
  · rename_i i j ea eb
    cases e
    exact op_add pins s σ H x y v u Q I rx ry ⟨i, j, ra.int_ ea, rb.int_ eb, q R H _ (RLe.refl R) si (by show RV _ _ _ _; rw [RV])⟩
  · rename_i i j ea eb
    split at e
    · rename_i hl
      cases e
      exact op_add_str pins s σ H x y v u Q I rx ry ⟨i, j, (ra.str_ ea).1, (rb.str_ eb).1, hl, q R H _ (RLe.refl R) si (by show RV _ _ _ _; rw [RV]; exact ⟨rfl, by rw [str_app_len]; exact hl⟩)⟩
    · cases e
  · rename_i xs ys ea eb
    split at e
    · rename_i hl
      cases e
      obtain ⟨hr, hl⟩ := hl
      rw [Bool.or_eq_false_iff] at hr
      obtain ⟨p, vs, e1, h1, r1⟩ := ra.lstO ((D.lview_of hr.1).trans ea)
      obtain ⟨p2, ws, e2, h2, r2⟩ := rb.lstO ((D.lview_of hr.2).trans eb)
      refine op_cat pins s σ H x y v u Q I rx ry ⟨p, p2, vs, ws, e1, e2, si.sub.at h1, si.sub.at h2, by rw [r1.length, r2.length]; exact hl, fun n hn => ?_⟩
      obtain ⟨s1, s2⟩ := si.own_lst hn (r1.append r2)
      exact q R _ _ (RLe.refl R) s1 s2
    · cases e
  · rename_i xs ys ea eb
    split at e
    · rename_i hl
      cases e
      obtain ⟨p, vs, e1, h1, r1⟩ := ra.tup_ ea
      obtain ⟨p2, ws, e2, h2, r2⟩ := rb.tup_ eb
      rw [eK] at h1 h2
      have n1 : vs = [] ↔ xs.isEmpty = true := by
        have := r1.length
        cases xs <;> cases vs <;> simp_all
      have n2 : ws = [] ↔ ys.isEmpty = true := by
        have := r2.length
        cases ys <;> cases ws <;> simp_all
      refine op_catA pins s σ H x y v u Q I rx ry ⟨p, p2, vs, ws, e1, e2, si.sub.sqT h1, si.sub.sqT h2, by rw [r1.length, r2.length]; exact hl, fun z => ?_, fun z z2 => ?_, fun z z2 n hn => ?_⟩
      · rw [if_pos (n1.mp z)] at q
        rw [← e2]
        exact q R H _ (RLe.refl R) si rb
      · rw [if_neg (fun w => z (n1.mpr w)), if_pos (n2.mp z2)] at q
        rw [← e1]
        exact q R H _ (RLe.refl R) si ra
      · rw [if_neg (fun w => z (n1.mpr w)), if_neg (fun w => z2 (n2.mpr w))] at q
        obtain ⟨R', l, s1, s2⟩ := si.tup hn (r1.append r2)
        exact q R' _ _ l s1 s2
    · cases e
  · rename_i i j ea eb
    cases e
    exact op_sub pins s σ H x y v u Q I rx ry ⟨i, j, ra.int_ ea, rb.int_ eb, q R H _ (RLe.refl R) si (by show RV _ _ _ _; rw [RV])⟩
  · rename_i i j ea eb
    split at e
    · rename_i hl
      cases e
      unfold smallMul at hl
      rw [Bool.or_eq_true, decide_eq_true_eq, decide_eq_true_eq] at hl
      exact op_mul pins s σ H x y v u Q I rx ry ⟨i, j, ra.int_ ea, rb.int_ eb, hl, q R H _ (RLe.refl R) si (by show RV _ _ _ _; rw [RV])⟩
    · cases e
  · rename_i xs k ea eb
    split at e
    · rename_i hl
      cases e
      obtain ⟨hr, h1, h2, h3⟩ := hl
      obtain ⟨p, vs, e1, hh, r1⟩ := ra.lstO ((D.lview_of hr).trans ea)
      refine op_rep pins s σ H x y v u Q I rx ry ⟨p, k, vs, e1, rb.int_ eb, si.sub.at hh, h1, h2, by rw [r1.length]; exact h3, fun n hn => ?_⟩
      obtain ⟨s1, s2⟩ := si.own_lst hn (r1.replicate k.toNat)
      exact q R _ _ (RLe.refl R) s1 s2
    · cases e
  · rename_i i j ea eb
    split at e
    · rename_i hl
      cases e
      exact op_mod pins s σ H x y v u Q I rx ry ⟨i, j, ra.int_ ea, rb.int_ eb, hl, q R H _ (RLe.refl R) si (by show RV _ _ _ _; rw [RV])⟩
    · cases e
  · rename_i i j ea eb
    split at e
    · rename_i hl
      cases e
      exact op_fdivW pins s σ H x y v u Q I rx ry ⟨i, j, ra.int_ ea, rb.int_ eb, hl, q R H _ (RLe.refl R) si (by show RV _ _ _ _; rw [RV])⟩
    · cases e
  · rename_i i j ea eb
    split at e
    · rename_i hl
      cases e
      exact op_pow pins s σ H x y v u Q I rx ry ⟨i, j, ra.int_ ea, rb.int_ eb, hl, q R H _ (RLe.refl R) si (by show RV _ _ _ _; rw [RV])⟩
    · cases e
  · cases e
/-- an operation of two operands, both frozen -/
def fOp2 (g : D → D → Option Res) (fa fb : SS → Out D) : SS → Out Res := fun S =>
  (fa S).bind fun a S1 => (fb S1).bind fun b S2 => match g a b with
    | some r => .ok r S2
    | none => .no
/-- what the two operands bring -/
def Two (C : EC) (σ : L2.St) (g : D → D → Option Res) (Q : VK) (x y : V) (H : Hp) : Prop :=
  ∃ R S a b r, Base C R ∧ SI R S σ H ∧ RV R .new a x ∧ RV R .new b y ∧ g a b = some r ∧ ∀ R' H' z, RLe R R' → SI R' S σ H' → RR R' S σ H' r z → Q z H'
theorem two_of {C : EC} {σ : L2.St} {H : Hp} {g : D → D → Option Res} {fa fb : SS → Out D} {Q : VK} (h : tE C (fOp2 g fa fb) σ H Q) :
    tD C fa σ H fun x H1 => tD C fb σ H1 fun y H2 => Two C σ g Q x y H2 := by
  refine (seqT' (rel := rV) h).mono fun x H1 ⟨R1, S1, a, b1, s1, ra, h1⟩ => ?_
  refine (seqT (rel := rV) b1 s1 h1).mono fun y H2 ⟨R2, S2, b, l2, b2, s2, rb, h2⟩ => ?_
  cases e : g a b with
  | none => rw [e] at h2; exact h2.elim
  | some r => rw [e] at h2; exact ⟨R2, S2, a, b, r, b2, s2, RV.mono l2 ra, rb, e, fun R' H' z l si rr => h2 R' H' z l si rr⟩
section
variable {X : Cx} {C : EC} {a b : Expr} {fa fb : SS → Out D} {pos : Pos}
theorem pe_fBin (hK : X.K = C.G.K) {o : Operator} (ha : PE X a (tD C fa)) (hb : PE X b (tD C fb)) : PE X (.BinOp a o b pos) (tE C (fOp2 (bop o) fa fb)) := by
  refine ⟨fun pins s σ H Q I h => ?_⟩
  exact wpAny_BinOp (binT ha hb I (two_of h) fun v u s2 x y H2 I2 rx ry ⟨R, S, da, db, r, hb, si, ra, rb, e, q⟩ => ok_bop hK pins s2 σ H2 R S da db x y v u r Q I2 hb si ra rb rx ry e q)
end
/-! ### comparisons -/
def sLt (x y : Str) : Bool := decide (x.cps.toList < y.cps.toList)
def strIn (x z : Str) : Bool := !(Builtin.Str.occurrences z x 0 z.length 1).isEmpty
def deq (a b : D) : Option Bool :=
  match a.py, b.py with
  | some p, some q => if SeqAt.shaped p && SeqAt.shaped q then some (PyData.eqv p q) else none
  | _, _ => none
def D.atom (d : D) : Option Key :=
  match d.view with
  | .int i => some (.inl i)
  | .str s => some (.inr s)
  | _ => none
def atoms : List D → Option (List Key)
  | [] => some []
  | d :: ds => match d.atom, atoms ds with
    | some k, some ks => some (k :: ks)
    | _, _ => none
def D.key (d : D) : Option DK :=
  match d.view with
  | .int i => some (.k (.inl i))
  | .str s => some (.k (.inr s))
  | .tup xs => if d.isRo then none else (atoms xs).map .t
  | _ => none
def dlook (kvs : List (DK × D)) (k : DK) : Option D := (kvs.find? fun kv => decide (kv.1 = k)).map (·.2)
def DK.isK : DK → Bool
  | .k _ => true
  | .t _ => false
/-- the keys are of k's kind -/
def alike (kvs : List (DK × D)) (k : DK) : Bool := kvs.all fun kv => kv.1.isK == k.isK
def D.flat (d : D) : Bool :=
  match d.view with
  | .non => true
  | .bl _ => true
  | .int _ => true
  | .str _ => true
  | _ => false
def D.flatEq (a b : D) : Bool :=
  match a.view, b.view with
  | .non, .non => true
  | .bl a, .bl b => a == b
  | .bl a, .int b => (if a then 1 else 0) == b
  | .int a, .bl b => a == (if b then 1 else 0)
  | .int a, .int b => a == b
  | .str a, .str b => a == b
  | _, _ => false
/-- x in c -/
def dIn (a b : D) : Option Bool :=
  match b.view with
  | .str z => match a.view with
    | .str x => some (strIn x z)
    | _ => none
  | .tup xs => if a.flat && xs.all D.flat then some (xs.any fun y => D.flatEq y a) else none
  | .lst xs => if a.flat && xs.all D.flat then some (xs.any fun y => D.flatEq y a) else match a.py, pyAll xs with
    | some p, some ps => if SeqAt.shaped p && SeqAt.shaped (.list ps) then some (ps.any fun z => PyData.eqv z p) else none
    | _, _ => none
  | .dct kvs => match a.key with
    | some k => if alike kvs k then some (dlook kvs k).isSome else none
    | none => none
  | _ => none
def D.isNon : D → Bool
  | .non => true
  | .lab _ d => d.isNon
  | .ro d => d.isNon
  | _ => false
def cop (o : CmpOp) (a b : D) : Option Bool :=
  match o with
  | .Eq => deq a b
  | .NotEq => (deq a b).map (!·)
  | .Lt => match a.view, b.view with
    | .int i, .int j => some (decide (i < j))
    | .str x, .str y => some (sLt x y)
    | _, _ => none
  | .LtE => match a.view, b.view with
    | .int i, .int j => some (decide (i ≤ j))
    | .str x, .str y => some (!sLt y x)
    | _, _ => none
  | .Gt => match a.view, b.view with
    | .int i, .int j => some (decide (j < i))
    | .str x, .str y => some (sLt y x)
    | _, _ => none
  | .GtE => match a.view, b.view with
    | .int i, .int j => some (decide (j ≤ i))
    | .str x, .str y => some (!sLt x y)
    | _, _ => none
  | .In => dIn a b
  | .NotIn => (dIn a b).map (!·)
  | .Is => match b.view with
    | .non => some a.isNon
    | .bl y => match a.view with
      | .bl x => some (x == y)
      | _ => none
    | _ => none
  | .IsNot => match b.view with
    | .non => some (!a.isNon)
    | .bl y => match a.view with
      | .bl x => some (!(x == y))
      | _ => none
    | _ => none
end Ev
namespace Ev
open PySem PySem.Spec PyProof.Rows L2
/-! ## 5. comparisons -/
section
variable {X : Cx} {pins : List (Addr × Obj)} {σ : L2.St} {H : Hp} {s : Shared} {a : Addr}
/-- an empty dict is one of either kind -/
theorem inv_dT0 (I : Inv X pins σ H s) (e : H a = some (.dK [])) : Inv X pins σ (upd H a (.dT [])) s := by
  obtain ⟨z, hd, vs, rel, o, es, ep, ho, hx, hdt, _, hp, _⟩ := I.hok a _ e
  cases rel
  have he : es.toList = [] := by
    generalize es.toList = l at hp
    cases hp
    rfl
  exact I.write (x := a) (e := a) (h' := s.heap) (t' := s.toks) (by rw [e]; trivial) (.inl rfl) (fun b u _ q => q) ⟨o, ho⟩ ⟨z, hd, [], .nil, o, es, ep, ho, hx, hdt, by simpa using he, List.nodup_nil⟩
theorem inv_dK0 (I : Inv X pins σ H s) (e : H a = some (.dT [])) : Inv X pins σ (upd H a (.dK [])) s := by
  obtain ⟨z, hd, xs, rel, o, es, ep, ho, hx, hdt, hes, _⟩ := I.hok a _ e
  cases rel
  have he : es = #[] := by
    obtain ⟨l⟩ := es
    simp at hes
    rw [hes]
  subst he
  refine I.write (x := a) (e := a) (h' := s.heap) (t' := s.toks) (by rw [e]; trivial) (.inl rfl) (fun b u _ q => q) ⟨o, ho⟩ ⟨z, hd, [], .nil, o, _, ep, ho, hx, hdt, fun e he => absurd he (by simp), .nil, List.nodup_nil⟩
theorem upd_back {u w : HO} (e : H a = some u) : upd (upd H a w) a u = H := by
  funext b
  by_cases hb : b = a
  · subst hb; rw [upd_same, e]
  · rw [upd_ne hb, upd_ne hb]
end
/-! ### keys -/
theorem key_int {R : RC} {d : D} {c : Md} {v : V} {i : Int} (h : RV R c d v) (e : d.view = .int i) : v = kV (.inl i) := h.int_ e
theorem atom_rv {R : RC} {d : D} {c : Md} {v : V} {k : Key} (h : RV R c d v) (e : d.atom = some k) : v = kV k := by
  unfold D.atom at e
  split at e
  · rename_i i ei; cases e; exact h.int_ ei
  · rename_i i ei; cases e; exact (h.str_ ei).1
  · cases e
theorem atoms_rv {R : RC} : ∀ {ds : List D} {vs : List V} {ks : List Key}, RVs R ds vs → atoms ds = some ks → vs = ks.map kV
  | [], vs, ks, h, e => by rw [RVs] at h; rw [atoms] at e; cases e; rw [h]; rfl
  | d :: ds, vs, ks, h, e => by
    rw [RVs] at h
    obtain ⟨v, r, ev, p, q⟩ := h
    rw [atoms] at e
    cases e1 : d.atom with
    | none => rw [e1] at e; cases e
    | some k =>
      cases e2 : atoms ds with
      | none => rw [e1, e2] at e; cases e
      | some l =>
        rw [e1, e2] at e
        cases e
        rw [ev, atom_rv p e1, atoms_rv q e2]
        rfl
/-- the value of a key -/
def keyV (R : RC) (k : DK) (v : V) : Prop :=
  match k with
  | .k x => v = kV x
  | .t xs => ∃ b, v = .ref b ∧ R.Hz b = some (.tup (xs.map kV))
theorem key_rv {R : RC} {d : D} {v : V} {k : DK} (h : RV R .new d v) (e : d.key = some k) : keyV R k v := by
  unfold D.key at e
  split at e
  · rename_i i ei; cases e; exact h.int_ ei
  · rename_i i ei; cases e; exact (h.str_ ei).1
  · rename_i xs ex
    split at e
    · cases e
    · rename_i hr
      cases e1 : atoms xs with
      | none => rw [e1] at e; cases e
      | some ks =>
        rw [e1] at e
        cases e
        obtain ⟨a, vs, ev, hz, rs⟩ := h.tupO ((D.lview_of (by simpa using hr)).trans ex)
        rw [atoms_rv rs e1] at hz
        exact ⟨a, ev, hz⟩
  · cases e
theorem RVk.look {R : RC} : ∀ {kvs : List (DK × D)} {l : List (Key × V)}, RVk R kvs l → ∀ k : Key, match dlook kvs (.k k) with
    | some d => ∃ v, valV l k = some v ∧ RV R .new d v
    | none => valV l k = none
  | [], l, h, k => by rw [RVk] at h; rw [h]; rfl
  | (k', d) :: kvs, l, h, k => by
    rw [RVk] at h
    obtain ⟨v, x, r, e1, ⟨e2, _⟩, p, q⟩ := h
    subst e1 e2
    by_cases hk : x = k
    · subst hk
      have e : dlook ((.k x, d) :: kvs) (.k x) = some d := by simp [dlook]
      rw [e]
      exact ⟨v, valV_pos rfl, p⟩
    · have e : dlook ((.k x, d) :: kvs) (.k k) = dlook kvs (.k k) := by simp [dlook, hk]
      rw [e, valV_neg (by exact hk)]
      exact RVk.look q k
theorem RVt.look {R : RC} : ∀ {kvs : List (DK × D)} {l : List (List Key × V)}, RVt R kvs l → ∀ k : List Key, match dlook kvs (.t k) with
    | some d => ∃ v, valV l k = some v ∧ RV R .new d v
    | none => valV l k = none
  | [], l, h, k => by rw [RVt] at h; rw [h]; rfl
  | (k', d) :: kvs, l, h, k => by
    rw [RVt] at h
    obtain ⟨v, x, r, e1, e2, p, q⟩ := h
    subst e1 e2
    by_cases hk : x = k
    · subst hk
      have e : dlook ((.t x, d) :: kvs) (.t x) = some d := by simp [dlook]
      rw [e]
      exact ⟨v, valV_pos rfl, p⟩
    · have e : dlook ((.t x, d) :: kvs) (.t k) = dlook kvs (.t k) := by simp [dlook, hk]
      rw [e, valV_neg (by exact hk)]
      exact RVt.look q k
theorem RVk.alike_t {R : RC} {kvs : List (DK × D)} {l : List (Key × V)} {ks : List Key} (h : RVk R kvs l) (a : alike kvs (.t ks) = true) : kvs = [] ∧ l = [] := by
  cases kvs with
  | nil => rw [RVk] at h; exact ⟨rfl, h⟩
  | cons p kvs =>
    obtain ⟨k, d⟩ := p
    rw [RVk] at h
    obtain ⟨v, x, r, e1, ⟨e2, _⟩, _, _⟩ := h
    subst e2
    simp [alike, DK.isK] at a
theorem RVt.alike_k {R : RC} {kvs : List (DK × D)} {l : List (List Key × V)} {ks : Key} (h : RVt R kvs l) (a : alike kvs (.k ks) = true) : kvs = [] ∧ l = [] := by
  cases kvs with
  | nil => rw [RVt] at h; exact ⟨rfl, h⟩
  | cons p kvs =>
    obtain ⟨k, d⟩ := p
    rw [RVt] at h
    obtain ⟨v, x, r, e1, e2, _, _⟩ := h
    subst e2
    simp [alike, DK.isK] at a
/-- what a dict holds at a key of its kind: the heap as it is, or with the empty dict told as one of the other kind -/
theorem dget_of {X : Cx} {pins : List (Addr × Obj)} {σ : L2.St} {H : Hp} {s : Shared} {R : RC} {kvs : List (DK × D)} {k : DK} {a : Addr} {y : V} (I : Inv X pins σ H s) (hs : Sub R.Hz H)
    (h : (∃ l, R.Hz a = some (.dK l) ∧ RVk R kvs l) ∨ ∃ l, R.Hz a = some (.dT l) ∧ RVt R kvs l) (ky : keyV R k y) (al : alike kvs k = true) :
    ∃ H1 o, Inv X pins σ H1 s ∧ DGet H1 a y o ∧ (∀ s', Inv X pins σ H1 s' → Inv X pins σ H s') ∧ match dlook kvs k with
      | some d => ∃ v, o = some v ∧ RV R .new d v
      | none => o = none := by
  rcases h with ⟨l, hz, r⟩ | ⟨l, hz, r⟩
  · cases k with
    | k x =>
      have ky : y = kV x := ky
      subst ky
      refine ⟨H, valV l x, I, .inl ⟨l, x, hs.rd hz, rfl, rfl⟩, fun s' q => q, ?_⟩
      have := r.look x
      cases e : dlook kvs (.k x) with
      | none => rw [e] at this; exact this
      | some d => rw [e] at this; exact this
    | t xs =>
      obtain ⟨b, e, hb⟩ := ky
      subst e
      obtain ⟨e1, e2⟩ := r.alike_t al
      subst e1 e2
      have hab : b ≠ a := ne_of hb hz (by intro z; cases z)
      refine ⟨upd H a (.dT []), none, inv_dT0 I (hs.at hz), DGet.t (kvs := []) upd_same (by rw [upd_ne hab]; exact hs.at hb), fun s' q => ?_, rfl⟩
      have := inv_dK0 q upd_same
      rw [upd_back (hs.at hz)] at this
      exact this
  · cases k with
    | t xs =>
      obtain ⟨b, e, hb⟩ := ky
      subst e
      refine ⟨H, valV l xs, I, .inr ⟨l, xs, b, hs.rd hz, rfl, hs.at hb, rfl⟩, fun s' q => q, ?_⟩
      have := r.look xs
      cases e : dlook kvs (.t xs) with
      | none => rw [e] at this; exact this
      | some d => rw [e] at this; exact this
    | k x =>
      have ky : y = kV x := ky
      subst ky
      obtain ⟨e1, e2⟩ := r.alike_k al
      subst e1 e2
      refine ⟨upd H a (.dK []), none, inv_dK0 I (hs.at hz), DGet.k (kvs := []) upd_same, fun s' q => ?_, rfl⟩
      have := inv_dT0 q upd_same
      rw [upd_back (hs.at hz)] at this
      exact this
/-! ### flat values -/
theorem flat_rv {R : RC} {d : D} {c : Md} {v : V} (h : RV R c d v) (e : d.flat = true) : flatV v = true := by
  unfold D.flat at e
  split at e
  · rename_i ei; rw [h.non_ ei]; rfl
  · rename_i b ei; rw [h.bl_ ei]; rfl
  · rename_i b ei; rw [h.int_ ei]; rfl
  · rename_i b ei; rw [(h.str_ ei).1]; rfl
  · cases e
theorem flats_rv {R : RC} : ∀ {ds : List D} {vs : List V}, RVs R ds vs → ds.all D.flat = true → vs.all flatV = true
  | [], vs, h, e => by rw [RVs] at h; rw [h]; rfl
  | d :: ds, vs, h, e => by
    rw [RVs] at h
    obtain ⟨v, r, ev, p, q⟩ := h
    rw [List.all_cons, Bool.and_eq_true] at e
    rw [ev, List.all_cons, flat_rv p e.1, flats_rv q e.2]; rfl
theorem flatEq_rv {R : RC} {a b : D} {c c' : Md} {x y : V} (ha : RV R c a x) (hb : RV R c' b y) (fa : a.flat = true) (fb : b.flat = true) : eqV x y = a.flatEq b := by
  unfold D.flatEq
  unfold D.flat at fa fb
  split at fa
  · rename_i ei; rw [ha.non_ ei, ei]
    split at fb
    · rename_i ej; rw [hb.non_ ej, ej]; rfl
    · rename_i b ej; rw [hb.bl_ ej, ej]; rfl
    · rename_i b ej; rw [hb.int_ ej, ej]; rfl
    · rename_i b ej; rw [(hb.str_ ej).1, ej]; rfl
    · cases fb
  · rename_i b ei; rw [ha.bl_ ei, ei]
    split at fb
    · rename_i ej; rw [hb.non_ ej, ej]; rfl
    · rename_i b ej; rw [hb.bl_ ej, ej]; rfl
    · rename_i b ej; rw [hb.int_ ej, ej]; rfl
    · rename_i b ej; rw [(hb.str_ ej).1, ej]; rfl
    · cases fb
  · rename_i b ei; rw [ha.int_ ei, ei]
    split at fb
    · rename_i ej; rw [hb.non_ ej, ej]; rfl
    · rename_i b ej; rw [hb.bl_ ej, ej]; rfl
    · rename_i b ej; rw [hb.int_ ej, ej]; rfl
    · rename_i b ej; rw [(hb.str_ ej).1, ej]; rfl
    · cases fb
  · rename_i b ei; rw [(ha.str_ ei).1, ei]
    split at fb
    · rename_i ej; rw [hb.non_ ej, ej]; rfl
    · rename_i b ej; rw [hb.bl_ ej, ej]; rfl
    · rename_i b ej; rw [hb.int_ ej, ej]; rfl
    · rename_i b ej; rw [(hb.str_ ej).1, ej]; rfl
    · cases fb
  · cases fa
theorem flatAny_rv {R : RC} {a : D} {c : Md} {x : V} (ha : RV R c a x) (fa : a.flat = true) : ∀ {ds : List D} {vs : List V}, RVs R ds vs → ds.all D.flat = true → inV x vs = ds.any fun y => D.flatEq y a
  | [], vs, h, e => by rw [RVs] at h; rw [h]; rfl
  | d :: ds, vs, h, e => by
    rw [RVs] at h
    obtain ⟨v, r, ev, p, q⟩ := h
    rw [List.all_cons, Bool.and_eq_true] at e
    have ih := flatAny_rv ha fa q e.2
    unfold inV at ih ⊢
    rw [ev, List.any_cons, List.any_cons, flatEq_rv p ha e.1 fa, ih]
theorem RV.isNon {R : RC} : ∀ {d : D} {c : Md} {v : V}, RV R c d v → decide (v = V.non) = d.isNon
  | .lab n d, c, v, h => by rw [RV] at h; exact RV.isNon (d := d) h.2
  | .ro d, c, v, h => by rw [RV] at h; exact RV.isNon (d := d) h
  | .non, c, v, h => by rw [RV] at h; subst h; rfl
  | .bl b, c, v, h => by rw [RV] at h; subst h; rfl
  | .int b, c, v, h => by rw [RV] at h; subst h; rfl
  | .str b, c, v, h => by rw [RV] at h; obtain ⟨h, _⟩ := h; subst h; rfl
  | .lst b, c, v, h => by rw [RV] at h; obtain ⟨_, _, h, _⟩ := h; subst h; rfl
  | .tup b, c, v, h => by rw [RV] at h; obtain ⟨_, _, h, _⟩ := h; subst h; rfl
  | .dct b, c, v, h => by rw [RV] at h; obtain ⟨_, h, _⟩ := h; subst h; rfl
  | .fn b, c, v, h => by rw [RV] at h; subst h; rfl
  | .ref _, c, v, h => by rw [RV] at h; obtain ⟨_, h, _⟩ := h; subst h; rfl
  | .clm b, c, v, h => by rw [RV] at h; obtain ⟨_, _, h, _⟩ := h; subst h; rfl
  | .clo b cs, c, v, h => by rw [RV] at h; obtain ⟨_, _, _, h, _⟩ := h; subst h; rfl
/-! ### the rule -/
def rC (K : PySem.W.Frag) (o : CmpOp) : R2 := fun x y H Q => ∃ R a b k, R.K = K ∧ Sub R.Hz H ∧ RV R .new a x ∧ RV R .new b y ∧ cop o a b = some k ∧ Q (.bl k) H
theorem ok_in {X : Cx} (hu : X.A.units + 65 < cLine) {neg : Bool} : ∀ (pins : List (Addr × Obj)) (s : Shared) (σ : L2.St) (H : Hp) (R : RC) (a b : D) (x y : V) (v u : Value) (k : Bool) (Q : VK), Inv X pins σ H s → R.K = X.K → Sub R.Hz H →
    RV R .new a x → RV R .new b y → RelV x v → RelV y u → dIn a b = some k → Q (.bl (if neg then !k else k)) H → wpAny (model X.prog X.w) X.A (compareOp (if neg then .NotIn else .In) v u) (EP X pins σ Q) X.xe s := by
  intro pins s σ H R a b x y v u k Q I eK hs ra rb rx ry e q
  unfold dIn at e
  split at e
  · rename_i z ez
    split at e
    · rename_i w ew
      cases e
      cases neg with
      | false => exact op_in_str pins s σ H x y v u Q I rx ry ⟨w, z, (ra.str_ ew).1, (rb.str_ ez).1, q⟩
      | true => exact op_notIn_str pins s σ H x y v u Q I rx ry ⟨w, z, (ra.str_ ew).1, (rb.str_ ez).1, q⟩
    · cases e
  · rename_i xs ex
    split at e
    · rename_i hf
      cases e
      rw [Bool.and_eq_true] at hf
      obtain ⟨p, vs, ep, hh, rs⟩ := rb.tup_ ex
      rw [eK] at hh
      cases neg with
      | false => exact op_in_seq pins s σ H x y v u Q I rx ry ⟨p, vs, ep, .inr (hs.sqT hh), flat_rv ra hf.1, flats_rv rs hf.2, by rw [if_neg Bool.false_ne_true, flatAny_rv ra hf.1 rs hf.2]; exact q⟩
      | true => exact op_notIn_seq pins s σ H x y v u Q I rx ry ⟨p, vs, ep, .inr (hs.sqT hh), flat_rv ra hf.1, flats_rv rs hf.2, by rw [if_pos rfl, flatAny_rv ra hf.1 rs hf.2]; exact q⟩
    · cases e
  · rename_i xs ex
    split at e
    · rename_i hf
      cases e
      rw [Bool.and_eq_true] at hf
      obtain ⟨p, vs, ep, hh, rs⟩ := rb.lst_ ex
      rw [eK] at hh
      cases neg with
      | false => exact op_in_seq pins s σ H x y v u Q I rx ry ⟨p, vs, ep, .inl (hs.sqL hh), flat_rv ra hf.1, flats_rv rs hf.2, by rw [if_neg Bool.false_ne_true, flatAny_rv ra hf.1 rs hf.2]; exact q⟩
      | true => exact op_notIn_seq pins s σ H x y v u Q I rx ry ⟨p, vs, ep, .inl (hs.sqL hh), flat_rv ra hf.1, flats_rv rs hf.2, by rw [if_pos rfl, flatAny_rv ra hf.1 rs hf.2]; exact q⟩
    · cases e1 : a.py with
      | none => rw [e1] at e; cases e
      | some p =>
        cases e2 : pyAll xs with
        | none => rw [e1, e2] at e; cases e
        | some ps =>
          rw [e1, e2] at e
          dsimp only at e
          split at e
          · rename_i hsh
            cases e
            rw [Bool.and_eq_true] at hsh
            obtain ⟨pp, vs, ep, hh, rs⟩ := rb.lst_ ex
            rw [eK] at hh
            have d1 : Dp X.K H x p := by rw [← eK]; exact ra.dp hs e1
            have d2 : Dp X.K H y (.list ps) := by rw [ep]; exact .lst (hs.sqL hh) (by rw [← eK]; exact rs.dp hs e2)
            cases neg with
            | false => exact op_inD hu pins s σ H x y v u Q I rx ry ⟨p, ps, d1, d2, hsh.1, hsh.2, q⟩
            | true => exact op_notInD hu pins s σ H x y v u Q I rx ry ⟨p, ps, d1, d2, hsh.1, hsh.2, q⟩
          · cases e
  · rename_i kvs ek
    cases e1 : a.key with
    | none => rw [e1] at e; cases e
    | some key =>
      rw [e1] at e
      dsimp only at e
      split at e
      · rename_i al
        cases e
        obtain ⟨p, ep, hh⟩ := rb.dct_ ek
        subst ep
        cases (show u = Value.ref p from ry)
        obtain ⟨H1, o, I1, g, back, lk⟩ := dget_of I hs hh (key_rv ra e1) al
        have eo : o.isSome = (dlook kvs key).isSome := by
          cases e3 : dlook kvs key with
          | none => rw [e3] at lk; rw [lk]; rfl
          | some d => rw [e3] at lk; obtain ⟨v', e4, _⟩ := lk; rw [e4]; rfl
        cases neg with
        | false => exact d_in (by omega) I1 g rx fun s' I2 => ⟨.bl _, H, back _ I2, rfl, by rw [eo]; exact q⟩
        | true => exact d_notIn (by omega) I1 g rx fun s' I2 => ⟨.bl _, H, back _ I2, rfl, by rw [eo]; exact q⟩
      · cases e
  · cases e
theorem op_cop {X : Cx} (hu : X.A.units + 65 < cLine) {o : CmpOp} : OpR X (compareOp o) (rC X.K o) := by
  intro pins s σ H x y v u Q I rx ry ⟨R, a, b, k, eK, hs, ra, rb, e, q⟩
  have eqs : ∀ k, deq a b = some k → ∃ p q, Dp X.K H x p ∧ Dp X.K H y q ∧ SeqAt.shaped p = true ∧ SeqAt.shaped q = true ∧ PyData.eqv p q = k := fun k e => by
    unfold deq at e
    cases e1 : a.py with
    | none => rw [e1] at e; cases e
    | some p =>
      cases e2 : b.py with
      | none => rw [e1, e2] at e; cases e
      | some p' =>
        rw [e1, e2] at e
        dsimp only at e
        split at e
        · rename_i hsh
          cases e
          rw [Bool.and_eq_true] at hsh
          exact ⟨p, p', by rw [← eK]; exact ra.dp hs e1, by rw [← eK]; exact rb.dp hs e2, hsh.1, hsh.2, rfl⟩
        · cases e
  cases o with
  | Eq =>
    obtain ⟨p, p', d1, d2, s1, s2, e3⟩ := eqs k e
    exact op_eqD (by omega) pins s σ H x y v u Q I rx ry ⟨p, p', d1, d2, s1, s2, by rw [e3]; exact q⟩
  | NotEq =>
    have e : (deq a b).map (!·) = some k := e
    cases e0 : deq a b with
    | none => rw [e0] at e; cases e
    | some k0 =>
      rw [e0] at e
      cases e
      obtain ⟨p, p', d1, d2, s1, s2, e3⟩ := eqs k0 e0
      exact op_neD (by omega) pins s σ H x y v u Q I rx ry ⟨p, p', d1, d2, s1, s2, by rw [e3]; exact q⟩
  | Lt =>
    unfold cop at e
    split at e <;> try (rename_i zz; cases zz)
    split at e
    · rename_i i j e1 e2; cases e; exact op_lt pins s σ H x y v u Q I rx ry ⟨i, j, ra.int_ e1, rb.int_ e2, q⟩
    · rename_i i j e1 e2; cases e; exact op_lt_str pins s σ H x y v u Q I rx ry ⟨i, j, (ra.str_ e1).1, (rb.str_ e2).1, q⟩
    · cases e
  | LtE =>
    unfold cop at e
    split at e <;> try (rename_i zz; cases zz)
    split at e
    · rename_i i j e1 e2; cases e; exact op_le pins s σ H x y v u Q I rx ry ⟨i, j, ra.int_ e1, rb.int_ e2, q⟩
    · rename_i i j e1 e2; cases e; exact op_le_str pins s σ H x y v u Q I rx ry ⟨i, j, (ra.str_ e1).1, (rb.str_ e2).1, q⟩
    · cases e
  | Gt =>
    unfold cop at e
    split at e <;> try (rename_i zz; cases zz)
    split at e
    · rename_i i j e1 e2; cases e; exact op_gt pins s σ H x y v u Q I rx ry ⟨i, j, ra.int_ e1, rb.int_ e2, q⟩
    · rename_i i j e1 e2; cases e; exact op_gt_str pins s σ H x y v u Q I rx ry ⟨i, j, (ra.str_ e1).1, (rb.str_ e2).1, q⟩
    · cases e
  | GtE =>
    unfold cop at e
    split at e <;> try (rename_i zz; cases zz)
    split at e
    · rename_i i j e1 e2; cases e; exact op_ge pins s σ H x y v u Q I rx ry ⟨i, j, ra.int_ e1, rb.int_ e2, q⟩
    · rename_i i j e1 e2; cases e; exact op_ge_str pins s σ H x y v u Q I rx ry ⟨i, j, (ra.str_ e1).1, (rb.str_ e2).1, q⟩
    · cases e
  | In => exact ok_in hu (neg := false) pins s σ H R a b x y v u k Q I eK hs ra rb rx ry e q
  | NotIn =>
    have e : (dIn a b).map (!·) = some k := e
    cases e0 : dIn a b with
    | none => rw [e0] at e; cases e
    | some k0 =>
      rw [e0] at e
      cases e
      exact ok_in hu (neg := true) pins s σ H R a b x y v u k0 Q I eK hs ra rb rx ry e0 q
  | Is =>
    unfold cop at e
    split at e <;> try (rename_i zz; cases zz)
    split at e
    · rename_i eb
      cases e
      exact op_isN pins s σ H x y v u Q I rx ry ⟨rb.non_ eb, by rw [ra.isNon]; exact q⟩
    · rename_i y0 eb
      split at e
      · rename_i x0 ea
        cases e
        refine op_isBl pins s σ H x y v u Q I rx ry ⟨x0, y0, ra.bl_ ea, rb.bl_ eb, ?_⟩
        rw [← Bool.beq_eq_decide_eq]; exact q
      · cases e
    · cases e
  | IsNot =>
    unfold cop at e
    split at e <;> try (rename_i zz; cases zz)
    split at e
    · rename_i eb
      cases e
      exact op_notN pins s σ H x y v u Q I rx ry ⟨rb.non_ eb, by rw [ra.isNon]; exact q⟩
    · rename_i y0 eb
      split at e
      · rename_i x0 ea
        cases e
        refine op_notBl pins s σ H x y v u Q I rx ry ⟨x0, y0, ra.bl_ ea, rb.bl_ eb, ?_⟩
        rw [← Bool.beq_eq_decide_eq]; exact q
      · cases e
    · cases e
end Ev
namespace Ev
open PySem PySem.Spec PyProof.Rows L2
/-! ## 6. looking at a value one level deep; tests -/
/-- frozen, or a list, a dict that some slot owns -/
def Pk (R : RC) (H : Hp) (d : D) (v : V) : Prop :=
  RV R .new d v ∨ (∃ a xs vs, v = .ref a ∧ d = .lst xs ∧ H a = some (.lst vs) ∧ RVs R xs vs) ∨
    ∃ a kvs, v = .ref a ∧ d = .dct kvs ∧ ((∃ l, H a = some (.dK l) ∧ RVk R kvs l) ∨ ∃ l, H a = some (.dT l) ∧ RVt R kvs l)
def peek (S : SS) (i : Nat) : Option D :=
  match S.dl[i]? with
  | some (.val (.ref k)) => (S.om[k]?).map Ob.toD
  | some (.val d) => some d
  | some (.own o) => some o.toD
  | _ => none
section
variable {R : RC} {S : SS} {σ : L2.St} {H : Hp} {d : D} {v : V}
theorem SI.peek {i : Nat} (si : SI R S σ H) (e : peek S i = some d) : ∃ v, σ[i]? = some (some v) ∧ Pk R H d v := by
  unfold Ev.peek at e
  split at e
  · rename_i k es
    obtain ⟨v, ev, rv⟩ := si.val i _ es
    rw [RV] at rv
    obtain ⟨b, e1, e2⟩ := rv
    cases eo : S.om[k]? with
    | none => rw [eo] at e; cases e
    | some w =>
      rw [eo] at e
      cases e
      obtain ⟨a, e3, _, w'⟩ := si.ref k _ eo
      rw [e2] at e3; cases e3
      refine ⟨v, ev, .inr ?_⟩
      cases w with
      | lst xs => obtain ⟨vs, h1, h2⟩ := w'; exact .inl ⟨_, xs, vs, e1, rfl, h1, h2⟩
      | dct kvs => exact .inr ⟨_, kvs, e1, rfl, w'⟩
  · rename_i d' hne es
    cases e
    obtain ⟨v, ev, rv⟩ := si.val i _ es
    exact ⟨v, ev, .inl rv⟩
  · rename_i o es
    cases e
    obtain ⟨a, ev, w⟩ := si.own i _ es
    refine ⟨_, ev, .inr ?_⟩
    obtain ⟨_, _, _, w⟩ := w
    cases o with
    | lst xs => obtain ⟨vs, h1, h2⟩ := w; exact .inl ⟨a, xs, vs, rfl, rfl, h1, h2⟩
    | dct kvs => exact .inr ⟨a, kvs, rfl, rfl, w⟩
  · cases e
theorem Pk.lst {xs : List D} (h : Pk R H d v) (hs : Sub R.Hz H) (e : d.view = .lst xs) : ∃ a vs, v = .ref a ∧ SqL R.K H a vs ∧ RVs R xs vs := by
  rcases h with h | ⟨a, ys, vs, ev, ed, hh, r⟩ | ⟨a, kvs, ev, ed, _⟩
  · obtain ⟨a, vs, ev, q, r⟩ := h.lst_ e
    exact ⟨a, vs, ev, hs.sqL q, r⟩
  · subst ed
    have : ys = xs := by cases e; rfl
    subst this
    exact ⟨a, vs, ev, SqL.of hh, r⟩
  · subst ed; cases e
theorem Pk.tup {xs : List D} (h : Pk R H d v) (hs : Sub R.Hz H) (e : d.view = .tup xs) : ∃ a vs, v = .ref a ∧ SqT R.K H a vs ∧ RVs R xs vs := by
  rcases h with h | ⟨a, ys, vs, ev, ed, hh, r⟩ | ⟨a, kvs, ev, ed, _⟩
  · obtain ⟨a, vs, ev, q, r⟩ := h.tup_ e
    exact ⟨a, vs, ev, hs.sqT q, r⟩
  · subst ed; cases e
  · subst ed; cases e
theorem Pk.dct {kvs : List (DK × D)} (h : Pk R H d v) (hs : Sub R.Hz H) (e : d.view = .dct kvs) : ∃ a, v = .ref a ∧ ((∃ l, Rd H a (.dK l) ∧ RVk R kvs l) ∨ ∃ l, Rd H a (.dT l) ∧ RVt R kvs l) := by
  rcases h with h | ⟨a, ys, vs, ev, ed, hh, r⟩ | ⟨a, kvs', ev, ed, q⟩
  · obtain ⟨a, ev, q⟩ := h.dct_ e
    rcases q with ⟨l, q, r⟩ | ⟨l, q, r⟩
    · exact ⟨a, ev, .inl ⟨l, hs.rd q, r⟩⟩
    · exact ⟨a, ev, .inr ⟨l, hs.rd q, r⟩⟩
  · subst ed; cases e
  · subst ed; cases e; exact ⟨a, ev, q.imp (fun ⟨l, h, r⟩ => ⟨l, .inl h, r⟩) fun ⟨l, h, r⟩ => ⟨l, .inl h, r⟩⟩
theorem Pk.str {x : Str} (h : Pk R H d v) (e : d.view = .str x) : v = .str x ∧ x.length ≤ sizeLine := by
  rcases h with h | ⟨a, ys, vs, ev, ed, hh, r⟩ | ⟨a, kvs', ev, ed, q⟩
  · exact h.str_ e
  · subst ed; cases e
  · subst ed; cases e
theorem Pk.int {x : Int} (h : Pk R H d v) (e : d.view = .int x) : v = .int x := by
  rcases h with h | ⟨a, ys, vs, ev, ed, hh, r⟩ | ⟨a, kvs', ev, ed, q⟩
  · exact h.int_ e
  · subst ed; cases e
  · subst ed; cases e
theorem Pk.bl {x : Bool} (h : Pk R H d v) (e : d.view = .bl x) : v = .bl x := by
  rcases h with h | ⟨a, ys, vs, ev, ed, hh, r⟩ | ⟨a, kvs', ev, ed, q⟩
  · exact h.bl_ e
  · subst ed; cases e
  · subst ed; cases e
theorem Pk.non (h : Pk R H d v) (e : d.view = .non) : v = .non := by
  rcases h with h | ⟨a, ys, vs, ev, ed, hh, r⟩ | ⟨a, kvs', ev, ed, q⟩
  · exact h.non_ e
  · subst ed; cases e
  · subst ed; cases e
end
/-! ### truth -/
def truth (d : D) : Option Bool :=
  match d.view with
  | .non => some false
  | .bl b => some b
  | .int i => some (i != 0)
  | .str x => some ((x.length : Int) != 0)
  | .lst xs => some (!xs.isEmpty)
  | .tup xs => some (!xs.isEmpty)
  | .dct kvs => some (!kvs.isEmpty)
  | _ => none
theorem RVs.isEmpty {R : RC} {ds : List D} {vs : List V} (h : RVs R ds vs) : vs.isEmpty = ds.isEmpty := by
  have := h.length
  cases ds <;> cases vs <;> simp_all
theorem RVk.length {R : RC} : ∀ {ds : List (DK × D)} {vs : List (Key × V)}, RVk R ds vs → vs.length = ds.length
  | [], vs, h => by rw [RVk] at h; rw [h]; rfl
  | (k, d) :: ds, vs, h => by
    rw [RVk] at h
    obtain ⟨v, x, r, e, _, _, q⟩ := h
    rw [e]; simp [RVk.length q]
theorem RVt.length {R : RC} : ∀ {ds : List (DK × D)} {vs : List (List Key × V)}, RVt R ds vs → vs.length = ds.length
  | [], vs, h => by rw [RVt] at h; rw [h]; rfl
  | (k, d) :: ds, vs, h => by
    rw [RVt] at h
    obtain ⟨v, x, r, e, _, _, q⟩ := h
    rw [e]; simp [RVt.length q]
theorem RVk.isEmpty {R : RC} {ds : List (DK × D)} {vs : List (Key × V)} (h : RVk R ds vs) : vs.isEmpty = ds.isEmpty := by
  have := h.length
  cases ds <;> cases vs <;> simp_all
theorem RVt.isEmpty {R : RC} {ds : List (DK × D)} {vs : List (List Key × V)} (h : RVt R ds vs) : vs.isEmpty = ds.isEmpty := by
  have := h.length
  cases ds <;> cases vs <;> simp_all
/-- truth of a dict whose keys are tuples -/
theorem truth_dT {X : Cx} {pins : List (Addr × Obj)} {σ : L2.St} {H : Hp} {s : Shared} {a : Addr} {kvs : List (List Key × V)} {Q : Bool → Shared → Prop} {E : Value → Shared → Prop} (I : Inv X pins σ H s) (e : Rd H a (.dT kvs)) (h : ∀ s', Inv X pins σ H s' → Q (!kvs.isEmpty) s') :
    wpAny (model X.prog X.w) X.A (truthy (.ref a)) Q E s := by
  obtain ⟨z, hd, xs, rel, o, es, ep, ho, hx, hdt, hes, nd⟩ := e.ok I.hok
  have n1 : kvs.length = xs.length := Paired.length rel
  obtain ⟨z', hd', ys, rel', dd⟩ := dt_rd I.hok e
  have n2 : kvs.length = ys.length := Paired.length rel'
  have hsl : sizeLine = 16777216 := sizeLine_eq
  have hne : (((kvs.length : Nat) : Int) != 0) = !kvs.isEmpty := by cases kvs <;> simp <;> omega
  have key : wpAny (model X.prog X.w) X.A (runValue (.builtin "len" ⟨[.ref a], []⟩)) (fun r s' => r = .int ((ys.length : Nat) : Int) (s.toks + 1) ∧ Q (!kvs.isEmpty) s') E s := by
    refine wpAny_runValue (codeAny_builtin entry_len ?_)
    rw [Around.under_plainId plain_len _]
    exact wpAny_mono (wpAny_len_body_dictH (Q := fun r s' => r = .int ((ys.length : Nat) : Int) (s.toks + 1) ∧ Q (!kvs.isEmpty) s') hd' dd (by rw [← n2]; omega) ⟨rfl, h _ (I.tok _)⟩)
      (fun fin s' h' => by obtain ⟨r, rfl, hq⟩ := h'; exact hq) fun _ _ e => e
  rw [← n2] at key
  unfold truthy
  first
    | refine wpAny_bind (wpAny_callSpecial?_none (name := Str.ofString "__bool__") dd.typeIs noBool_dict ?_)
    | refine wpAny_bind (wpAny_pure (wpAny_bind (wpAny_callSpecial?_none (name := Str.ofString "__bool__") dd.typeIs noBool_dict ?_)))
  first
    | refine wpAny_bind (wpAny_specialOf (name := Str.ofString "__len__") dd.typeIs F.slot_dict_len.lookup ?_)
    | refine wpAny_bind (wpAny_pure (wpAny_bind (wpAny_specialOf (name := Str.ofString "__len__") dd.typeIs F.slot_dict_len.lookup ?_)))
  first
    | exact wpAny_bind (wpAny_mono key (fun r s' h' => by obtain ⟨rfl, hq⟩ := h'; exact wpAny_pure (hne ▸ hq)) fun _ _ e => e)
theorem truth_rule {X : Cx} {pins : List (Addr × Obj)} {σ : L2.St} {H : Hp} {s : Shared} {R : RC} {d : D} {x : V} {v : Value} {b : Bool} {Q : Bool → Hp → Prop} (I : Inv X pins σ H s) (eK : R.K = X.K) (hs : Sub R.Hz H)
    (p : Pk R H d x) (rx : RelV x v) (e : truth d = some b) (q : Q b H) : wpAny (model X.prog X.w) X.A (truthy v) (TP X pins σ Q) X.xe s := by
  unfold truth at e
  split at e
  · rename_i ev; cases e
    refine tru_ok pins s σ H x v Q I rx ⟨false, ?_, q⟩
    rw [p.non ev]; rfl
  · rename_i b' ev; cases e
    refine tru_ok pins s σ H x v Q I rx ⟨b, ?_, q⟩
    rw [p.bl ev]; rfl
  · rename_i i ev; cases e
    refine tru_ok pins s σ H x v Q I rx ⟨_, ?_, q⟩
    rw [p.int ev]; rfl
  · rename_i z ev; cases e
    refine tru_ok pins s σ H x v Q I rx ⟨_, ?_, q⟩
    rw [(p.str ev).1]; exact ⟨(p.str ev).2, rfl⟩
  · rename_i xs ev; cases e
    obtain ⟨a, vs, ex, hh, r⟩ := p.lst hs ev
    refine tru_ok pins s σ H x v Q I rx ⟨_, ?_, q⟩
    rw [ex]; exact .inl ⟨vs, by rw [← eK]; exact hh, by rw [r.isEmpty]⟩
  · rename_i xs ev; cases e
    obtain ⟨a, vs, ex, hh, r⟩ := p.tup hs ev
    refine tru_ok pins s σ H x v Q I rx ⟨_, ?_, q⟩
    rw [ex]; exact .inr (.inl ⟨vs, by rw [← eK]; exact hh, by rw [r.isEmpty]⟩)
  · rename_i kvs ev; cases e
    obtain ⟨a, ex, hh⟩ := p.dct hs ev
    rcases hh with ⟨l, hh, r⟩ | ⟨l, hh, r⟩
    · subst ex
      cases (show v = Value.ref a from rx)
      exact d_truth I hh fun s' I' => ⟨H, I', by rw [r.isEmpty]; exact q⟩
    · subst ex
      cases (show v = Value.ref a from rx)
      exact truth_dT I hh fun s' I' => ⟨H, I', by rw [r.isEmpty]; exact q⟩
  · cases e
end Ev
namespace Ev
open PySem PySem.Spec PyProof.Rows L2
/-! ## 7. tests, and, or, not, if; calls of operators -/
def toV (f : SS → Out Bool) : SS → Out Res := fun S => (f S).bind fun b S1 => .ok (.val (.bl b)) S1
def fCmp (o : CmpOp) (fa fb : SS → Out D) : SS → Out Bool := fun S => (fa S).bind fun a S1 => (fb S1).bind fun b S2 => match cop o a b with
  | some k => .ok k S2
  | none => .no
def fChn (o o' : CmpOp) (fa fb fc : SS → Out D) : SS → Out Bool := fun S => (fa S).bind fun a S1 => (fb S1).bind fun b S2 => match cop o a b with
  | some true => (fc S2).bind fun c S3 => match cop o' b c with
    | some k => .ok k S3
    | none => .no
  | some false => .ok false S2
  | none => .no
def fTru (f : SS → Out D) : SS → Out Bool := fun S => (f S).bind fun d S1 => match truth d with
  | some b => .ok b S1
  | none => .no
def fTruV (i : Nat) : SS → Out Bool := fun S => match peek S i with
  | some d => match truth d with
    | some b => .ok b S
    | none => .no
  | none => .no
def fNot (f : SS → Out Bool) : SS → Out Bool := fun S => (f S).bind fun b S1 => .ok (!b) S1
def fAnd (f g : SS → Out Bool) : SS → Out Bool := fun S => (f S).bind fun b S1 => if b = true then g S1 else .ok false S1
def fOr (f g : SS → Out Bool) : SS → Out Bool := fun S => (f S).bind fun b S1 => if b = true then .ok true S1 else g S1
def fAndV (f : SS → Out D) (g : SS → Out Res) : SS → Out Res := fun S => (f S).bind fun d S1 => match truth d with
  | some true => g S1
  | some false => .ok (.val d) S1
  | none => .no
def fOrV (f : SS → Out D) (g : SS → Out Res) : SS → Out Res := fun S => (f S).bind fun d S1 => match truth d with
  | some false => g S1
  | some true => .ok (.val d) S1
  | none => .no
def fIf {α : Type} (t : SS → Out Bool) (f g : SS → Out α) : SS → Out α := fun S => (t S).bind fun b S1 => if b = true then f S1 else g S1
section
variable {X : Cx} {C : EC} {a b c : Expr} {fa fb fc : SS → Out D} {ga gb : SS → Out Res} {ta tb : SS → Out Bool} {rest : List Expr} {pos : Pos} {σ : L2.St} {H : Hp} {Q : VK}
theorem T.back {α β : Type} {rel : Rel α β} {F : SS → Out α} {R : RC} {S : SS} {Q : β → Hp → Prop} (hb : Base C R) (si : SI R S σ H) (p : Po C rel R σ (F S) Q) : T C rel F σ H Q := ⟨R, S, hb, si, p⟩
theorem toV_run {t : SS → Out Bool} (h : tE C (toV t) σ H Q) : tT C t σ H fun k H1 => Q (.bl k) H1 := by
  refine (seqT' (rel := rB) h).mono fun k H1 ⟨R, S, k', b1, s1, e, p⟩ => ?_
  have e : k' = k := e
  subst e
  exact p R H1 (.bl k') (RLe.refl R) s1 (by show RV _ _ _ _; rw [RV])
theorem cmp_run {o : CmpOp} {Qb : Bool → Hp → Prop} (h : tT C (fCmp o fa fb) σ H Qb) : tD C fa σ H fun x H1 => tD C fb σ H1 fun y H2 => rC C.G.K o x y H2 fun z H3 => ∃ k, z = .bl k ∧ Qb k H3 := by
  refine (seqT' (rel := rV) h).mono fun x H1 ⟨R1, S1, a, b1, s1, ra, h1⟩ => ?_
  refine (seqT (rel := rV) b1 s1 h1).mono fun y H2 ⟨R2, S2, b, l2, b2, s2, rb, h2⟩ => ?_
  try dsimp only at h2
  cases e : cop o a b with
  | none => rw [e] at h2; exact h2.elim
  | some k => rw [e] at h2; exact ⟨R2, a, b, k, b2.K, s2.sub, RV.mono l2 ra, rb, e, k, rfl, h2 R2 H2 k (RLe.refl R2) s2 rfl⟩
theorem R2.mono_rC {K : PySem.W.Frag} {o : CmpOp} {x y : V} {Q Q' : VK} (h : rC K o x y H Q) (m : ∀ z, Q z H → Q' z H) : rC K o x y H Q' := by
  obtain ⟨R, a, b, k, e1, e2, e3, e4, e5, q⟩ := h
  exact ⟨R, a, b, k, e1, e2, e3, e4, e5, m _ q⟩
theorem pt_fCmp (hu : X.A.units + 65 < cLine) (hK : X.K = C.G.K) {o : CmpOp} (hm : behindInMarks o b = false) (ha : PE X a (tD C fa)) (hb : PE X b (tD C fb)) : PT X (.Compare a [o] [b] pos) (tT C (fCmp o fa fb)) := by
  refine ⟨fun pins s σ H Q I h => ?_⟩
  refine (pt_cmpR (op_cop hu) ha hb hm).run pins s σ H Q I ?_
  rw [hK]
  exact cmp_run h
theorem pe_fCmp (hu : X.A.units + 65 < cLine) (hK : X.K = C.G.K) {o : CmpOp} (hm : behindInMarks o b = false) (ha : PE X a (tD C fa)) (hb : PE X b (tD C fb)) : PE X (.Compare a [o] [b] pos) (tE C (toV (fCmp o fa fb))) := by
  refine ⟨fun pins s σ H Q I h => ?_⟩
  refine (pe_cmpR (op_cop hu) ha hb hm).run pins s σ H Q I ?_
  rw [hK]
  refine (cmp_run (toV_run h)).mono fun x H1 h1 => h1.mono fun y H2 h2 => R2.mono_rC h2 fun z hz => ?_
  obtain ⟨k, e, q⟩ := hz
  rw [e]; exact q
theorem chn_run {o o' : CmpOp} {Qb : Bool → Hp → Prop} (h : tT C (fChn o o' fa fb fc) σ H Qb) : tChain (rC C.G.K o) (rC C.G.K o') (tD C fa) (tD C fb) (tD C fc) σ H fun z H3 => ∃ k, z = .bl k ∧ Qb k H3 := by
  refine (seqT' (rel := rV) h).mono fun x H1 ⟨R1, S1, a, b1, s1, ra, h1⟩ => ?_
  refine (seqT (rel := rV) b1 s1 h1).mono fun y H2 ⟨R2, S2, b, l2, b2, s2, rb, h2⟩ => ?_
  try dsimp only at h2
  cases e : cop o a b with
  | none => rw [e] at h2; exact h2.elim
  | some k =>
    rw [e] at h2
    refine ⟨R2, a, b, k, b2.K, s2.sub, RV.mono l2 ra, rb, e, k, rfl, ?_⟩
    cases k with
    | false => rw [if_neg Bool.false_ne_true]; exact ⟨false, rfl, h2 R2 H2 false (RLe.refl R2) s2 rfl⟩
    | true =>
      rw [if_pos rfl]
      refine (seqT (rel := rV) b2 s2 h2).mono fun z H3 ⟨R3, S3, c, l3, b3, s3, rc, h3⟩ => ?_
      cases e' : cop o' b c with
      | none => rw [e'] at h3; exact h3.elim
      | some k' => rw [e'] at h3; exact ⟨R3, b, c, k', b3.K, s3.sub, RV.mono l3 rb, rc, e', k', rfl, h3 R3 H3 k' (RLe.refl R3) s3 rfl⟩
theorem pt_fChn (hu : X.A.units + 65 < cLine) (hK : X.K = C.G.K) {o o' : CmpOp} (hm : lastMarks [o, o'] [b, c] = false) (ha : PE X a (tD C fa)) (hb : PE X b (tD C fb)) (hc : PE X c (tD C fc)) : PT X (.Compare a [o, o'] [b, c] pos) (tT C (fChn o o' fa fb fc)) := by
  refine ⟨fun pins s σ H Q I h => ?_⟩
  refine (pt_chain (op_cop hu) (op_cop hu) ha hb hc hm).run pins s σ H Q I ?_
  rw [hK]
  exact chn_run h
theorem pe_fChn (hu : X.A.units + 65 < cLine) (hK : X.K = C.G.K) {o o' : CmpOp} (hm : lastMarks [o, o'] [b, c] = false) (ha : PE X a (tD C fa)) (hb : PE X b (tD C fb)) (hc : PE X c (tD C fc)) : PE X (.Compare a [o, o'] [b, c] pos) (tE C (toV (fChn o o' fa fb fc))) := by
  refine ⟨fun pins s σ H Q I h => ?_⟩
  refine (pe_chain (op_cop hu) (op_cop hu) ha hb hc hm).run pins s σ H Q I ?_
  rw [hK]
  refine (chn_run (toV_run h)).mono fun x H1 h1 => h1.mono fun y H2 h2 => R2.mono_rC h2 fun z hz => ?_
  obtain ⟨k, e, q⟩ := hz
  refine ⟨k, e, ?_⟩
  cases k with
  | false => rw [if_neg Bool.false_ne_true] at q ⊢; obtain ⟨k', e', q'⟩ := q; rw [e']; exact q'
  | true =>
    rw [if_pos rfl] at q ⊢
    exact q.mono fun w H3 h3 => R2.mono_rC h3 fun z hz => by
      obtain ⟨k', e', q'⟩ := hz
      rw [e']; exact q'
/-- a test by its value's truth -/
theorem pt_fTru (hK : X.K = C.G.K) (ha : PE X a (tD C fa)) (he : ∀ whole, isTrue a X.env whole = (do let v ← whole; standAt a.pos; holding [v] (truthy v))) : PT X a (tT C (fTru fa)) := by
  refine ⟨fun pins s σ H Q I h => ?_⟩
  refine isTrue_plain (thn (ha.run pins s σ H _ I (seqT' (rel := rV) h)) fun v s1 ⟨x, H1, I1, r1, R, S, d, b1, s1', rd, p⟩ => ?_) (he _)
  try dsimp only at p
  cases e : truth d with
  | none => rw [e] at p; exact p.elim
  | some k => rw [e] at p; exact truth_rule I1 (b1.K.trans hK.symm) s1'.sub (.inl rd) r1 e (p R H1 k (RLe.refl R) s1' rfl)
theorem pt_fTruV (hK : X.K = C.G.K) {i : Nat} {x : Str} (hN : X.N[i]? = some x) (hv : Vis X.env.scope x) (hd : (x == ("__debug__" : Str)) = false) (hcd : (x == ("__classdict__" : Str)) = false) : PT X (.Name x pos) (tT C (fTruV i)) := by
  refine ⟨fun pins s σ H Q I h => ?_⟩
  obtain ⟨R, S, b1, si, p⟩ := h
  unfold fTruV at p
  cases ep : peek S i with
  | none => rw [ep] at p; exact p.elim
  | some d =>
    rw [ep] at p
    try dsimp only at p
    cases e : truth d with
    | none => rw [e] at p; exact p.elim
    | some k =>
      rw [e] at p
      obtain ⟨w, ew, pk⟩ := si.peek ep
      refine isTrue_plain (thn ((pe_var hN hv hd hcd).run pins s σ H (fun z H1 => z = w ∧ H1 = H) I ⟨w, ew, rfl, rfl⟩) fun v s1 ⟨z, H1, I1, r1, ez, eh⟩ => ?_) (by rfl)
      subst ez eh
      exact truth_rule I1 (b1.K.trans hK.symm) si.sub pk r1 e (p R H1 k (RLe.refl R) si rfl)
theorem pt_fNot (ha : PT X a (tT C ta)) : PT X (.UnaryOp .Not a pos) (tT C (fNot ta)) := by
  refine ⟨fun pins s σ H Q I h => ?_⟩
  refine (pt_not ha).run pins s σ H Q I ?_
  exact (seqT' (rel := rB) h).mono fun k H1 ⟨R, S, k', b1, s1, e, p⟩ => p R H1 (!k) (RLe.refl R) s1 (by
    have e : k' = k := e
    show (!k') = (!k)
    rw [e])
theorem pw_fAnd1 (ha : PT X a (tT C ta)) : PW X (.BoolOp .And [a] pos) (tT C ta) := pw_and1 ha
theorem pw_fOr1 (ha : PT X a (tT C ta)) : PW X (.BoolOp .Or [a] pos) (tT C ta) := pw_or1 ha
theorem pw_fAnd (ha : PT X a (tT C ta)) (hb : PW X (.BoolOp .And (b :: rest) pos) (tT C tb)) : PW X (.BoolOp .And (a :: b :: rest) pos) (tT C (fAnd ta tb)) := by
  refine ⟨fun wh pins s σ H Q I h => ?_⟩
  refine (pw_and ha hb).run wh pins s σ H Q I ?_
  refine (seqT' (rel := rB) h).mono fun k H1 ⟨R, S, k', b1, s1, e, p⟩ => ?_
  have e : k' = k := e
  subst e
  cases k' with
  | true => exact T.back b1 s1 p
  | false => exact p R H1 false (RLe.refl R) s1 rfl
theorem pw_fOr (ha : PT X a (tT C ta)) (hb : PW X (.BoolOp .Or (b :: rest) pos) (tT C tb)) : PW X (.BoolOp .Or (a :: b :: rest) pos) (tT C (fOr ta tb)) := by
  refine ⟨fun wh pins s σ H Q I h => ?_⟩
  refine (pw_or ha hb).run wh pins s σ H Q I ?_
  refine (seqT' (rel := rB) h).mono fun k H1 ⟨R, S, k', b1, s1, e, p⟩ => ?_
  have e : k' = k := e
  subst e
  cases k' with
  | false => exact T.back b1 s1 p
  | true => exact p R H1 true (RLe.refl R) s1 rfl
theorem pe_fOne {op : PySem.BoolOp} (h : PE X a (tE C ga)) : PE X (.BoolOp op [a] pos) (tE C ga) := pe_one h
theorem pe_fAnd (hK : X.K = C.G.K) (ha : PE X a (tD C fa)) (hb : PE X (.BoolOp .And (b :: rest) pos) (tE C gb)) : PE X (.BoolOp .And (a :: b :: rest) pos) (tE C (fAndV fa gb)) := by
  refine ⟨fun pins s σ H Q I h => ?_⟩
  refine BoolOp_and (thn (ha.run pins s σ H _ I (seqT' (rel := rV) h)) fun v s1 ⟨x, H1, I1, r1, R, S, d, b1, si, rd, p⟩ => ?_)
  try dsimp only at p
  cases e : truth d with
  | none => rw [e] at p; exact p.elim
  | some k =>
    rw [e] at p
    refine thn (truth_rule (Q := fun c H2 => c = k ∧ H2 = H1) I1 (b1.K.trans hK.symm) si.sub (.inl rd) r1 e ⟨rfl, rfl⟩) fun c s2 ⟨H2, I2, e1, e2⟩ => ?_
    subst e1 e2
    cases c with
    | true => exact hb.run pins s2 σ H2 Q I2 (T.back b1 si p)
    | false => exact ⟨x, H2, I2, r1, p R H2 x (RLe.refl R) si rd⟩
theorem pe_fOr (hK : X.K = C.G.K) (ha : PE X a (tD C fa)) (hb : PE X (.BoolOp .Or (b :: rest) pos) (tE C gb)) : PE X (.BoolOp .Or (a :: b :: rest) pos) (tE C (fOrV fa gb)) := by
  refine ⟨fun pins s σ H Q I h => ?_⟩
  refine BoolOp_or (thn (ha.run pins s σ H _ I (seqT' (rel := rV) h)) fun v s1 ⟨x, H1, I1, r1, R, S, d, b1, si, rd, p⟩ => ?_)
  try dsimp only at p
  cases e : truth d with
  | none => rw [e] at p; exact p.elim
  | some k =>
    rw [e] at p
    refine thn (truth_rule (Q := fun c H2 => c = k ∧ H2 = H1) I1 (b1.K.trans hK.symm) si.sub (.inl rd) r1 e ⟨rfl, rfl⟩) fun c s2 ⟨H2, I2, e1, e2⟩ => ?_
    subst e1 e2
    cases c with
    | false => exact hb.run pins s2 σ H2 Q I2 (T.back b1 si p)
    | true => exact ⟨x, H2, I2, r1, p R H2 x (RLe.refl R) si rd⟩
theorem pe_fNot (hK : X.K = C.G.K) (ha : PE X a (tD C fa)) : PE X (.UnaryOp .Not a pos) (tE C (toV (fNot (fTru fa)))) := by
  refine ⟨fun pins s σ H Q I h => ?_⟩
  have h1 := seqT' (rel := rB) (toV_run h)
  have h2 := seqT' (rel := rV) h1
  refine UnaryOp_ (thn (ha.run pins s σ H _ I h2) fun v s1 ⟨x, H1, I1, r1, R, S, d, b1, si, rd, p⟩ => ?_)
  try dsimp only at p
  cases e : truth d with
  | none => rw [e] at p; exact p.elim
  | some k =>
    rw [e] at p
    obtain ⟨R2, S2, k2, b2, s2, e2, p2⟩ := p R H1 k (RLe.refl R) si rfl
    have e2 : k2 = k := e2
    subst e2
    have q := p2 R2 H1 (!k2) (RLe.refl R2) s2 rfl
    exact not_of (thn (truth_rule (Q := fun c H2 => Q (.bl (!c)) H2) I1 (b1.K.trans hK.symm) si.sub (.inl rd) r1 e q) fun c s2 ⟨H2, I2, q2⟩ => ⟨.bl (!c), H2, I2, rfl, q2⟩)
theorem pe_fIf {t : Expr} (ht : PT X t (tT C ta)) (ha : PE X a (tE C ga)) (hb : PE X b (tE C gb)) : PE X (.IfExp t a b pos) (tE C (fIf ta ga gb)) := by
  refine ⟨fun pins s σ H Q I h => ?_⟩
  refine (pe_ifExp ht ha hb).run pins s σ H Q I ?_
  refine (seqT' (rel := rB) h).mono fun k H1 ⟨R, S, k', b1, s1, e, p⟩ => ?_
  have e : k' = k := e
  subst e
  cases k' with
  | true => exact T.back b1 s1 p
  | false => exact T.back b1 s1 p
end
end Ev
namespace Ev
open PySem PySem.Spec PyProof.Rows L2
/-! ## 8. subscripts, slices, displays -/
def didx (a b : D) : Option D :=
  match a.view with
  | .lst xs => match b.view with
    | .int i => atI xs i
    | _ => none
  | .tup xs => match b.view with
    | .int i => atI xs i
    | _ => none
  | .str z => match b.view with
    | .int i => (atI z.cps.toList i).map fun c => .str ⟨#[c]⟩
    | _ => none
  | .dct kvs => match b.key with
    | some k => if alike kvs k then dlook kvs k else none
    | none => none
  | _ => none
theorem RVs.atI {R : RC} {ds : List D} {vs : List V} {i : Int} {d : D} (h : RVs R ds vs) (e : L2.atI ds i = some d) : ∃ v, L2.atI vs i = some v ∧ RV R .new d v := by
  unfold L2.atI at e ⊢
  rw [h.length]
  cases en : ixN ds.length i with
  | none => rw [en] at e; cases e
  | some j =>
    rw [en] at e
    obtain ⟨v, ev, r⟩ := h.getD (show ds[j]? = some d from e)
    exact ⟨v, ev, r⟩
theorem sizeLine1 : 1 ≤ sizeLine := by rw [sizeLine_eq]; decide
section
variable {X : Cx} {C : EC}
def rIxD : R2 := fun x y H Q => ∃ a v, x = .ref a ∧ DGet H a y (some v) ∧ Q v H
theorem ix_dict (hu : X.A.units + 1 < cLine) : IxR X rIxD := by
  intro value slice pins s σ H x y v u Q I rx ry ⟨a, z, ex, g, q⟩ hs
  subst ex
  cases (show v = Value.ref a from rx)
  unfold subscriptTail
  refine wpAny_bind ?_
  have hT := dict_typeIs I g
  rw [getitemInPython_of_ne hT.not_modules]
  refine wpAny_bind (wpAny_specialOf hT PySem.F.slot_dict_getitem.lookup ?_)
  have fin : wpAny (model X.prog X.w) X.A (subscripted slice false (.ref a) u) (fun r s₃ => wpAny (model X.prog X.w) X.A (letTemporaryGo value (.ref a) r >>= fun _ => pure r) (EP X pins σ Q) X.xe s₃) X.xe s := by
    rw [hs]
    exact wpAny_operating (wpAny_mono (d_getItem (Q := EP X pins σ Q) hu I g ry fun w' s3 I3 rw' => ⟨z, H, I3, rw', q⟩) (fun r s₃ h₃ => wpAny_bind (wpAny_letTemporaryGo (wpAny_pure h₃))) fun _ _ x => x)
  first
    | exact wpAny_pure (wpAny_bind fin)
    | exact wpAny_bind (wpAny_pure (wpAny_bind fin))
    | exact wpAny_bind fin
theorem ix_rule (hu : X.A.units + 1 < cLine) {value slice : Expr} {pins : List (Addr × Obj)} {s : Shared} {σ : L2.St} {H : Hp} {R : RC} {a b d : D} {x y : V} {v u : Value} {Q : VK} (I : Inv X pins σ H s) (eK : R.K = X.K) (hs : Sub R.Hz H)
    (pa : Pk R H a x) (rb : RV R .new b y) (rx : RelV x v) (ry : RelV y u) (e : didx a b = some d) (hp : subscripted slice false v u = operate [v, u] (getItem v u)) (q : ∀ z, RV R .new d z → Q z H) :
    wpAny (model X.prog X.w) X.A (subscriptTail value slice v u) (EP X pins σ Q) X.xe s := by
  unfold didx at e
  split at e
  · rename_i xs ex
    split at e
    · rename_i i ei
      obtain ⟨p, vs, ev, hh, r⟩ := pa.lst hs ex
      obtain ⟨z, ez, rz⟩ := r.atI e
      rw [eK] at hh
      exact ix_list value slice pins s σ H x y v u Q I rx ry ⟨p, vs, i, z, ev, rb.int_ ei, hh, ez, q z rz⟩ hp
    · cases e
  · rename_i xs ex
    split at e
    · rename_i i ei
      obtain ⟨p, vs, ev, hh, r⟩ := pa.tup hs ex
      obtain ⟨z, ez, rz⟩ := r.atI e
      rw [eK] at hh
      exact ix_tup value slice pins s σ H x y v u Q I rx ry ⟨p, vs, i, z, ev, rb.int_ ei, hh, ez, q z rz⟩ hp
    · cases e
  · rename_i z ez
    split at e
    · rename_i i ei
      cases ec : atI z.cps.toList i with
      | none => rw [ec] at e; cases e
      | some c =>
        rw [ec] at e
        cases e
        exact ix_str value slice pins s σ H x y v u Q I rx ry ⟨z, i, c, (pa.str ez).1, rb.int_ ei, (pa.str ez).2, ec, q _ (by rw [RV]; exact ⟨rfl, sizeLine1⟩)⟩ hp
    · cases e
  · rename_i kvs ek
    cases e1 : b.key with
    | none => rw [e1] at e; cases e
    | some key =>
      rw [e1] at e
      dsimp only at e
      split at e
      · rename_i al
        obtain ⟨p, ep, hh⟩ := pa.dct hs ek
        have ky := key_rv rb e1
        rcases hh with ⟨l, hh, r⟩ | ⟨l, hh, r⟩
        · cases key with
          | k k =>
            have ky : y = kV k := ky
            have := r.look k
            rw [e] at this
            obtain ⟨z, ez, rz⟩ := this
            exact ix_dict hu value slice pins s σ H x y v u Q I rx ry ⟨p, z, ep, by rw [ky, ← ez]; exact .inl ⟨l, _, hh, rfl, rfl⟩, q z rz⟩ hp
          | t k =>
            obtain ⟨e2, _⟩ := r.alike_t al
            rw [e2] at e
            cases e
        · cases key with
          | t k =>
            obtain ⟨b', e2, hb⟩ := ky
            have := r.look k
            rw [e] at this
            obtain ⟨z, ez, rz⟩ := this
            exact ix_dict hu value slice pins s σ H x y v u Q I rx ry ⟨p, z, ep, by rw [e2, ← ez]; exact .inr ⟨l, _, _, hh, rfl, hs.at hb, rfl⟩, q z rz⟩ hp
          | k k =>
            obtain ⟨e2, _⟩ := r.alike_k al
            rw [e2] at e
            cases e
      · cases e
  · cases e
end
def fIdx (fa fb : SS → Out D) : SS → Out Res := fun S => (fa S).bind fun a S1 => (fb S1).bind fun b S2 => match didx a b with
  | some d => .ok (.val d) S2
  | none => .no
/-- slot i holds something -/
def holds (S : SS) (i : Nat) : Bool := (peek S i).isSome
theorem SI.holds {R : RC} {S : SS} {σ : L2.St} {H : Hp} {i : Nat} (si : SI R S σ H) (e : holds S i = true) : ∃ v, σ[i]? = some (some v) := by
  unfold Ev.holds at e
  cases ep : Ev.peek S i with
  | none => rw [ep] at e; cases e
  | some d => obtain ⟨v, ev, _⟩ := si.peek ep; exact ⟨v, ev⟩
/-- what a name in front is read for, ahead of the rest -/
def fHas {α : Type} (i : Nat) (f : SS → Out α) : SS → Out α := fun S => if holds S i = true then f S else .no
theorem has_run {α β : Type} {C : EC} {rel : Rel α β} {i : Nat} {f : SS → Out α} {σ : L2.St} {H : Hp} {Q : β → Hp → Prop} (h : T C rel (fHas i f) σ H Q) : (∃ v, σ[i]? = some (some v)) ∧ T C rel f σ H Q := by
  obtain ⟨R, S, b, si, p⟩ := h
  unfold fHas at p
  by_cases e : Ev.holds S i = true
  · rw [if_pos e] at p
    exact ⟨si.holds e, R, S, b, si, p⟩
  · rw [if_neg e] at p
    exact p.elim
def fIdxV (i : Nat) (fb : SS → Out D) : SS → Out Res := fHas i fun S => (fb S).bind fun b S1 => match peek S1 i with
  | some a => match didx a b with
    | some d => .ok (.val d) S1
    | none => .no
  | none => .no
/-! ### slices -/
def cutD (xs : List D) (lo hi : Option Int) : List D := (xs.drop (HT.sIx xs.length 0 lo)).take (HT.sIx xs.length xs.length hi - HT.sIx xs.length 0 lo)
theorem RVs.take {R : RC} : ∀ {ds : List D} {vs : List V} (n : Nat), RVs R ds vs → RVs R (ds.take n) (vs.take n)
  | _, _, 0, _ => by simp [RVs]
  | [], vs, n + 1, h => by rw [RVs] at h; rw [h]; simp [RVs]
  | d :: ds, vs, n + 1, h => by
    rw [RVs] at h
    obtain ⟨v, r, e, p, q⟩ := h
    rw [e, List.take_succ_cons, List.take_succ_cons, RVs]
    exact ⟨v, _, rfl, p, RVs.take n q⟩
theorem RVs.drop {R : RC} : ∀ {ds : List D} {vs : List V} (n : Nat), RVs R ds vs → RVs R (ds.drop n) (vs.drop n)
  | _, _, 0, h => h
  | [], vs, n + 1, h => by rw [RVs] at h; rw [h]; simp [RVs]
  | d :: ds, vs, n + 1, h => by
    rw [RVs] at h
    obtain ⟨v, r, e, p, q⟩ := h
    rw [e, List.drop_succ_cons, List.drop_succ_cons]
    exact RVs.drop n q
theorem RVs.cut {R : RC} {ds : List D} {vs : List V} (h : RVs R ds vs) (lo hi : Option Int) : RVs R (cutD ds lo hi) (cutV vs lo hi) := by
  unfold cutD cutV
  rw [h.length]
  exact (h.drop _).take _
def dsl (a : D) (lo hi : Option Int) : Option Res :=
  match a.view with
  | .lst xs => some (.own (.lst (cutD xs lo hi)))
  | .tup xs => some (if HT.sIx xs.length 0 lo = 0 ∧ HT.sIx xs.length xs.length hi = xs.length then .val a else .val (.tup (cutD xs lo hi)))
  | .str z => some (.val (.str (cutS z lo hi)))
  | _ => none
section
variable {X : Cx} {C : EC}
theorem sl_rule {pins : List (Addr × Obj)} {s : Shared} {σ : L2.St} {H : Hp} {R : RC} {S : SS} {a : D} {x : V} {v vl vu : Value} {lo hi : Option Int} {sl : Addr} {r : Res} {Q : VK} (I : Inv X pins σ H s) (hb : Base C R) (hK : X.K = C.G.K) (si : SI R S σ H)
    (pa : Pk R H a x) (rx : RelV x v) (hsl : s.heap.IsSliceOf sl vl vu .none) (pl : IsPart vl lo) (pu : IsPart vu hi) (e : dsl a lo hi = some r) (q : ∀ R' H' z, RLe R R' → SI R' S σ H' → RR R' S σ H' r z → Q z H') :
    ∃ T id, typeLookup (.type T) "__getitem__" = pure (some (.builtin id)) ∧ s.TypeIs v T ∧ wpAny (model X.prog X.w) X.A (getItem v (.ref sl)) (EP X pins σ Q) X.xe s := by
  have eK : R.K = X.K := hb.K.trans hK.symm
  unfold dsl at e
  split at e
  · rename_i xs ex
    cases e
    obtain ⟨p, vs, ev, hh, rr⟩ := pa.lst si.sub ex
    rw [eK] at hh
    refine sl_list pins s σ H x v vl vu lo hi sl Q I rx hsl pl pu ⟨p, vs, ev, hh, fun n hn => ?_⟩
    obtain ⟨s1, s2⟩ := si.own_lst hn (rr.cut lo hi)
    exact q R _ _ (RLe.refl R) s1 s2
  · rename_i xs ex
    have nd : ¬ (∃ a' ys vs, x = .ref a' ∧ a = .lst ys ∧ H a' = some (.lst vs) ∧ RVs R ys vs) := fun ⟨_, ys, _, _, ea, _⟩ => by rw [ea] at ex; cases ex
    have nd2 : ¬ ∃ a' kvs, x = .ref a' ∧ a = .dct kvs ∧ ((∃ l, H a' = some (.dK l) ∧ RVk R kvs l) ∨ ∃ l, H a' = some (.dT l) ∧ RVt R kvs l) := fun ⟨_, ys, _, ea, _⟩ => by rw [ea] at ex; cases ex
    have ra : RV R .new a x := pa.resolve_right fun h => h.elim nd nd2
    obtain ⟨p, vs, ev, hh, rr⟩ := ra.tup_ ex
    rw [eK] at hh
    cases e
    refine sl_tupA pins s σ H x v vl vu lo hi sl Q I rx hsl pl pu ⟨p, vs, ev, si.sub.sqT hh, fun hw => ?_, fun hw n hn => ?_⟩
    · rw [rr.length] at hw
      rw [if_pos hw] at q
      rw [← ev]
      exact q R H _ (RLe.refl R) si ra
    · rw [rr.length] at hw
      rw [if_neg hw] at q
      obtain ⟨R', l, s1, s2⟩ := si.tup hn (rr.cut lo hi)
      exact q R' _ _ l s1 s2
  · rename_i z ez
    cases e
    obtain ⟨e1, e2⟩ := pa.str ez
    exact sl_str pins s σ H x v vl vu lo hi sl Q I rx hsl pl pu ⟨z, e1, e2, q R H _ (RLe.refl R) si (by show RV _ _ _ _; rw [RV]; exact ⟨rfl, Nat.le_trans (cutS_length z lo hi) e2⟩)⟩
  · cases e
end
/-- a part of a slice: left out, or an int -/
def rO : Rel (Option Int) (Option Int) := fun _ _ _ _ a b => a = b
def tO (C : EC) (F : SS → Out (Option Int)) : TO := fun σ H Q => T C rO F σ H Q
def fNoPart : SS → Out (Option Int) := fun S => .ok none S
def fPart (f : SS → Out D) : SS → Out (Option Int) := fun S => (f S).bind fun d S1 => match d.view with
  | .int i => .ok (some i) S1
  | _ => .no
def fSl (fa : SS → Out D) (fl fh : SS → Out (Option Int)) : SS → Out Res := fun S => (fa S).bind fun a S1 => (fl S1).bind fun l S2 => (fh S2).bind fun h S3 => match dsl a l h with
  | some r => .ok r S3
  | none => .no
/-- xs[::-1] of a list -/
def fRev (fa : SS → Out D) : SS → Out Res := fun S => (fa S).bind fun a S1 => match a.view with
  | .lst xs => .ok (.own (.lst xs.reverse)) S1
  | _ => .no
theorem RVs.reverse {R : RC} : ∀ {ds : List D} {vs : List V}, RVs R ds vs → RVs R ds.reverse vs.reverse
  | [], vs, h => by rw [RVs] at h; rw [h]; simp [RVs]
  | d :: ds, vs, h => by
    rw [RVs] at h
    obtain ⟨v, r, e, p, q⟩ := h
    rw [e, List.reverse_cons, List.reverse_cons]
    exact RVs.append (RVs.reverse q) (by rw [RVs]; exact ⟨v, [], rfl, p, by rw [RVs]⟩)
section
variable {X : Cx} {C : EC} {a b : Expr} {fa fb : SS → Out D} {lo hi : Option Expr} {fl fh : SS → Out (Option Int)} {pos p2 : Pos}
theorem pe_fIdx (hu : X.A.units + 1 < cLine) (hK : X.K = C.G.K) (hp : PlainIx b) (ha : PE X a (tD C fa)) (hb : PE X b (tD C fb)) : PE X (.Subscript a b pos) (tE C (fIdx fa fb)) := by
  refine ⟨fun pins s σ H Q I h => ?_⟩
  have h' : tD C fa σ H fun x H1 => tD C fb σ H1 fun y H2 => ∃ R S a b d, Base C R ∧ SI R S σ H2 ∧ RV R .new a x ∧ RV R .new b y ∧ didx a b = some d ∧ ∀ z, RV R .new d z → Q z H2 := by
    refine (seqT' (rel := rV) h).mono fun x H1 ⟨R1, S1, a, b1, s1, ra, h1⟩ => ?_
    refine (seqT (rel := rV) b1 s1 h1).mono fun y H2 ⟨R2, S2, b, l2, b2, s2, rb, h2⟩ => ?_
    try dsimp only at h2
    cases e : didx a b with
    | none => rw [e] at h2; exact h2.elim
    | some d => rw [e] at h2; exact ⟨R2, S2, a, b, d, b2, s2, RV.mono l2 ra, rb, e, fun z rz => h2 R2 H2 z (RLe.refl R2) s2 rz⟩
  exact Subscript_ (binT ha hb I h' fun v u s2 x y H2 I2 rx ry ⟨R, S, da, db, d, hb, si, ra, rb, e, q⟩ => ix_rule hu I2 (hb.K.trans hK.symm) si.sub (.inl ra) rb rx ry e (hp _ _) q)
theorem pe_fIdxV (hu : X.A.units + 1 < cLine) (hK : X.K = C.G.K) (hp : PlainIx b) {i : Nat} {x : Str} {np : Pos} (hN : X.N[i]? = some x) (hv : Vis X.env.scope x) (hd : (x == ("__debug__" : Str)) = false) (hcd : (x == ("__classdict__" : Str)) = false)
    (hb : PE X b (tD C fb)) : PE X (.Subscript (.Name x np) b pos) (tE C (fIdxV i fb)) := by
  refine ⟨fun pins s σ H Q I h => ?_⟩
  have h' : tVar i σ H fun x H1 => tD C fb σ H1 fun y H2 => ∃ R S a b d, Base C R ∧ SI R S σ H2 ∧ Pk R H2 a x ∧ RV R .new b y ∧ didx a b = some d ∧ ∀ z, RV R .new d z → Q z H2 := by
    -- the name's value is read ahead of the index; the slot keeps it
    obtain ⟨⟨w, ew⟩, h⟩ := has_run h
    refine ⟨w, ew, ?_⟩
    refine (seqT' (rel := rV) h).mono fun y H1 ⟨R1, S1, b, b1, s1, rb, h1⟩ => ?_
    try dsimp only at h1
    cases ep : peek S1 i with
    | none => rw [ep] at h1; exact h1.elim
    | some a =>
      rw [ep] at h1
      try dsimp only at h1
      cases e : didx a b with
      | none => rw [e] at h1; exact h1.elim
      | some d =>
        rw [e] at h1
        obtain ⟨w', ew', pk⟩ := s1.peek ep
        rw [ew] at ew'
        cases ew'
        exact ⟨R1, S1, a, b, d, b1, s1, pk, rb, e, fun z rz => h1 R1 H1 z (RLe.refl R1) s1 rz⟩
  exact Subscript_ (binT (pe_var hN hv hd hcd) hb I h' fun v u s2 x y H2 I2 rx ry ⟨R, S, da, db, d, hb, si, pa, rb, e, q⟩ => ix_rule hu I2 (hb.K.trans hK.symm) si.sub pa rb rx ry e (hp _ _) q)
theorem po_fNone : PO X none (tO C fNoPart) := ⟨fun pins s σ H Q I h => po_none.run pins s σ H Q I (by
  obtain ⟨R, S, b, si, p⟩ := h
  exact p R H none (RLe.refl R) si rfl)⟩
theorem po_fSome (ha : PE X a (tD C fa)) : PO X (some a) (tO C (fPart fa)) := by
  refine ⟨fun pins s σ H Q I h => (po_some ha).run pins s σ H Q I ?_⟩
  refine (seqT' (rel := rV) h).mono fun x H1 ⟨R, S, d, b1, s1, rd, p⟩ => ?_
  try dsimp only at p
  split at p
  · rename_i i ei
    exact ⟨i, rd.int_ ei, p R H1 (some i) (RLe.refl R) s1 rfl⟩
  · exact p.elim
theorem pe_fSl {ps : Pos} (hK : X.K = C.G.K) (ha : PE X a (tD C fa)) (hl : PO X lo (tO C fl)) (hh : PO X hi (tO C fh)) : PE X (.Subscript a (.Slice lo hi none ps) pos) (tE C (fSl fa fl fh)) := by
  refine ⟨fun pins s σ H Q I h => ?_⟩
  refine Subscript_ (thn (ha.run pins s σ H _ I (seqT' (rel := rV) h)) fun v s1 ⟨x, H1, I1, r1, R1, S1, da, b1, i1, ra, p1⟩ => ?_)
  refine wpAny_Slice (thn (hl.run pins s1 σ H1 _ I1 (seqT (rel := rO) b1 i1 p1)) fun vl s2 ⟨l, H2, I2, pl, R2, S2, l', l2, b2, i2, el, p2⟩ => ?_)
  have el : l' = l := el
  subst el
  refine thn (hh.run pins s2 σ H2 _ I2 (seqT (rel := rO) b2 i2 p2)) fun vu s3 ⟨u, H3, I3, pu, R3, S3, u', l3, b3, i3, eu, p3⟩ => ?_
  have eu : u' = u := eu
  subst eu
  rw [evalPart_none]
  refine wpAny_pure ?_
  have I4 : Inv X pins σ H3 { s3 with heap := s3.heap.push { cls := .type "slice", data := .fields #[vl, vu, .none] } } := I3.kept (t' := s3.toks) fun b ob q => Heap.get?_push_of_some _ q
  try dsimp only at p3
  cases er : dsl da l' u' with
  | none => rw [er] at p3; exact p3.elim
  | some r =>
    rw [er] at p3
    obtain ⟨T, id, hT, ht, hg⟩ := sl_rule (s := { s3 with heap := s3.heap.push { cls := .type "slice", data := .fields #[vl, vu, .none] } }) (sl := s3.heap.objs.size) (Q := Q) I4 b3 hK i3 (.inl (RV.mono (l2.trans l3) ra)) r1 (Heap.IsSliceOf.new ..) pl pu er fun R' H' z l si rr => p3 R' H' z l si rr
    show wpAny (model X.prog X.w) X.A (subscriptTail a (.Slice lo hi none ps) v (.ref s3.heap.objs.size)) (EP X pins σ Q) X.xe { s3 with heap := s3.heap.push { cls := .type "slice", data := .fields #[vl, vu, .none] } }
    exact tail_any (ops := [.ref s3.heap.objs.size, v]) ht hT hg (by with_unfolding_all rfl)
theorem pe_fRev (hK : X.K = C.G.K) (ha : PE X a (tD C fa)) {k : Nat} {p1 p2 p3 : Pos} : PE X (.Subscript a (.Slice none none (some (.UnaryOp .USub (.Constant (.int 1) k p1) p2)) p3) pos) (tE C (fRev fa)) := by
  refine ⟨fun pins s σ H Q I h => (pe_revL ha).run pins s σ H Q I ?_⟩
  refine (seqT' (rel := rV) h).mono fun x H1 ⟨R, S, d, b1, s1, rd, p⟩ => ?_
  try dsimp only at p
  split at p
  · rename_i xs ex
    obtain ⟨a', vs, ev, hh, rr⟩ := rd.lst_ ex
    rw [b1.K, ← hK] at hh
    refine ⟨a', vs, ev, s1.sub.sqL hh, fun n hn => ?_⟩
    obtain ⟨t1, t2⟩ := s1.own_lst hn rr.reverse
    exact p R _ _ (RLe.refl R) t1 t2
  · exact p.elim
/-! ### argument lists and displays -/
def fNil : SS → Out (List D) := fun S => .ok [] S
def fCons (f : SS → Out D) (g : SS → Out (List D)) : SS → Out (List D) := fun S => (f S).bind fun d S1 => (g S1).bind fun ds S2 => .ok (d :: ds) S2
def fTup (g : SS → Out (List D)) : SS → Out Res := fun S => (g S).bind fun ds S1 => if ds.length ≤ sizeLine then .ok (.val (.tup ds)) S1 else .no
def fLst (g : SS → Out (List D)) : SS → Out Res := fun S => (g S).bind fun ds S1 => if ds.length ≤ sizeLine then .ok (.own (.lst ds)) S1 else .no
variable {e : Expr} {es : List Expr} {f : SS → Out D} {g : SS → Out (List D)}
def plainArg : Expr → Bool
  | .Starred _ _ => false
  | _ => true
theorem starEach_plain {env : Env} (h : plainArg e = true) : starEach (e :: es) env = (false, eval e env) :: starEach es env := by
  cases e <;> first | rfl | (exact absurd h Bool.false_ne_true)
theorem pa_fNil : PA X [] (tA C fNil) := ⟨fun pos pins s σ H Q I h => pa_nil.run pos pins s σ H Q I (by
  obtain ⟨R, S, b, si, p⟩ := h
  exact p R H [] (RLe.refl R) si (by show RVs _ _ _; rw [RVs]))⟩
theorem pa_fCons (hp : plainArg e = true) (ha : PE X e (tD C f)) (hr : PA X es (tA C g)) : PA X (e :: es) (tA C (fCons f g)) := by
  refine ⟨fun pos pins s σ H Q I h => (pa_cons ha hr (starEach_plain hp)).run pos pins s σ H Q I ?_⟩
  refine (seqT' (rel := rV) h).mono fun x H1 ⟨R, S, d, b1, s1, rd, p⟩ => ?_
  refine (seqT (rel := rVs) b1 s1 p).mono fun xs H2 ⟨R2, S2, ds, l2, b2, s2, rds, p2⟩ => ?_
  exact p2 R2 H2 (x :: xs) (RLe.refl R2) s2 (by show RVs _ _ _; rw [RVs]; exact ⟨x, xs, rfl, RV.mono l2 rd, rds⟩)
theorem pe_fTup (h : PA X es (tA C g)) {x1 : Nat} : PE X (.Tuple es x1 pos) (tE C (fTup g)) := by
  refine ⟨fun pins s σ H Q I q => (pe_tup h).run pins s σ H Q I ?_⟩
  refine (seqT' (rel := rVs) q).mono fun xs H1 ⟨R, S, ds, b1, s1, rd, p⟩ => ?_
  try dsimp only at p
  split at p
  · rename_i hl
    refine ⟨by rw [rd.length]; exact hl, fun n hn => ?_⟩
    obtain ⟨R', l, t1, t2⟩ := s1.tup hn rd
    exact p R' _ _ l t1 t2
  · exact p.elim
theorem pe_fLst (h : PA X es (tA C g)) : PE X (.List es pos) (tE C (fLst g)) := by
  refine ⟨fun pins s σ H Q I q => (pe_lst h).run pins s σ H Q I ?_⟩
  refine (seqT' (rel := rVs) q).mono fun xs H1 ⟨R, S, ds, b1, s1, rd, p⟩ => ?_
  try dsimp only at p
  split at p
  · rename_i hl
    refine ⟨by rw [rd.length]; exact hl, fun n hn => ?_⟩
    obtain ⟨t1, t2⟩ := s1.own_lst hn rd
    exact p R _ _ (RLe.refl R) t1 t2
  · exact p.elim
end
end Ev
namespace Ev
open PySem PySem.Spec PyProof.Rows L2
/-! ## 9. statements -/
inductive Fl where
  | nx | rt (r : Res) | bk | ct
def PoS (C : EC) (D : Ends) (R : RC) (o : Out Fl) : Prop :=
  match o with
  | .ok .nx S' => ∀ R' σ' H', RLe R R' → SI R' S' σ' H' → D.nx σ' H'
  | .ok .bk S' => ∀ R' σ' H', RLe R R' → SI R' S' σ' H' → D.bk σ' H'
  | .ok .ct S' => ∀ R' σ' H', RLe R R' → SI R' S' σ' H' → D.ct σ' H'
  | .ok (.rt r) S' => ∀ R' σ' H' x, RLe R R' → SI R' S' σ' H' → RR R' S' σ' H' r x → D.rt x H'
  | .exc c fs S' => ∀ R' σ' H' d, RLe R R' → SI R' S' σ' H' → XR R' H' c fs d → C.W (.ref (R.ca c)) d σ' H'
  | .no => False
def tS (C : EC) (F : SS → Out Fl) : TS := fun D σ H => ∃ R S, Base C R ∧ SI R S σ H ∧ PoS C D R (F S)
section
variable {α β : Type} {C : EC} {D D' : Ends} {rel : Rel α β} {R R' : RC} {σ : L2.St} {H : Hp} {S : SS} {F : SS → Out α} {K : α → SS → Out Fl}
theorem PoS.up {o : Out Fl} (h : PoS C D R o) (l : RLe R R') : PoS C D R' o := by
  cases o with
  | ok a S' =>
    cases a with
    | nx => exact fun R'' σ' H' l' si => h R'' σ' H' (l.trans l') si
    | bk => exact fun R'' σ' H' l' si => h R'' σ' H' (l.trans l') si
    | ct => exact fun R'' σ' H' l' si => h R'' σ' H' (l.trans l') si
    | rt r => exact fun R'' σ' H' x l' si rr => h R'' σ' H' x (l.trans l') si rr
  | exc c fs S' =>
    intro R'' σ' H' d l' si x
    have e : R'.ca = R.ca := by rw [l.rs]
    rw [e]
    exact h R'' σ' H' d (l.trans l') si x
  | no => exact h
/-- an expression, then a statement's rest -/
theorem seqTS (b : Base C R) (si : SI R S σ H) (h : PoS C D R ((F S).bind K)) :
    T C rel F σ H fun x H1 => ∃ R1 S1 a, RLe R R1 ∧ Base C R1 ∧ SI R1 S1 σ H1 ∧ rel R1 S1 σ H1 a x ∧ PoS C D R1 (K a S1) := by
  refine ⟨R, S, b, si, ?_⟩
  cases e : F S with
  | ok a S' =>
    rw [e] at h
    exact fun R' H' x l si' r => ⟨R', S', a, l, b.le l, si', r, h.up l⟩
  | exc c fs S' =>
    rw [e] at h
    exact fun R' H' d l si x => h R' σ H' d l si x
  | no => rw [e] at h; exact h
theorem seqTS' (h : tS C (fun S => (F S).bind K) D σ H) :
    T C rel F σ H fun x H1 => ∃ R1 S1 a, Base C R1 ∧ SI R1 S1 σ H1 ∧ rel R1 S1 σ H1 a x ∧ PoS C D R1 (K a S1) := by
  obtain ⟨R, S, b, si, p⟩ := h
  exact (seqTS (rel := rel) b si p).mono fun x H1 ⟨R1, S1, a, _, b1, s1, r1, p1⟩ => ⟨R1, S1, a, b1, s1, r1, p1⟩
end
theorem pss_mono {X : Cx} {st : List Stmt} {t t' : TS} (h : PSs X st t) (m : ∀ D σ H, t' D σ H → t D σ H) : PSs X st t' := ⟨fun pins s σ H D I q => h.run pins s σ H D I (m D σ H q)⟩
theorem ps_mono {X : Cx} {st : Stmt} {t t' : TS} (h : PS X st t) (m : ∀ D σ H, t' D σ H → t D σ H) : PS X st t' := ⟨fun pins s σ H D I q => h.run pins s σ H D I (m D σ H q)⟩
def fNext : SS → Out Fl := fun S => .ok .nx S
def fBreak : SS → Out Fl := fun S => .ok .bk S
def fCont : SS → Out Fl := fun S => .ok .ct S
def fSeq (F G : SS → Out Fl) : SS → Out Fl := fun S => (F S).bind fun fl S1 => match fl with
  | .nx => G S1
  | fl => .ok fl S1
def fSet (i : Nat) (f : SS → Out Res) : SS → Out Fl := fun S => (f S).bind fun r S1 => .ok .nx (S1.put i r)
def fIfS (c : SS → Out Bool) (F G : SS → Out Fl) : SS → Out Fl := fun S => (c S).bind fun b S1 => if b = true then F S1 else G S1
def fRet (f : SS → Out Res) : SS → Out Fl := fun S => (f S).bind fun r S1 => .ok (.rt r) S1
def fRetN : SS → Out Fl := fun S => .ok (.rt (.val .non)) S
def fDrop (f : SS → Out Res) : SS → Out Fl := fun S => (f S).bind fun _ S1 => .ok .nx S1
/-- a name at its last use: what it owns is let go -/
def fMove (i : Nat) : SS → Out Res := fun S =>
  match S.dl[i]? with
  | some (.val d) => .ok (.val d) S
  | some (.own o) => .ok (.own o) (S.drop i)
  | _ => .no
section
variable {X : Cx} {C : EC} {st : Stmt} {rest : List Stmt} {F G : SS → Out Fl} {f : SS → Out Res} {c : SS → Out Bool} {e : Expr} {pos : Pos}
theorem pss_fNext : PSs X [] (tS C fNext) := pss_mono pss_nil fun D σ H ⟨R, S, b, si, p⟩ => p R σ H (RLe.refl R) si
theorem ps_fPass : PS X (.Pass pos) (tS C fNext) := ps_mono ps_pass fun D σ H ⟨R, S, b, si, p⟩ => p R σ H (RLe.refl R) si
theorem ps_fBreak : PS X (.Break pos) (tS C fBreak) := ps_mono ps_break fun D σ H ⟨R, S, b, si, p⟩ => p R σ H (RLe.refl R) si
theorem ps_fCont : PS X (.Continue pos) (tS C fCont) := ps_mono ps_continue fun D σ H ⟨R, S, b, si, p⟩ => p R σ H (RLe.refl R) si
theorem tS_seq {D : Ends} {σ : L2.St} {H : Hp} (h : tS C (fSeq F G) D σ H) : tSeq (tS C F) (tS C G) D σ H := by
  obtain ⟨R, S, b, si, p⟩ := h
  refine ⟨R, S, b, si, ?_⟩
  unfold fSeq at p
  cases q : F S with
  | ok fl S1 =>
    rw [q] at p
    cases fl with
    | nx => exact fun R' σ' H' l si' => ⟨R', S1, b.le l, si', PoS.up p l⟩
    | rt r => exact p
    | bk => exact p
    | ct => exact p
  | exc c fs S1 => rw [q] at p; exact p
  | no => rw [q] at p; exact p
theorem pss_fSeq (h1 : PS X st (tS C F)) (h2 : PSs X rest (tS C G)) : PSs X (st :: rest) (tS C (fSeq F G)) := pss_mono (pss_cons h1 h2) fun _ _ _ h => tS_seq h
theorem pss_fOne (h1 : PS X st (tS C F)) : PSs X [st] (tS C F) := pss_one h1
theorem ps_fSet {i : Nat} {x : Str} {pos' : Pos} (hN : X.N.Nodup) (hi : X.N[i]? = some x) (hx : Loc X.env.scope x) (he : PE X e (tE C f)) (hs : swapsWith e (some (.Name x pos')) pos.line X.env = pure false) (hf : X.fn x = true ∨ X.env.scope.names.lookup x = some .local) :
    PS X (.Assign [.Name x pos'] e pos) (tS C (fSet i f)) := by
  refine ps_mono (ps_set hN hi hx he hs hf) fun D σ H h => ?_
  refine (seqTS' (rel := rR) h).mono fun v H1 ⟨R, S, r, b, si, rr, p⟩ => ?_
  exact p R _ H1 (RLe.refl R) (si.put rr)
theorem ps_fIf {a b : List Stmt} {e : Expr} (hc : PT X e (tT C c)) (ha : PSs X a (tS C F)) (hb : PSs X b (tS C G)) : PS X (.If e a b pos) (tS C (fIfS c F G)) := by
  refine ps_mono (ps_if hc ha hb) fun D σ H h => ?_
  refine (seqTS' (rel := rB) h).mono fun v H1 ⟨R, S, r, b, si, rr, p⟩ => ?_
  have rr : r = v := rr
  subst rr
  try dsimp only at p
  cases r with
  | true => rw [if_pos rfl] at p; rw [if_pos rfl]; exact ⟨R, S, b, si, p⟩
  | false => rw [if_neg Bool.false_ne_true] at p; rw [if_neg Bool.false_ne_true]; exact ⟨R, S, b, si, p⟩
theorem ps_fRet (he : PE X e (tE C f)) : PS X (.Return (some e) pos) (tS C (fRet f)) := by
  refine ps_mono (ps_ret he) fun D σ H h => ?_
  refine (seqTS' (rel := rR) h).mono fun v H1 ⟨R, S, r, b, si, rr, p⟩ => ?_
  exact p R σ H1 v (RLe.refl R) si rr
theorem ps_fRetN : PS X (.Return none pos) (tS C fRetN) := ps_mono ps_retN fun D σ H ⟨R, S, b, si, p⟩ => p R σ H .non (RLe.refl R) si (by show RV _ _ _ _; rw [RV])
theorem ps_fDrop (he : PE X e (tE C f)) (hs : swapsWith e none pos.line X.env = pure false) : PS X (.Expr e pos) (tS C (fDrop f)) := by
  refine ps_mono (ps_expr he hs) fun D σ H h => ?_
  refine (seqTS' (rel := rR) h).mono fun v H1 ⟨R, S, r, b, si, rr, p⟩ => ?_
  exact p R σ H1 (RLe.refl R) si
theorem ps_fDoc {x : Str} {j : Nat} {p p' : Pos} : PS X (.Expr (.Constant (.str x) j p) p') (tS C fNext) := ps_mono ps_doc fun D σ H ⟨R, S, b, si, p⟩ => p R σ H (RLe.refl R) si
theorem pe_fMove {i : Nat} {x : Str} (hN : X.N[i]? = some x) (hv : Vis X.env.scope x) (hd : (x == ("__debug__" : Str)) = false) (hcd : (x == ("__classdict__" : Str)) = false) : PE X (.Name x pos) (tE C (fMove i)) := by
  refine ⟨fun pins s σ H Q I h => ?_⟩
  obtain ⟨R, S, b, si, p⟩ := h
  unfold fMove at p
  cases e : S.dl[i]? with
  | none => rw [e] at p; exact p.elim
  | some sl =>
    rw [e] at p
    cases sl with
    | none => exact p.elim
    | val d =>
      obtain ⟨v, ev, rv⟩ := si.val i d e
      exact (pe_var hN hv hd hcd).run pins s σ H Q I ⟨v, ev, p R H v (RLe.refl R) si rv⟩
    | own o =>
      obtain ⟨v, ev, si2, rr⟩ := si.move e
      exact (pe_var hN hv hd hcd).run pins s σ H Q I ⟨v, ev, p R H v (RLe.refl R) si2 rr⟩
/-- while, with fuel -/
def fWhile (n : Nat) (c : SS → Out Bool) (F : SS → Out Fl) : SS → Out Fl :=
  match n with
  | 0 => fun _ => .no
  | n + 1 => fun S => (c S).bind fun b S1 => if b = true then (F S1).bind fun fl S2 => match fl with
      | .nx => fWhile n c F S2
      | .ct => fWhile n c F S2
      | .bk => .ok .nx S2
      | .rt r => .ok (.rt r) S2 else .ok .nx S1
theorem ps_fWhile {body : List Stmt} (n : Nat) (hp : PassesOwn (model X.prog X.w) X.A X.env X.xe) (hc : PT X e (tT C c)) (hb : PSs X body (tS C F)) : PS X (.While e body [] pos) (tS C (fWhile n c F)) := by
  refine ps_mono (ps_while hp hc hb) fun D σ H h => ?_
  refine ⟨fun m σ' H' => tS C (fWhile m c F) D σ' H', ⟨n, h⟩, fun m σ' H' h' => ?_⟩
  cases m with
  | zero => obtain ⟨R, S, b, si, p⟩ := h'; exact p.elim
  | succ m =>
    refine (seqTS' (rel := rB) h').mono fun v H1 ⟨R, S, r, b, si, rr, p⟩ => ?_
    have rr : r = v := rr
    subst rr
    try dsimp only at p
    cases r with
    | false => rw [if_neg Bool.false_ne_true] at p ⊢; exact p R σ' H1 (RLe.refl R) si
    | true =>
      rw [if_pos rfl] at p ⊢
      refine ⟨fun σ2 H2 => tS C (fWhile m c F) D σ2 H2, fun σ2 H2 q => ⟨m, Nat.lt_succ_self _, q⟩, R, S, b, si, ?_⟩
      cases q : F S with
      | ok fl S1 =>
        rw [q] at p
        cases fl with
        | nx => exact fun R' σ2 H2 l si' => ⟨R', S1, b.le l, si', PoS.up p l⟩
        | ct => exact fun R' σ2 H2 l si' => ⟨R', S1, b.le l, si', PoS.up p l⟩
        | bk => exact fun R' σ2 H2 l si' => p R' σ2 H2 l si'
        | rt r => exact p
      | exc c fs S1 => rw [q] at p; exact p
      | no => rw [q] at p; exact p
end
end Ev
namespace Ev
open PySem PySem.Spec PyProof.Rows L2
/-! ## 10. targets, what is walked, for -/
section
variable {X : Cx} {e : Expr} {st : Stmt}
theorem pi_or {tg : Expr} {w1 w2 : TI} (h1 : PI X tg e w1) (h2 : PI X tg e w2) : PI X tg e (fun σ H R => w1 σ H R ∨ w2 σ H R) := ⟨fun pins s σ H R I h => h.elim (h1.run pins s σ H R I) (h2.run pins s σ H R I)⟩
theorem pi_mono {tg : Expr} {w w' : TI} (h : PI X tg e w) (m : ∀ σ H R, w' σ H R → w σ H R) : PI X tg e w' := ⟨fun pins s σ H R I q => h.run pins s σ H R I (m σ H R q)⟩
theorem pg_or {g1 g2 : TG} (h1 : L2.PG X e g1) (h2 : L2.PG X e g2) : L2.PG X e (fun v σ H Q => g1 v σ H Q ∨ g2 v σ H Q) := ⟨fun pins s σ H v u Q I r h => h.elim (h1.run pins s σ H v u Q I r) (h2.run pins s σ H v u Q I r)⟩
theorem pg_mono {g g' : TG} (h : L2.PG X e g) (m : ∀ v σ H Q, g' v σ H Q → g v σ H Q) : L2.PG X e g' := ⟨fun pins s σ H v u Q I r q => h.run pins s σ H v u Q I r (m v σ H Q q)⟩
theorem pgs_mono {es : List Expr} {g g' : TGs} (h : L2.PGs X es g) (m : ∀ v σ H Q, g' v σ H Q → g v σ H Q) : L2.PGs X es g' := ⟨fun pins s σ H v u Q I r q => h.run pins s σ H v u Q I r (m v σ H Q q)⟩
theorem ps_or {t u : TS} (h1 : PS X st t) (h2 : PS X st u) : PS X st (fun D σ H => t D σ H ∨ u D σ H) := ⟨fun pins s σ H D I h => h.elim (h1.run pins s σ H D I) (h2.run pins s σ H D I)⟩
theorem pe_or {t u : TE} (h1 : PE X e t) (h2 : PE X e u) : PE X e (fun σ H Q => t σ H Q ∨ u σ H Q) := ⟨fun pins s σ H D I h => h.elim (h1.run pins s σ H D I) (h2.run pins s σ H D I)⟩
theorem pe_mono {t t' : TE} (h : PE X e t) (m : ∀ σ H Q, t' σ H Q → t σ H Q) : PE X e t' := ⟨fun pins s σ H D I q => h.run pins s σ H D I (m σ H D q)⟩
end
/-! ### targets -/
inductive Tg where
  | nm (i : Nat) | lb (i : Nat) | tup (ts : List Tg)
def D.isBox (d : D) : Bool :=
  match d.lview with
  | .lst _ => true
  | .dct _ => true
  | _ => false
mutual
def Tg.put : Tg → D → SS → Option SS
  | .nm i, d, S => some (S.put i (.val d))
  | .lb i, d, S => if d.isBox then some (({ S with lc := S.lc + 1 } : SS).put i (.val (.lab (S.lc + 1) d))) else some (S.put i (.val d))
  | .tup ts, d, S => match d.view with
    | .tup ds => putAll ts ds S
    | .lst ds => putAll ts ds S
    | _ => none
def putAll : List Tg → List D → SS → Option SS
  | [], [], S => some S
  | t :: ts, d :: ds, S => match t.put d S with
    | some S1 => putAll ts ds S1
    | none => none
  | _, _, _ => none
end
mutual
def Tg.ixs : Tg → List Nat
  | .nm i => [i]
  | .lb i => [i]
  | .tup ts => ixsAll ts
def ixsAll : List Tg → List Nat
  | [] => []
  | t :: ts => t.ixs ++ ixsAll ts
end
/-- only the slots at vs are stored to -/
def Chg (vs : List Nat) (σ σ' : L2.St) : Prop := σ'.length = σ.length ∧ ∀ j, j ∉ vs → σ'[j]? = σ[j]?
theorem Chg.set {i : Nat} {vs : List Nat} {σ : L2.St} {v : Option V} (h : i ∈ vs) : Chg vs σ (σ.set i v) := ⟨by simp, fun j hj => List.getElem?_set_ne (fun z : i = j => hj (by rw [← z]; exact h))⟩
theorem putAll_len : ∀ {ts : List Tg} {ds : List D} {S S' : SS}, putAll ts ds S = some S' → ds.length = ts.length
  | [], [], _, _, _ => rfl
  | t :: ts, d :: ds, S, S', h => by
    rw [putAll] at h
    cases e : t.put d S with
    | none => rw [e] at h; cases h
    | some S1 => rw [e] at h; simp [putAll_len h]
  | [], _ :: _, _, _, h => by simp [putAll] at h
  | _ :: _, [], _, _, h => by simp [putAll] at h
/-- a value gets a new label -/
theorem SI.label {R : RC} {S : SS} {σ : L2.St} {H : Hp} {d : D} {v : V} (si : SI R S σ H) (rv : RV R .new d v) : ∃ R', RLe R R' ∧ SI R' { S with lc := S.lc + 1 } σ H ∧ RV R' .new (.lab (S.lc + 1) d) v := by
  have le : RLe R { R with lb := fun n => if n = S.lc + 1 then some v else R.lb n } := ⟨rfl, rfl, fun _ _ h => h, fun n w h => by
    have := si.lbl n w h
    show (if n = S.lc + 1 then some v else R.lb n) = some w
    rw [if_neg (by omega)]; exact h, fun _ _ h => h⟩
  refine ⟨_, le, ?_, ?_⟩
  · exact {
      len := si.len
      sub0 := si.sub0
      lkz := si.lkz
      l0 := si.l0
      nfz := si.nfz
      z0 := si.z0
      new := si.new
      ntb := si.ntb
      tb := si.tb
      keep := si.keep
      dom := si.dom
      oldd := si.oldd
      val := fun i d e => by obtain ⟨v, e1, r⟩ := si.val i d e; exact ⟨v, e1, r.mono le⟩
      own := fun i o e => by
        obtain ⟨a, e1, w⟩ := si.own i o e
        exact ⟨a, e1, w.mono le w.2.2.1 rfl⟩
      disj := si.disj
      ref := fun k o e => by
        obtain ⟨a, e1, w⟩ := si.ref k o e
        exact ⟨a, e1, w.mono le.v w.1 rfl⟩
      rlt := si.rlt
      rfr := si.rfr
      rs0 := si.rs0
      rno := si.rno
      rinj := si.rinj
      lbl := fun n w e => by
        have e : (if n = S.lc + 1 then some v else R.lb n) = some w := e
        show n ≤ S.lc + 1
        by_cases h : n = S.lc + 1
        · omega
        · rw [if_neg h] at e
          have := si.lbl n w e
          omega }
  · rw [RV]
    exact ⟨fun _ => if_pos rfl, (rv.mono le).our⟩
def tG (C : EC) (t : Tg) : TG := fun v σ H Q => ∃ R S d S', Base C R ∧ SI R S σ H ∧ RV R .new d v ∧ t.put d S = some S' ∧ ∀ R' σ', RLe R R' → SI R' S' σ' H → Chg t.ixs σ σ' → Q σ' H
def tGs (C : EC) (ts : List Tg) : TGs := fun vs σ H Q => ∃ R S ds S', Base C R ∧ SI R S σ H ∧ RVs R ds vs ∧ putAll ts ds S = some S' ∧ ∀ R' σ', RLe R R' → SI R' S' σ' H → Chg (ixsAll ts) σ σ' → Q σ' H
section
variable {X : Cx} {C : EC} {pos : Pos} {e : Expr} {es : List Expr} {t : Tg} {ts : List Tg}
theorem pg_fNm {i : Nat} {x : Str} (hN : X.N.Nodup) (hi : X.N[i]? = some x) (hx : Loc X.env.scope x) (hf : X.fn x = true ∨ X.env.scope.names.lookup x = some .local) : L2.PG X (.Name x pos) (tG C (.nm i)) := by
  refine pg_mono (pg_name hN hi hx hf) fun v σ H Q ⟨R, S, d, S', b, si, rv, e, q⟩ => ?_
  rw [Tg.put] at e
  cases e
  exact q R _ (RLe.refl R) (si.put (r := .val d) rv) (Chg.set (by simp [Tg.ixs]))
theorem pg_fLb {i : Nat} {x : Str} (hN : X.N.Nodup) (hi : X.N[i]? = some x) (hx : Loc X.env.scope x) (hf : X.fn x = true ∨ X.env.scope.names.lookup x = some .local) : L2.PG X (.Name x pos) (tG C (.lb i)) := by
  refine pg_mono (pg_name hN hi hx hf) fun v σ H Q ⟨R, S, d, S', b, si, rv, e, q⟩ => ?_
  rw [Tg.put] at e
  split at e
  · cases e
    obtain ⟨R', le, si', rv'⟩ := si.label rv
    exact q R' _ le (si'.put (r := .val _) rv') (Chg.set (by simp [Tg.ixs]))
  · cases e
    exact q R _ (RLe.refl R) (si.put (r := .val d) rv) (Chg.set (by simp [Tg.ixs]))
theorem pgs_fNil : L2.PGs X [] (tGs C []) := by
  refine pgs_mono pgs_nil fun v σ H Q ⟨R, S, ds, S', b, si, rv, e, q⟩ => ?_
  cases ds with
  | nil => rw [RVs] at rv; rw [putAll] at e; cases e; exact ⟨rv, q R σ (RLe.refl R) si ⟨rfl, fun _ _ => rfl⟩⟩
  | cons d ds => have := putAll_len e; simp at this
theorem pgs_fCons (h1 : L2.PG X e (tG C t)) (h2 : L2.PGs X es (tGs C ts)) (hs : (assignEach (e :: es) X.env).map (·.2) = assign e X.env :: (assignEach es X.env).map (·.2)) : L2.PGs X (e :: es) (tGs C (t :: ts)) := by
  refine pgs_mono (pgs_cons h1 h2 hs) fun v σ H Q ⟨R, S, ds, S', b, si, rv, e, q⟩ => ?_
  cases ds with
  | nil => have := putAll_len e; simp at this
  | cons d ds =>
    rw [RVs] at rv
    obtain ⟨w, r, ev, r1, r2⟩ := rv
    rw [putAll] at e
    cases e1 : t.put d S with
    | none => rw [e1] at e; cases e
    | some S1 =>
      rw [e1] at e
      exact ⟨w, r, ev, R, S, d, S1, b, si, r1, e1, fun R' σ' l si' ch => ⟨R', S1, ds, S', b.le l, si', RVs.mono l r2, e, fun R'' σ'' l' si'' ch' => q R'' σ'' (l.trans l') si'' ⟨ch'.1.trans ch.1, fun j hj => by rw [ixsAll, List.mem_append, not_or] at hj; rw [ch'.2 j hj.2, ch.2 j hj.1]⟩⟩⟩
theorem pg_fTup (hc : X.calm = true) (hK : X.K = C.G.K) {k : Nat} (h : L2.PGs X es (tGs C ts)) (hn : (assignEach es X.env).length = ts.length) (hst : (assignEach es X.env).findIdx? (·.1) = none) : L2.PG X (.Tuple es k pos) (tG C (.tup ts)) := by
  refine pg_mono (pg_or (pg_tup hc h hn hst) (pg_unl hc h hn hst)) fun v σ H Q ⟨R, S, d, S', b, si, rv, e, q⟩ => ?_
  rw [Tg.put] at e
  rw [Tg.ixs] at q
  have eK : R.K = X.K := b.K.trans hK.symm
  split at e
  · rename_i ds ed
    obtain ⟨a, vs, ev, hh, rr⟩ := rv.tup_ ed
    rw [eK] at hh
    exact .inl ⟨a, vs, ev, si.sub.sqT hh, by rw [rr.length, putAll_len e], R, S, ds, S', b, si, rr, e, q⟩
  · rename_i ds ed
    obtain ⟨a, vs, ev, hh, rr⟩ := rv.lst_ ed
    rw [eK] at hh
    exact .inr ⟨a, vs, ev, si.sub.sqL hh, by rw [rr.length, putAll_len e], R, S, ds, S', b, si, rr, e, q⟩
  · cases e
end
/-! ### what is walked -/
/-- J yields just ds -/
def Serves (R : RC) (ds : List D) (J : It) : Prop := ∀ (i : Nat) R' S' σ' H', RLw R R' → SI R' S' σ' H' →
  (ds.length ≤ i → J.stop i H') ∧ ∀ d, ds[i]? = some d → J.go i H' ∧ ∀ x H'', J.yld i H' x H'' → ∃ R'', RLe R' R'' ∧ SI R'' S' σ' H'' ∧ RV R'' .new d x
theorem Serves.up {R R' : RC} {ds : List D} {J : It} (h : Serves R ds J) (l : RLe R R') : Serves R' ds J := fun i R'' S' σ' H' l' si => h i R'' S' σ' H' (l.w.trans l') si
def rIt : Rel (List D) It := fun R _ _ _ ds J => Serves R ds J
def tI (C : EC) (f : SS → Out (List D)) : TI := fun σ H Q => T C rIt f σ H Q
def fFor (t : Tg) (F : SS → Out Fl) : List D → SS → Out Fl
  | [] => fun S => .ok .nx S
  | d :: ds => fun S => match t.put d S with
    | none => .no
    | some S1 => (F S1).bind fun fl S2 => match fl with
      | .nx => fFor t F ds S2
      | .ct => fFor t F ds S2
      | .bk => .ok .nx S2
      | .rt r => .ok (.rt r) S2
/-- the loop, its iterator at hand -/
theorem for_core {C : EC} {t : Tg} {F : SS → Out Fl} {D : Ends} {σ : L2.St} {H : Hp} {R : RC} {S : SS} {ds : List Ev.D} {J : It} (b : Base C R) (si : SI R S σ H) (sv : Serves R ds J) (p : PoS C D R (fFor t F ds S)) :
    ∃ W : Nat → Nat → L2.St → Hp → Prop, (∃ m, W 0 m σ H) ∧ ∀ i m σ H, W i m σ H →
      (J.stop i H ∧ D.nx σ H) ∨ (J.go i H ∧ ∃ N : L2.St → Hp → Prop, (∀ σ' H', N σ' H' → ∃ m', m' < m ∧ W (i + 1) m' σ' H') ∧ ∀ x H', J.yld i H x H' → tG C t x σ H' fun σ2 H2 => tS C F { D with nx := N, ct := N, bk := D.nx } σ2 H2) := by
  refine ⟨fun i m σ H => i + m = ds.length ∧ ∃ R' S', Base C R' ∧ RLe R R' ∧ SI R' S' σ H ∧ PoS C D R' (fFor t F (ds.drop i) S'), ⟨ds.length, by omega, R, S, b, RLe.refl R, si, p⟩, ?_⟩
  rintro i m σ H ⟨e, R', S', b', l', si', p'⟩
  obtain ⟨h1, h2⟩ := sv i R' S' σ H l'.w si'
  cases m with
  | zero =>
    have e' : i = ds.length := by omega
    refine .inl ⟨h1 (by omega), ?_⟩
    subst e'
    rw [List.drop_length] at p'
    exact p' R' σ H (RLe.refl R') si'
  | succ m =>
    have hlt : i < ds.length := by omega
    have hd := List.getElem?_eq_getElem hlt
    obtain ⟨hg, hy⟩ := h2 _ hd
    rw [List.drop_eq_getElem_cons hlt, fFor] at p'
    refine .inr ⟨hg, fun σ' H' => i + 1 + m = ds.length ∧ ∃ R' S', Base C R' ∧ RLe R R' ∧ SI R' S' σ' H' ∧ PoS C D R' (fFor t F (ds.drop (i + 1)) S'), fun σ' H' q => ⟨m, by omega, q⟩, fun x H' y => ?_⟩
    obtain ⟨R2, l2, si2, rv⟩ := hy x H' y
    dsimp only at p'
    cases e1 : t.put ds[i] S' with
    | none => rw [e1] at p'; exact p'.elim
    | some S1 =>
      rw [e1] at p'
      dsimp only at p'
      refine ⟨R2, S', _, S1, b'.le l2, si2, rv, e1, fun R3 σ3 l3 si3 _ => ⟨R3, S1, (b'.le l2).le l3, si3, ?_⟩⟩
      have p3 := PoS.up p' (l2.trans l3)
      have ll := l'.trans (l2.trans l3)
      cases q : F S1 with
      | ok fl S2 =>
        rw [q] at p3
        cases fl with
        | nx => exact fun R4 σ4 H4 l4 si4 => ⟨by omega, R4, S2, b.le (ll.trans l4), ll.trans l4, si4, PoS.up p3 l4⟩
        | ct => exact fun R4 σ4 H4 l4 si4 => ⟨by omega, R4, S2, b.le (ll.trans l4), ll.trans l4, si4, PoS.up p3 l4⟩
        | bk => exact fun R4 σ4 H4 l4 si4 => p3 R4 σ4 H4 l4 si4
        | rt r => exact p3
      | exc c fs S2 => rw [q] at p3; exact p3
      | no => rw [q] at p3; exact p3
section
variable {X : Cx} {C : EC} {pos : Pos} {tg iter : Expr} {body : List Stmt} {t : Tg} {F : SS → Out Fl} {fi : SS → Out (List D)}
def fForI (t : Tg) (fi : SS → Out (List D)) (F : SS → Out Fl) : SS → Out Fl := fun S => (fi S).bind fun ds S1 => fFor t F ds S1
theorem ps_fFor (hp : PassesOwn (model X.prog X.w) X.A X.env X.xe) (hc : X.calm = true) (hi : PI X tg iter (tI C fi)) (hg : L2.PG X tg (tG C t)) (hb : PSs X body (tS C F)) (hs : ∀ x, foldedSetIterable iter X.env x = pure x) : PS X (.For tg iter body [] pos) (tS C (fForI t fi F)) := by
  refine ps_mono (ps_for hp hc hi hg hb hs) fun D σ H h => ?_
  refine (seqTS' (rel := rIt) h).mono fun J H1 ⟨R, S, ds, b, si, sv, p⟩ => ?_
  exact for_core b si sv p
end
/-! ### the forms -/
section
variable {R : RC} {xs : List D} {vs : List V} {a : Addr}
theorem serves_list (hK : R.K = R.K) (h : SqL R.K R.Hz a vs) (r : RVs R xs vs) : Serves R xs (Itl R.K a) := fun i R' S' σ' H' l si => by
  have hq : SqL R.K H' a vs := si.sub.sqL (SqL.ext l.hz h)
  refine ⟨fun hi => ⟨vs, hq, by rw [r.length]; exact hi⟩, fun d hd => ?_⟩
  obtain ⟨v, ev, rv⟩ := r.getD hd
  refine ⟨⟨vs, v, hq, ev⟩, fun x H'' y => ?_⟩
  obtain ⟨e, y⟩ := y
  subst e
  have := y vs hq
  rw [ev] at this; cases this
  exact ⟨R', RLe.refl R', si, rv.monoV l.toRLv⟩
theorem serves_tup (h : SqT R.K R.Hz a vs) (r : RVs R xs vs) : Serves R xs (Itt R.K a) := fun i R' S' σ' H' l si => by
  have hq : SqT R.K H' a vs := si.sub.sqT (SqT.ext l.hz h)
  refine ⟨fun hi => ⟨vs, hq, by rw [r.length]; exact hi⟩, fun d hd => ?_⟩
  obtain ⟨v, ev, rv⟩ := r.getD hd
  refine ⟨⟨vs, v, hq, ev⟩, fun x H'' y => ?_⟩
  obtain ⟨e, y⟩ := y
  subst e
  have := y vs hq
  rw [ev] at this; cases this
  exact ⟨R', RLe.refl R', si, rv.monoV l.toRLv⟩
theorem serves_rev (h : SqL R.K R.Hz a vs) (r : RVs R xs vs) : Serves R xs.reverse (Itv R.K a vs.length) := fun i R' S' σ' H' l si => by
  have hq : SqL R.K H' a vs := si.sub.sqL (SqL.ext l.hz h)
  refine ⟨fun hi => by show vs.length ≤ i; rw [r.length]; simpa using hi, fun d hd => ?_⟩
  have hi : i < xs.length := by
    by_cases q : i < xs.length
    · exact q
    · rw [List.getElem?_eq_none (by simpa using q)] at hd; cases hd
  rw [List.getElem?_reverse hi] at hd
  obtain ⟨v, ev, rv⟩ := r.getD hd
  have hl := r.length
  refine ⟨⟨by omega, vs, v, hq, by rw [hl]; exact ev⟩, fun x H'' y => ?_⟩
  obtain ⟨e, y⟩ := y
  subst e
  have := y vs hq
  rw [hl, ev] at this; cases this
  exact ⟨R', RLe.refl R', si, rv.monoV l.toRLv⟩
theorem serves_revT (h : SqT R.K R.Hz a vs) (r : RVs R xs vs) : Serves R xs.reverse (RT.ItvT R.K a vs.length) := fun i R' S' σ' H' l si => by
  have hq : SqT R.K H' a vs := si.sub.sqT (SqT.ext l.hz h)
  refine ⟨fun hi => by show vs.length ≤ i; rw [r.length]; simpa using hi, fun d hd => ?_⟩
  have hi : i < xs.length := by
    by_cases q : i < xs.length
    · exact q
    · rw [List.getElem?_eq_none (by simpa using q)] at hd; cases hd
  rw [List.getElem?_reverse hi] at hd
  obtain ⟨v, ev, rv⟩ := r.getD hd
  have hl := r.length
  refine ⟨⟨by omega, vs, v, hq, by rw [hl]; exact ev⟩, fun x H'' y => ?_⟩
  obtain ⟨e, y⟩ := y
  subst e
  have := y vs hq
  rw [hl, ev] at this; cases this
  exact ⟨R', RLe.refl R', si, rv.monoV l.toRLv⟩
def chars (x : Str) : List D := x.cps.toList.map fun c => .str ⟨#[c]⟩
theorem serves_str {x : Str} : Serves R (chars x) (Its x) := fun i R' S' σ' H' l si => by
  have hl : (chars x).length = x.cps.size := by simp [chars]
  refine ⟨fun hi => by show x.cps.size ≤ i; rw [← hl]; exact hi, fun d hd => ?_⟩
  have hi : i < x.cps.size := by
    by_cases q : i < (chars x).length
    · rw [hl] at q; exact q
    · rw [List.getElem?_eq_none (by simpa using q)] at hd; cases hd
  refine ⟨hi, fun y H'' q => ?_⟩
  obtain ⟨e, c, ec, ey⟩ := q
  subst e
  refine ⟨R', RLe.refl R', si, ?_⟩
  have ed : d = .str ⟨#[c]⟩ := by
    unfold chars at hd
    rw [List.getElem?_map, Array.getElem?_toList, ec] at hd
    cases hd; rfl
  rw [ed, ey, RV]
  exact ⟨rfl, by rw [sizeLine_eq]; exact (by decide : (1 : Nat) ≤ 16777216)⟩
def rangeD (lo c : Int) (n : Nat) : List D := (List.range n).map fun (i : Nat) => .int (lo + (i : Int) * c)
theorem serves_range {lo : Int} {n : Nat} : Serves R (rangeD lo 1 n) (Itr lo n) := fun i R' S' σ' H' l si => by
  have hl : (rangeD lo 1 n).length = n := by simp [rangeD]
  refine ⟨fun hi => by show n ≤ i; rw [← hl]; exact hi, fun d hd => ?_⟩
  have hi : i < n := by
    by_cases q : i < (rangeD lo 1 n).length
    · rw [hl] at q; exact q
    · rw [List.getElem?_eq_none (by simpa using q)] at hd; cases hd
  refine ⟨hi, fun y H'' q => ?_⟩
  obtain ⟨e, ey⟩ := q
  subst e ey
  refine ⟨R', RLe.refl R', si, ?_⟩
  have ed : d = .int (lo + i) := by
    unfold rangeD at hd
    rw [List.getElem?_map, List.getElem?_range hi] at hd
    cases hd; simp
  rw [ed, RV]
theorem serves_rangeC {lo c : Int} {n : Nat} : Serves R (rangeD lo c n) (Itc lo c n) := fun i R' S' σ' H' l si => by
  have hl : (rangeD lo c n).length = n := by simp [rangeD]
  refine ⟨fun hi => by show n ≤ i; rw [← hl]; exact hi, fun d hd => ?_⟩
  have hi : i < n := by
    by_cases q : i < (rangeD lo c n).length
    · rw [hl] at q; exact q
    · rw [List.getElem?_eq_none (by simpa using q)] at hd; cases hd
  refine ⟨hi, fun y H'' q => ?_⟩
  obtain ⟨e, ey⟩ := q
  subst e ey
  refine ⟨R', RLe.refl R', si, ?_⟩
  have ed : d = .int (lo + i * c) := by
    unfold rangeD at hd
    rw [List.getElem?_map, List.getElem?_range hi] at hd
    cases hd; rfl
  rw [ed, RV]
def enumD : Nat → List D → List D
  | _, [] => []
  | n, d :: ds => .tup [.int n, d] :: enumD (n + 1) ds
theorem enumD_len : ∀ {ds : List D} {n : Nat}, (enumD n ds).length = ds.length
  | [], _ => rfl
  | d :: ds, n => by simp [enumD, enumD_len (ds := ds)]
theorem enumD_get : ∀ {ds : List D} {n i : Nat}, (enumD n ds)[i]? = (ds[i]?).map fun d => .tup [.int (n + i : Nat), d]
  | [], _, _ => by simp [enumD]
  | d :: ds, n, 0 => by simp [enumD]
  | d :: ds, n, i + 1 => by
    rw [enumD, List.getElem?_cons_succ, List.getElem?_cons_succ, enumD_get]
    congr 1
    funext d
    have : n + 1 + i = n + (i + 1) := by omega
    rw [this]
theorem serves_enum (h : SqL R.K R.Hz a vs) (r : RVs R xs vs) : Serves R (enumD 0 xs) (Ite R.K a) := fun i R' S' σ' H' l si => by
  have hq : SqL R.K H' a vs := si.sub.sqL (SqL.ext l.hz h)
  refine ⟨fun hi => ⟨vs, hq, by rw [r.length]; rw [enumD_len] at hi; exact hi⟩, fun d hd => ?_⟩
  rw [enumD_get] at hd
  cases ex : xs[i]? with
  | none => rw [ex] at hd; cases hd
  | some d1 =>
    rw [ex] at hd
    have hd : D.tup [.int (0 + i : Nat), d1] = d := by simpa using hd
    subst hd
    obtain ⟨v, ev, rv⟩ := r.getD ex
    refine ⟨⟨vs, v, hq, ev⟩, fun x H'' y => ?_⟩
    obtain ⟨T, y1, e1, e2, e3, y⟩ := y
    have := y vs hq
    rw [ev] at this; cases this
    subst e1 e3
    have rr : RVs R' [.int (0 + i : Nat), d1] [.int (i : Nat), v] := by
      rw [RVs]; refine ⟨_, _, rfl, by rw [RV]; simp, ?_⟩
      rw [RVs]; exact ⟨_, _, rfl, rv.monoV l.toRLv, by rw [RVs]⟩
    obtain ⟨R'', l2, s2, rv2⟩ := si.tup e2 rr
    exact ⟨R'', l2, s2, rv2⟩
def zipD : List D → List D → List D
  | a :: as, b :: bs => .tup [a, b] :: zipD as bs
  | _, _ => []
theorem zipD_len : ∀ {as bs : List D}, (zipD as bs).length = min as.length bs.length
  | [], _ => by simp [zipD]
  | _ :: _, [] => by simp [zipD]
  | a :: as, b :: bs => by simp [zipD, zipD_len (as := as) (bs := bs)]
theorem zipD_get : ∀ {as bs : List D} {i : Nat} {d : D}, (zipD as bs)[i]? = some d → ∃ a b, as[i]? = some a ∧ bs[i]? = some b ∧ d = .tup [a, b]
  | [], _, _, _, h => by simp [zipD] at h
  | _ :: _, [], _, _, h => by simp [zipD] at h
  | a :: as, b :: bs, 0, d, h => by simp [zipD] at h; exact ⟨a, b, rfl, rfl, h.symm⟩
  | a :: as, b :: bs, i + 1, d, h => by
    rw [zipD, List.getElem?_cons_succ] at h
    obtain ⟨x, y, h1, h2, h3⟩ := zipD_get h
    exact ⟨x, y, by simpa using h1, by simpa using h2, h3⟩
theorem serves_zip {b : Addr} {ys : List D} {ws : List V} (h : SqL R.K R.Hz a vs) (r : RVs R xs vs) (h' : SqL R.K R.Hz b ws) (r' : RVs R ys ws) : Serves R (zipD xs ys) (Itz R.K a b) := fun i R' S' σ' H' l si => by
  have hq : SqL R.K H' a vs := si.sub.sqL (SqL.ext l.hz h)
  have hq' : SqL R.K H' b ws := si.sub.sqL (SqL.ext l.hz h')
  refine ⟨fun hi => ⟨vs, ws, hq, hq', by rw [r.length, r'.length]; rw [zipD_len] at hi; omega⟩, fun d hd => ?_⟩
  obtain ⟨d1, d2, ex, ey, ed⟩ := zipD_get hd
  obtain ⟨v, ev, rv⟩ := r.getD ex
  obtain ⟨w, ew, rw'⟩ := r'.getD ey
  refine ⟨⟨vs, ws, v, w, hq, hq', ev, ew⟩, fun x H'' y => ?_⟩
  obtain ⟨T, y1, y2, e1, e2, e3, z1, z2⟩ := y
  have := z1 vs hq
  rw [ev] at this; cases this
  have := z2 ws hq'
  rw [ew] at this; cases this
  subst e1 e3 ed
  have rr : RVs R' [d1, d2] [v, w] := by
    rw [RVs]; refine ⟨_, _, rfl, rv.monoV l.toRLv, ?_⟩
    rw [RVs]; exact ⟨_, _, rfl, rw'.monoV l.toRLv, by rw [RVs]⟩
  obtain ⟨R'', l2, s2, rv2⟩ := si.tup e2 rr
  exact ⟨R'', l2, s2, rv2⟩
theorem serves_zipT {b : Addr} {ys : List D} {ws : List V} (h : SqT R.K R.Hz a vs) (r : RVs R xs vs) (h' : SqT R.K R.Hz b ws) (r' : RVs R ys ws) : Serves R (zipD xs ys) (RZ.ItzT R.K a b) := fun i R' S' σ' H' l si => by
  have hq : SqT R.K H' a vs := si.sub.sqT (SqT.ext l.hz h)
  have hq' : SqT R.K H' b ws := si.sub.sqT (SqT.ext l.hz h')
  refine ⟨fun hi => ⟨vs, ws, hq, hq', by rw [r.length, r'.length]; rw [zipD_len] at hi; omega⟩, fun d hd => ?_⟩
  obtain ⟨d1, d2, ex, ey, ed⟩ := zipD_get hd
  obtain ⟨v, ev, rv⟩ := r.getD ex
  obtain ⟨w, ew, rw'⟩ := r'.getD ey
  refine ⟨⟨vs, ws, v, w, hq, hq', ev, ew⟩, fun x H'' y => ?_⟩
  obtain ⟨T, y1, y2, e1, e2, e3, z1, z2⟩ := y
  have := z1 vs hq
  rw [ev] at this; cases this
  have := z2 ws hq'
  rw [ew] at this; cases this
  subst e1 e3 ed
  have rr : RVs R' [d1, d2] [v, w] := by
    rw [RVs]; refine ⟨_, _, rfl, rv.monoV l.toRLv, ?_⟩
    rw [RVs]; exact ⟨_, _, rfl, rw'.monoV l.toRLv, by rw [RVs]⟩
  obtain ⟨R'', l2, s2, rv2⟩ := si.tup e2 rr
  exact ⟨R'', l2, s2, rv2⟩
end
end Ev
namespace Ev
open PySem PySem.Spec PyProof.Rows L2
/-! ## 11. what is walked: expressions, ranges, dicts -/
def itemsOf (d : D) : Option (List D) :=
  match d.view with
  | .lst xs => some xs
  | .tup xs => some xs
  | .str x => some (chars x)
  | _ => none
def fIter (f : SS → Out D) : SS → Out (List D) := fun S => (f S).bind fun d S1 => match itemsOf d with
  | some ds => .ok ds S1
  | none => .no
def lit62 (i : Int) : Bool := decide (-(2 ^ 62) ≤ i ∧ i < 2 ^ 62)
def rng1 : List D → Option (List D)
  | [a] => match a.view with
    | .int j => if lit62 j = true then some (rangeD 0 1 j.toNat) else none
    | _ => none
  | _ => none
def rng2 : List D → Option (List D)
  | [a, b] => match a.view, b.view with
    | .int i, .int j => if lit62 i = true ∧ lit62 j = true then some (rangeD i 1 (j - i).toNat) else none
    | _, _ => none
  | _ => none
def rng3 : List D → Option (List D)
  | [a, b, c] => match a.view, b.view, c.view with
    | .int i, .int j, .int k => if lit62 i = true ∧ lit62 j = true ∧ k = -1 then some (rangeD i (-1) (i - j).toNat) else none
    | _, _, _ => none
  | _ => none
def enumOf : List D → Option (List D)
  | [a] => match a.view with
    | .lst xs => some (enumD 0 xs)
    | _ => none
  | _ => none
def zipOf : List D → Option (List D)
  | [a, b] => match a.view, b.view with
    | .lst xs, .lst ys => some (zipD xs ys)
    | .tup xs, .tup ys => some (zipD xs ys)
    | _, _ => none
  | _ => none
def revOf (d : D) : Option (List D) :=
  match d.view with
  | .lst xs => some xs.reverse
  | .tup xs => some xs.reverse
  | _ => none
/-- from argument values -/
def fIts (g : SS → Out (List D)) (o : List D → Option (List D)) : SS → Out (List D) := fun S => (g S).bind fun as S1 => match o as with
  | some ds => .ok ds S1
  | none => .no
def fItR (f : SS → Out D) : SS → Out (List D) := fun S => (f S).bind fun d S1 => match revOf d with
  | some ds => .ok ds S1
  | none => .no
theorem lit62_ok {i : Int} (h : lit62 i = true) : -(2 ^ 62) ≤ i ∧ i < 2 ^ 62 := by simpa [lit62] using h
section
variable {X : Cx} {C : EC} {tg e a b c : Expr} {f : SS → Out D} {g : SS → Out (List D)} {p pos : Pos}
theorem pi_fIter (hK : X.K = C.G.K) (he : PE X e (tD C f)) : PI X tg e (tI C (fIter f)) := by
  refine pi_mono (pi_or (pi_list he) (pi_or (pi_tup he) (pi_str he))) fun σ H Q h => ?_
  obtain ⟨R, S, b, si, p⟩ := h
  unfold fIter at p
  have key : T C rV f σ H fun x H1 => ∃ R1 S1 d, Base C R1 ∧ SI R1 S1 σ H1 ∧ RV R1 .new d x ∧ Po C rIt R1 σ (match itemsOf d with | some ds => Out.ok ds S1 | none => .no) Q :=
    (seqT (rel := rV) b si p).mono fun x H1 ⟨R1, S1, d, l, b1, s1, rd, p1⟩ => ⟨R1, S1, d, b1, s1, rd, p1⟩
  -- which kind it is, is told by the state's function
  cases q : f S with
  | no => rw [q] at p; exact p.elim
  | exc c fs S' => exact .inl ⟨R, S, b, si, by rw [q] at p ⊢; exact p⟩
  | ok d S' =>
    rw [q] at p
    have ok : ∀ {P : V → Hp → Prop}, (∀ R' H' x, RLe R R' → SI R' S' σ H' → RV R' .new d x → P x H') → tD C f σ H P := fun {P} h => ⟨R, S, b, si, by rw [q]; exact h⟩
    have p : Po C rIt R σ (match itemsOf d with | some ds => Out.ok ds S' | none => .no) Q := p
    have eK : ∀ {R'}, RLe R R' → R'.K = X.K := fun {R'} l => (b.le l).K.trans hK.symm
    unfold itemsOf at p
    split at p
    · rename_i ds e0
      split at e0
      · rename_i xs ex
        cases e0
        refine .inl (ok fun R' H' x l si' rd => ?_)
        obtain ⟨a', vs, ev, hh, rr⟩ := rd.lst_ ex
        refine ⟨a', ev, ⟨vs, by rw [← eK l]; exact si'.sub.sqL hh⟩, ?_⟩
        rw [← eK l]
        exact p R' H' _ l si' (serves_list rfl hh rr)
      · rename_i xs ex
        cases e0
        refine .inr (.inl (ok fun R' H' x l si' rd => ?_))
        obtain ⟨a', vs, ev, hh, rr⟩ := rd.tup_ ex
        refine ⟨a', ev, ⟨vs, by rw [← eK l]; exact si'.sub.sqT hh⟩, ?_⟩
        rw [← eK l]
        exact p R' H' _ l si' (serves_tup hh rr)
      · rename_i z ez
        cases e0
        refine .inr (.inr (ok fun R' H' x l si' rd => ?_))
        exact ⟨z, (rd.str_ ez).1, p R' H' _ l si' serves_str⟩
      · cases e0
    · exact p.elim
theorem RVs.one {R : RC} {a : D} {vs : List V} (h : RVs R [a] vs) : ∃ x, vs = [x] ∧ RV R .new a x := by
  rw [RVs] at h
  obtain ⟨v, r, e, p, q⟩ := h
  rw [RVs] at q
  subst q
  exact ⟨v, e, p⟩
theorem RVs.two {R : RC} {a b : D} {vs : List V} (h : RVs R [a, b] vs) : ∃ x y, vs = [x, y] ∧ RV R .new a x ∧ RV R .new b y := by
  rw [RVs] at h
  obtain ⟨v, r, e, p, q⟩ := h
  obtain ⟨y, e2, p2⟩ := q.one
  subst e2
  exact ⟨v, y, e, p, p2⟩
theorem RVs.three {R : RC} {a b c : D} {vs : List V} (h : RVs R [a, b, c] vs) : ∃ x y z, vs = [x, y, z] ∧ RV R .new a x ∧ RV R .new b y ∧ RV R .new c z := by
  rw [RVs] at h
  obtain ⟨v, r, e, p, q⟩ := h
  obtain ⟨y, z, e2, p2, p3⟩ := q.two
  subst e2
  exact ⟨v, y, z, e, p, p2, p3⟩
theorem pi_fRng1 (hg : Gl X "range") (hm : X.mg "range" = none) (ha : PA X [a] (tA C g)) (hs : starEach [a] X.env = [(false, eval a X.env)]) : PI X tg (.Call (.Name "range" p) [a] [] pos) (tI C (fIts g rng1)) := by
  refine pi_mono (pi_range1 hg hm ha hs) fun σ H Q h => ?_
  refine (seqT' (rel := rVs) h).mono fun vs H1 ⟨R, S, ds, b, si, rr, p⟩ => ?_
  try dsimp only at p
  split at p
  · rename_i out eo
    unfold rng1 at eo
    split at eo
    · rename_i a'
      obtain ⟨x, ev, rx⟩ := RVs.one rr
      split at eo
      · rename_i j ej
        split at eo
        · rename_i hl
          cases eo
          have := rx.int_ ej
          subst this ev
          exact ⟨j, rfl, (lit62_ok hl).1, (lit62_ok hl).2, p R H1 _ (RLe.refl R) si serves_range⟩
        · cases eo
      · cases eo
    · cases eo
  · exact p.elim
theorem pi_fRng2 (hg : Gl X "range") (hm : X.mg "range" = none) (ha : PA X [a, b] (tA C g)) (hs : starEach [a, b] X.env = [(false, eval a X.env), (false, eval b X.env)]) (hs2 : starEach [b] X.env = [(false, eval b X.env)]) :
    PI X tg (.Call (.Name "range" p) [a, b] [] pos) (tI C (fIts g rng2)) := by
  refine pi_mono (pi_range2 hg hm ha hs hs2) fun σ H Q h => ?_
  refine (seqT' (rel := rVs) h).mono fun vs H1 ⟨R, S, ds, b, si, rr, p⟩ => ?_
  try dsimp only at p
  split at p
  · rename_i out eo
    unfold rng2 at eo
    split at eo
    · rename_i a' b'
      obtain ⟨x, y, ev, rx, ry⟩ := RVs.two rr
      split at eo
      · rename_i i j ei ej
        split at eo
        · rename_i hl
          cases eo
          have e1 := rx.int_ ei
          have e2 := ry.int_ ej
          subst e1 e2 ev
          exact ⟨i, j, rfl, ⟨(lit62_ok hl.1).1, (lit62_ok hl.1).2, (lit62_ok hl.2).1, (lit62_ok hl.2).2⟩, p R H1 _ (RLe.refl R) si serves_range⟩
        · cases eo
      · cases eo
    · cases eo
  · exact p.elim
theorem pi_fRng3 (hg : Gl X "range") (hm : X.mg "range" = none) (ha : PA X [a, b, c] (tA C g)) (hs : starEach [a, b, c] X.env = (false, eval a X.env) :: starEach [b, c] X.env) (hpl : (backTo pos (starEach [b, c] X.env)).any (·.1) = false) :
    PI X tg (.Call (.Name "range" p) [a, b, c] [] pos) (tI C (fIts g rng3)) := by
  refine pi_mono (pi_range3 hg hm ha hs hpl) fun σ H Q h => ?_
  refine (seqT' (rel := rVs) h).mono fun vs H1 ⟨R, S, ds, b, si, rr, p⟩ => ?_
  try dsimp only at p
  split at p
  · rename_i out eo
    unfold rng3 at eo
    split at eo
    · rename_i a' b' c'
      obtain ⟨x, y, z, ev, rx, ry, rz⟩ := RVs.three rr
      split at eo
      · rename_i i j k ei ej ek
        split at eo
        · rename_i hl
          obtain ⟨h1, h2, h3⟩ := hl
          cases eo
          have e1 := rx.int_ ei
          have e2 := ry.int_ ej
          have e3 := rz.int_ ek
          subst h3 e1 e2 e3 ev
          exact ⟨i, j, -1, (i - j).toNat, rfl, RgC.neg (lit62_ok h1).1 (lit62_ok h1).2 (lit62_ok h2).1 (lit62_ok h2).2, p R H1 _ (RLe.refl R) si serves_rangeC⟩
        · cases eo
      · cases eo
    · cases eo
  · exact p.elim
theorem pi_fEnum (hK : X.K = C.G.K) {elts : List Expr} {kk : Nat} {tpos : Pos} (hg : Gl X "enumerate") (hm : X.mg "enumerate" = none) (ha : PA X [e] (tA C g)) (hs : starEach [e] X.env = [(false, eval e X.env)]) :
    PI X (.Tuple elts kk tpos) (.Call (.Name "enumerate" p) [e] [] pos) (tI C (fIts g enumOf)) := by
  refine pi_mono (pi_enum hg hm ha hs) fun σ H Q h => ?_
  refine (seqT' (rel := rVs) h).mono fun vs H1 ⟨R, S, ds, b, si, rr, p⟩ => ?_
  have eK : R.K = X.K := b.K.trans hK.symm
  try dsimp only at p
  split at p
  · rename_i out eo
    unfold enumOf at eo
    split at eo
    · rename_i a'
      obtain ⟨x, ev, rx⟩ := RVs.one rr
      split at eo
      · rename_i xs ex
        cases eo
        obtain ⟨q, ws, e1, hh, r1⟩ := rx.lst_ ex
        subst e1 ev
        refine ⟨q, ws, rfl, by rw [← eK]; exact si.sub.sqL hh, ?_⟩
        rw [← eK]
        exact p R H1 _ (RLe.refl R) si (serves_enum hh r1)
      · cases eo
    · cases eo
  · exact p.elim
theorem pi_fZip (hK : X.K = C.G.K) {elts : List Expr} {kk : Nat} {tpos : Pos} (hg : Gl X "zip") (hm : X.mg "zip" = none) (ha : PA X [a, b] (tA C g)) (hs : starEach [a, b] X.env = (false, eval a X.env) :: starEach [b] X.env) (hpl : (backTo pos (starEach [b] X.env)).any (·.1) = false) :
    PI X (.Tuple elts kk tpos) (.Call (.Name "zip" p) [a, b] [] pos) (tI C (fIts g zipOf)) := by
  refine pi_mono (RZ.pi_zipA hg hm ha hs hpl) fun σ H Q h => ?_
  refine (seqT' (rel := rVs) h).mono fun vs H1 ⟨R, S, ds, b, si, rr, p⟩ => ?_
  have eK : R.K = X.K := b.K.trans hK.symm
  try dsimp only at p
  split at p
  · rename_i out eo
    unfold zipOf at eo
    split at eo
    · rename_i a' b'
      obtain ⟨x, y, ev, rx, ry⟩ := RVs.two rr
      split at eo
      · rename_i xs ys ex ey
        cases eo
        obtain ⟨q, ws, e1, hh, r1⟩ := rx.lst_ ex
        obtain ⟨q2, ws2, e2, hh2, r2⟩ := ry.lst_ ey
        subst e1 e2 ev
        refine ⟨q, q2, ws, ws2, rfl, .inl ⟨by rw [← eK]; exact si.sub.sqL hh, by rw [← eK]; exact si.sub.sqL hh2, ?_⟩⟩
        rw [← eK]
        exact p R H1 _ (RLe.refl R) si (serves_zip hh r1 hh2 r2)
      · rename_i xs ys ex ey
        cases eo
        obtain ⟨q, ws, e1, hh, r1⟩ := rx.tup_ ex
        obtain ⟨q2, ws2, e2, hh2, r2⟩ := ry.tup_ ey
        subst e1 e2 ev
        refine ⟨q, q2, ws, ws2, rfl, .inr ⟨by rw [← eK]; exact si.sub.sqT hh, by rw [← eK]; exact si.sub.sqT hh2, ?_⟩⟩
        rw [← eK]
        exact p R H1 _ (RLe.refl R) si (serves_zipT hh r1 hh2 r2)
      · cases eo
    · cases eo
  · exact p.elim
theorem pi_fRev (hK : X.K = C.G.K) (hg : Gl X "reversed") (hm : X.mg "reversed" = none) (he : PE X e (tD C f)) (hs : starEach [e] X.env = (false, eval e X.env) :: starEach [] X.env) : PI X tg (.Call (.Name "reversed" p) [e] [] pos) (tI C (fItR f)) := by
  refine pi_mono (RT.pi_revA hg hm he hs) fun σ H Q h => ?_
  refine (seqT' (rel := rV) h).mono fun x H1 ⟨R, S, d, b, si, rd, p⟩ => ?_
  have eK : R.K = X.K := b.K.trans hK.symm
  try dsimp only at p
  split at p
  · rename_i out eo
    unfold revOf at eo
    split at eo
    · rename_i xs ex
      cases eo
      obtain ⟨q, ws, e1, hh, r1⟩ := RV.lst_ (show RV R .new d x from rd) ex
      subst e1
      refine ⟨q, ws, rfl, .inl ⟨by rw [← eK]; exact si.sub.sqL hh, ?_⟩⟩
      rw [← eK]
      exact p R H1 _ (RLe.refl R) si (serves_rev hh r1)
    · rename_i xs ex
      cases eo
      obtain ⟨q, ws, e1, hh, r1⟩ := RV.tup_ (show RV R .new d x from rd) ex
      subst e1
      refine ⟨q, ws, rfl, .inr ⟨by rw [← eK]; exact si.sub.sqT hh, ?_⟩⟩
      rw [← eK]
      exact p R H1 _ (RLe.refl R) si (serves_revT hh r1)
    · cases eo
  · exact p.elim
end
/-! ### a dict's keys, the dict locked -/
def DK.toD : DK → Option D
  | .k (.inl i) => some (.int i)
  | .k (.inr s) => some (.str s)
  | .t _ => none
def keysD : List (DK × D) → Option (List D)
  | [] => some []
  | (k, _) :: r => match k.toD, keysD r with
    | some d, some ds => some (d :: ds)
    | _, _ => none
end Ev
namespace Ev
open PySem PySem.Spec PyProof.Rows L2
/-! ## 12. a loop over a dict: the dict is locked -/
def lkR (R : RC) (a : Addr) (od : Obj) : RC := { R with lk := fun b => if b = a then some od else R.lk b }
def unR (R' R : RC) : RC := { R' with lk := R.lk }
section
variable {R R' : RC} {S S' : SS} {σ σ' : L2.St} {H H' : Hp} {a : Addr} {u : HO} {od : Obj}
theorem lkR_v : RLv R (lkR R a od) := ⟨rfl, rfl, rfl, rfl, .inr rfl, fun _ _ h => h, fun _ _ h => h, fun _ _ h => h, fun _ _ h => h⟩
theorem unR_v : RLv R' (unR R' R) := ⟨rfl, rfl, rfl, rfl, .inr rfl, fun _ _ h => h, fun _ _ h => h, fun _ _ h => h, fun _ _ h => h⟩
theorem unR_le (l : RLe (lkR R a od) R') : RLe R (unR R' R) := ⟨l.rs, rfl, l.sp, l.lb, l.hz⟩
/-- what is no slot's and no shared object's place may be described otherwise -/
theorem OwnAt.lockv {o : Ob} {b : Addr} (w : OwnAt R H o b) (l : RLv R R') (e0 : R'.H0 = R.H0) (eo : R'.old = R.old) (ez : R'.Hz = R.Hz) (hb : b ≠ a) : OwnAt R' (upd H a u) o b := by
  obtain ⟨h1, h2, h3, h4⟩ := w
  refine ⟨by rw [eo]; exact h1, by rw [e0]; exact h2, by rw [ez]; exact h3, ?_⟩
  cases o with
  | lst ds => obtain ⟨vs, q, r⟩ := h4; exact ⟨vs, by rw [upd_ne hb]; exact q, RVs.monoV l r⟩
  | dct kvs =>
    rcases h4 with ⟨ll, q, r⟩ | ⟨ll, q, r⟩
    · exact .inl ⟨ll, by rw [upd_ne hb]; exact q, RVk.monoV l r⟩
    · exact .inr ⟨ll, by rw [upd_ne hb]; exact q, RVt.monoV l r⟩
theorem lkd_same {o : HO} : lkd (lkR R a od) a o = .frz od o := by
  show (match (if a = a then some od else R.lk a) with | some od => HO.frz od o | none => o) = _
  rw [if_pos rfl]
theorem lkd_ne {o : HO} {b : Addr} (h : b ≠ a) : lkd (lkR R a od) b o = lkd R b o := by
  show (match (if b = a then some od else R.lk b) with | some od => HO.frz od o | none => o) = _
  rw [if_neg h]
  rfl
theorem lkd_none {o : HO} {b : Addr} (h : R.lk b = none) : lkd R b o = o := by unfold lkd; rw [h]
theorem lkd_un {o : HO} {b : Addr} : lkd (unR R' R) b o = lkd R b o := rfl
theorem lkd_le {o : HO} {b : Addr} (l : RLe (lkR R a od) R') : lkd R' b o = lkd (lkR R a od) b o := by unfold lkd; rw [l.lk]
theorem SI.lock (si : SI R S σ H) (hz : R.Hz a = some u) (hd : ∃ p l, u = .dK (p :: l)) (hl : R.lk a = none) : SI (lkR R a od) S σ (upd H a (.frz od u)) := by
  have hu : H a = some u := by have := si.sub0 a u hz; unfold lkd at this; rw [hl] at this; exact this
  have nO : ∀ {o b}, OwnAt R H o b → b ≠ a := fun {o b} w z => by rw [z] at w; have := w.2.2.1; rw [hz] at this; cases this
  have nR : ∀ {o b}, RefAt R H o b → b ≠ a := fun {o b} w z => by rw [z] at w; have := w.1; rw [hz] at this; cases this
  have l0 : R.L0 a = none := by
    cases e : R.L0 a with
    | none => rfl
    | some x => have := si.l0 a x e; rw [hl] at this; cases this
  have nu : ∀ ps, u ≠ .tbl ps := fun ps z => by obtain ⟨p, l, e⟩ := hd; rw [e] at z; cases z
  refine { len := si.len, sub0 := fun b o e => ?_, lkz := fun b od' e => ?_, l0 := fun b od' e => ?_, nfz := si.nfz, z0 := si.z0, new := si.new, ntb := si.ntb, tb := ⟨fun b ps e => ?_, fun q hq => (si.tb.2 q hq).mono (fun ps e => by rw [upd_ne (fun z => by rw [z, hu] at e; cases e; exact nu _ rfl)]; exact e) fun _ _ e => e⟩, keep := fun b o e n t => ?_, dom := fun b e => ?_, oldd := si.oldd, val := fun i d e => ?_, own := fun i o e => ?_, disj := si.disj, ref := fun k o e => ?_, rlt := si.rlt, rfr := si.rfr, rs0 := si.rs0, rno := si.rno, rinj := si.rinj, lbl := si.lbl }
  · have e : R.Hz b = some o := e
    by_cases h : b = a
    · subst h
      have e : R.Hz b = some o := e
      rw [hz] at e; cases e
      rw [lkd_same, upd_same]
    · rw [lkd_ne h, upd_ne h]; exact si.sub0 b o e
  · have e : (if b = a then some od else R.lk b) = some od' := e
    by_cases h : b = a
    · subst h
      show ∃ p l, R.Hz b = _
      obtain ⟨p, l, e2⟩ := hd
      exact ⟨p, l, by rw [hz, e2]⟩
    · rw [if_neg h] at e; exact si.lkz b od' e
  · show (if b = a then some od else R.lk b) = some od'
    have e : R.L0 b = some od' := e
    rw [if_neg (fun z => by rw [z, l0] at e; cases e)]
    exact si.l0 b od' e
  · obtain ⟨m, q⟩ := si.tb.1 b ps e
    exact ⟨m, by rw [upd_ne (fun z => by rw [z, hu] at q; cases q; exact nu _ rfl)]; exact q⟩
  · have q := si.keep b o e n t
    show upd H a (.frz od u) b = some (match R.L0 b with | some _ => o | none => lkd (lkR R a od) b o)
    by_cases h : b = a
    · subst h
      rw [l0, hu] at q
      rw [l0, upd_same]
      dsimp only at q ⊢
      rw [lkd_same]
      rw [lkd_none hl] at q
      cases q
      rfl
    · rw [upd_ne h, lkd_ne h]
      exact q
  · by_cases h : b = a
    · subst h; rw [upd_same] at e; cases e
    · rw [upd_ne h] at e; exact si.dom b e
  · obtain ⟨v, e1, r⟩ := si.val i d e
    exact ⟨v, e1, r.monoV lkR_v⟩
  · obtain ⟨b, e1, w⟩ := si.own i o e
    exact ⟨b, e1, w.lockv lkR_v rfl rfl rfl (nO w)⟩
  · obtain ⟨b, e1, w⟩ := si.ref k o e
    exact ⟨b, e1, w.mono lkR_v w.1 (upd_ne (nR w))⟩
theorem SI.unlock (si : SI R' S' σ' H') (l : RLe (lkR R a od) R') (hz : R.Hz a = some u) (hd : ∃ p l, u = .dK (p :: l)) (hl : R.lk a = none) (l0 : R.L0 a = none) :
    H' a = some (.frz od u) ∧ SI (unR R' R) S' σ' (upd H' a u) := by
  have hz' : R'.Hz a = some u := l.hz a u hz
  have elk : R'.lk = fun b => if b = a then some od else R.lk b := l.lk
  have l0' : R'.L0 = R.L0 := by rw [l.rs]; rfl
  have hu : H' a = some (.frz od u) := by
    have := si.sub0 a u hz'
    rw [lkd_le l, lkd_same] at this
    exact this
  refine ⟨hu, ?_⟩
  have nO : ∀ {o b}, OwnAt R' H' o b → b ≠ a := fun {o b} w z => by rw [z] at w; have := w.2.2.1; rw [hz'] at this; cases this
  have nR : ∀ {o b}, RefAt R' H' o b → b ≠ a := fun {o b} w z => by rw [z] at w; have := w.1; rw [hz'] at this; cases this
  refine { len := si.len, sub0 := fun b o e => ?_, lkz := fun b od' e => ?_, l0 := fun b od' e => ?_, nfz := si.nfz, z0 := si.z0, new := si.new, ntb := si.ntb, tb := ⟨fun b ps e => ?_, fun q hq => (si.tb.2 q hq).mono (fun ps e => by rw [upd_ne (fun z => by rw [z, hu] at e; cases e)]; exact e) fun _ _ e => e⟩, keep := fun b o e n t => ?_, dom := fun b e => ?_, oldd := si.oldd, val := fun i d e => ?_, own := fun i o e => ?_, disj := si.disj, ref := fun k o e => ?_, rlt := si.rlt, rfr := si.rfr, rs0 := si.rs0, rno := si.rno, rinj := si.rinj, lbl := si.lbl }
  · have e : R'.Hz b = some o := e
    have q := si.sub0 b o e
    rw [lkd_le l] at q
    rw [lkd_un]
    by_cases h : b = a
    · subst h
      rw [hz'] at e; cases e
      rw [lkd_none hl, upd_same]
    · rw [lkd_ne h] at q
      rw [upd_ne h]; exact q
  · have e : R.lk b = some od' := e
    have h : b ≠ a := fun z => by rw [z, hl] at e; cases e
    exact si.lkz b od' (by rw [elk]; show (if b = a then some od else R.lk b) = _; rw [if_neg h]; exact e)
  · have e : R'.L0 b = some od' := e
    have h : b ≠ a := fun z => by rw [z, l0', l0] at e; cases e
    have q := si.l0 b od' e
    rw [elk] at q
    have q : (if b = a then some od else R.lk b) = some od' := q
    rw [if_neg h] at q
    exact q
  · obtain ⟨m, q⟩ := si.tb.1 b ps e
    exact ⟨m, by rw [upd_ne (fun z => by rw [z, hu] at q; cases q)]; exact q⟩
  · have q := si.keep b o e n t
    show upd H' a u b = some (match R'.L0 b with | some _ => o | none => lkd (unR R' R) b o)
    by_cases h : b = a
    · subst h
      rw [l0', l0] at q ⊢
      rw [hu] at q
      rw [upd_same]
      dsimp only at q ⊢
      rw [lkd_le l, lkd_same] at q
      rw [lkd_un, lkd_none hl]
      cases q
      rfl
    · rw [upd_ne h, lkd_un]
      rw [lkd_le l, lkd_ne h] at q
      exact q
  · by_cases h : b = a
    · subst h; rw [upd_same] at e; cases e
    · rw [upd_ne h] at e; exact si.dom b e
  · obtain ⟨v, e1, r⟩ := si.val i d e
    exact ⟨v, e1, r.monoV unR_v⟩
  · obtain ⟨b, e1, w⟩ := si.own i o e
    exact ⟨b, e1, w.lockv unR_v rfl rfl rfl (nO w)⟩
  · obtain ⟨b, e1, w⟩ := si.ref k o e
    exact ⟨b, e1, w.mono unR_v w.1 (upd_ne (nR w))⟩
theorem RR.unlock {r : Res} {x : V} (rr : RR R' S' σ' H' r x) (hz : R'.Hz a = some u) : RR (unR R' R) S' σ' (upd H' a u) r x := by
  cases r with
  | val d => exact RV.monoV unR_v rr
  | own o =>
    obtain ⟨b, e, w, n, ns⟩ := rr
    have hb : b ≠ a := fun z => by rw [z] at w; have := w.2.2.1; rw [hz] at this; cases this
    exact ⟨b, e, w.lockv unR_v rfl rfl rfl hb, n, ns⟩
end
/-- an exception that leaves a loop over a locked dict -/
def unl (X : Cx) (W : WX) : WX := fun cls d σ H => ∃ dd od u, H dd = some (.frz od u) ∧ (∀ o' u', X.H_0 dd ≠ some (.frz o' u')) ∧ W cls d σ (upd H dd u)
theorem takes_unl {X : Cx} {W : WX} (t : Takes X W) : Takes X (unl X W) := fun v s' ⟨a, B, sI, pins, σ, H, cls, d, e, I, nb, up, sky, na, os, ag, dd, od, u, hd, hn, w⟩ =>
  t v s' ⟨a, B, sI, pins, σ, _, cls, d, e, I.unlock hd hn, nb, up, sky, by rw [upd_ne (fun z => by rw [z, hd] at na; cases na)]; exact na, os, ag, w⟩
/-! ### keys -/
theorem RVk.keys {R : RC} : ∀ {kvs : List (DK × D)} {l : List (Key × V)} {ks : List D}, RVk R kvs l → keysD kvs = some ks → ks.length = l.length ∧ ∀ (i : Nat) d, ks[i]? = some d → ∃ k v, l[i]? = some (k, v) ∧ RV R .new d (kV k)
  | [], l, ks, h, e => by rw [RVk] at h; rw [keysD] at e; cases e; subst h; exact ⟨rfl, fun i d z => by simp at z⟩
  | (k, d) :: kvs, l, ks, h, e => by
    rw [RVk] at h
    obtain ⟨v, x, r, e1, ⟨e2, hx⟩, p, q⟩ := h
    rw [keysD] at e
    cases e3 : k.toD with
    | none => rw [e3] at e; cases e
    | some d1 =>
      cases e4 : keysD kvs with
      | none => rw [e3, e4] at e; cases e
      | some ds =>
        rw [e3, e4] at e
        cases e
        obtain ⟨h1, h2⟩ := RVk.keys q e4
        subst e1 e2
        refine ⟨by simp [h1], fun i d z => ?_⟩
        cases i with
        | zero =>
          simp at z
          subst z
          refine ⟨x, v, rfl, ?_⟩
          cases x with
          | inl i => rw [DK.toD] at e3; cases e3; rw [RV]; rfl
          | inr s => rw [DK.toD] at e3; cases e3; rw [RV]; exact ⟨rfl, hx⟩
        | succ i =>
          simp at z
          obtain ⟨k', v', h3, h4⟩ := h2 i d z
          exact ⟨k', v', by simpa using h3, h4⟩
end Ev
namespace Ev
open PySem PySem.Spec PyProof.Rows L2
/-! ## 13. for x in a name -/
theorem serves_keys {R : RC} {kvs : List (DK × D)} {l : List (Key × V)} {ks : List D} {a : Addr} {od : Obj} (hz : R.Hz a = some (.dK l)) (hl : R.lk a = some od) (r : RVk R kvs l) (e : keysD kvs = some ks) : Serves R ks (Itk a od l) := fun i R' S' σ' H' le si => by
  obtain ⟨h1, h2⟩ := r.keys e
  have hh : H' a = some (.frz od (.dK l)) := by
    have := si.sub0 a _ (le.hz a _ hz)
    unfold lkd at this
    rw [le.lk, hl] at this
    exact this
  refine ⟨fun hi => ⟨hh, by rw [← h1]; exact hi⟩, fun d hd => ?_⟩
  have hi : i < ks.length := by
    by_cases q : i < ks.length
    · exact q
    · rw [List.getElem?_eq_none (by simpa using q)] at hd; cases hd
  obtain ⟨k, v, e1, rv⟩ := h2 i d hd
  refine ⟨⟨hh, by rw [← h1]; exact hi⟩, fun x H'' y => ?_⟩
  obtain ⟨e2, k', v', e3, e4⟩ := y
  rw [e1] at e3; cases e3
  subst e2 e4
  exact ⟨R', RLe.refl R', si, rv.monoV le.toRLv⟩
theorem keysD_t {R : RC} {kvs : List (DK × D)} {l : List (List Key × V)} {ks : List D} (r : RVt R kvs l) (e : keysD kvs = some ks) : l = [] ∧ ks = [] := by
  cases kvs with
  | nil => rw [RVt] at r; rw [keysD] at e; cases e; exact ⟨r, rfl⟩
  | cons p kvs =>
    obtain ⟨k, d⟩ := p
    rw [RVt] at r
    obtain ⟨v, x, r', e1, e2, _, _⟩ := r
    subst e2
    simp [keysD, DK.toD] at e
/-- what a name brings -/
theorem var_get {R : RC} {S S1 : SS} {σ : L2.St} {H : Hp} {i : Nat} {d : D} (si : SI R S σ H) (e : fz (fVar i) S = .ok d S1) : ∃ R1 v, RLe R R1 ∧ SI R1 S1 σ H ∧ σ[i]? = some (some v) ∧ RV R1 .new d v := by
  unfold fz fVar at e
  cases q : S.dl[i]? with
  | none => rw [q] at e; cases e
  | some sl =>
    rw [q] at e
    cases sl with
    | none => cases e
    | val d' =>
      cases e
      obtain ⟨v, ev, rv⟩ := si.val i _ q
      exact ⟨R, v, RLe.refl R, si, ev, rv⟩
    | own o =>
      cases e
      obtain ⟨R', v, l, ev, s2, rv⟩ := si.freezeSlot q
      exact ⟨R', v, l, s2, ev, rv⟩
theorem var_no {S : SS} {i : Nat} {c : Nat} {fs : List D} {S1 : SS} (e : fz (fVar i) S = .exc c fs S1) : False := by
  unfold fz fVar at e
  cases q : S.dl[i]? with
  | none => rw [q] at e; cases e
  | some sl =>
    rw [q] at e
    cases sl <;> cases e
def itemsK (d : D) : Option (List D) :=
  match d.view with
  | .dct kvs => keysD kvs
  | _ => none
def fForN (i : Nat) (t : Tg) (F : SS → Out Fl) : SS → Out Fl := fun S => (fz (fVar i) S).bind fun d S1 => match itemsOf d with
  | some ds => fFor t F ds S1
  | none => match itemsK d with
    | some ks => fFor t F ks S1
    | none => .no
def EC.unl (C : EC) (X : Cx) : EC := { C with W := Ev.unl X C.W }
section
variable {C : EC} {X : Cx} {D : Ends} {R : RC} {S : SS} {σ : L2.St} {H : Hp} {a : Addr} {u : HO} {od : Obj}
/-- the ends of a statement that runs under a lock -/
def lkEnds (D : Ends) (a : Addr) (od : Obj) (u : HO) : Ends := ⟨fun σ' H' => H' a = some (.frz od u) ∧ D.nx σ' (upd H' a u), fun v H' => H' a = some (.frz od u) ∧ D.rt v (upd H' a u), fun σ' H' => H' a = some (.frz od u) ∧ D.bk σ' (upd H' a u), fun σ' H' => H' a = some (.frz od u) ∧ D.ct σ' (upd H' a u)⟩
theorem PoS.locked {o : Out Fl} (hz : R.Hz a = some u) (hd : ∃ p l, u = .dK (p :: l)) (hl : R.lk a = none) (l0 : R.L0 a = none) (hn : ∀ o' u', X.H_0 a ≠ some (.frz o' u')) (p : PoS C D R o) : PoS (C.unl X) (lkEnds D a od u) (lkR R a od) o := by
  cases o with
  | ok fl S' =>
    cases fl with
    | nx => exact fun R' σ' H' l si => let ⟨h1, h2⟩ := si.unlock l hz hd hl l0; ⟨h1, p _ σ' _ (unR_le l) h2⟩
    | bk => exact fun R' σ' H' l si => let ⟨h1, h2⟩ := si.unlock l hz hd hl l0; ⟨h1, p _ σ' _ (unR_le l) h2⟩
    | ct => exact fun R' σ' H' l si => let ⟨h1, h2⟩ := si.unlock l hz hd hl l0; ⟨h1, p _ σ' _ (unR_le l) h2⟩
    | rt r => exact fun R' σ' H' x l si rr => let ⟨h1, h2⟩ := si.unlock l hz hd hl l0; ⟨h1, p _ σ' _ x (unR_le l) h2 (rr.unlock (l.hz a u hz))⟩
  | exc c fs S' =>
    intro R' σ' H' d l si x
    obtain ⟨h1, h2⟩ := si.unlock l hz hd hl l0
    refine ⟨a, od, u, h1, hn, p _ σ' _ d (unR_le l) h2 ?_⟩
    obtain ⟨dx, vs, fl, e1, e2, e3, e4⟩ := x
    exact ⟨dx, vs, fl, e1, by rw [upd_ne (fun z => by rw [z, h1] at e2; cases e2)]; exact e2, RVs.monoV unR_v e3, e4⟩
  | no => exact p
end
section
variable {X : Cx} {C : EC} {pos np : Pos} {tg : Expr} {body : List Stmt} {t : Tg} {F : SS → Out Fl} {i : Nat} {x : Str}
theorem ps_fForN (hp : PassesOwn (model X.prog X.w) X.A X.env X.xe) (hc : X.calm = true) (hK : X.K = C.G.K) (tk : Takes X C.W) (hN : X.N[i]? = some x) (hv : Vis X.env.scope x) (hd : (x == ("__debug__" : Str)) = false) (hcd : (x == ("__classdict__" : Str)) = false)
    (hg : ∀ C' : EC, C'.G = C.G → L2.PG X tg (tG C' t)) (hb : ∀ W : WX, Takes X W → PSs X body (tS { C with W := W } F)) (hs : ∀ y, foldedSetIterable (.Name x np) X.env y = pure y) :
    PS X (.For tg (.Name x np) body [] pos) (tS C (fForN i t F)) := by
  refine ⟨fun pins s σ H D I h => ?_⟩
  obtain ⟨R, S, b, si, p⟩ := h
  unfold fForN at p
  cases q : fz (fVar i) S with
  | no => rw [q] at p; exact p.elim
  | exc c fs S1 => exact (var_no q).elim
  | ok d S1 =>
    rw [q] at p
    have p : PoS C D R (match itemsOf d with | some ds => fFor t F ds S1 | none => match itemsK d with | some ks => fFor t F ks S1 | none => .no) := p
    cases e1 : itemsOf d with
    | some ds =>
      rw [e1] at p
      have p : PoS C D R (fFor t F ds S1) := p
      refine (ps_fFor hp hc (pi_fIter hK (pe_fz (pe_fVar hN hv hd hcd))) (hg C rfl) (hb C.W tk) hs).run pins s σ H D I ⟨R, S, b, si, ?_⟩
      have e : fForI t (fIter (fz (fVar i))) F S = fFor t F ds S1 := by
        unfold fForI fIter
        rw [q]
        show Out.bind (match itemsOf d with | some ds => Out.ok ds S1 | none => Out.no) _ = _
        rw [e1]
        rfl
      rw [e]; exact p
    | none =>
      rw [e1] at p
      have p : PoS C D R (match itemsK d with | some ks => fFor t F ks S1 | none => .no) := p
      cases e2 : itemsK d with
      | none => rw [e2] at p; exact p.elim
      | some ks =>
        rw [e2] at p
        have p : PoS C D R (fFor t F ks S1) := p
        unfold itemsK at e2
        split at e2
        case h_2 => cases e2
        rename_i kvs ed
        obtain ⟨R1, v, le, si1, ev, rd⟩ := var_get si q
        have b1 := b.le le
        have p := PoS.up p le
        obtain ⟨a, ea, hh⟩ := rd.dct_ ed
        subst ea
        have hK1 := b1.K.trans hK.symm
        rcases hh with ⟨l, hz, rk⟩ | ⟨l, hz, rt⟩
        · cases hl : R1.lk a with
          | some od =>
            -- an outer loop has locked it
            refine (ps_for hp hc (pi_keys (pe_var hN hv hd hcd)) (hg C rfl) (hb C.W tk) hs).run pins s σ H D I ⟨.ref a, ev, a, od, rfl, .inl ⟨l, ?_, for_core b1 si1 (serves_keys hz hl rk e2) p⟩⟩
            have := si1.sub0 a _ hz
            unfold lkd at this
            rw [hl] at this
            exact this
          | none =>
            have hu : H a = some (.dK l) := by have := si1.sub0 a _ hz; rw [lkd_none hl] at this; exact this
            have l0 : R1.L0 a = none := by
              cases e : R1.L0 a with
              | none => rfl
              | some x => have := si1.l0 a x e; rw [hl] at this; cases this
            refine (ps_lock (ps_for hp hc (pi_keys (pe_var hN hv hd hcd)) (hg (C.unl X) rfl) (hb (unl X C.W) (takes_unl tk)) hs)).run pins s σ H D I ⟨a, .dK l, hu, True.intro, fun od => ?_⟩
            refine ⟨.ref a, ev, a, od, rfl, .inl ⟨l, upd_same, ?_⟩⟩
            cases l with
            | nil =>
              have hks : ks = [] := by
                have := (rk.keys e2).1
                simpa using this
              subst hks
              refine ⟨fun i m σ' H' => σ' = σ ∧ H' = upd H a (.frz od (.dK [])), ⟨0, rfl, rfl⟩, fun i m σ' H' hw => ?_⟩
              obtain ⟨w1, w2⟩ := hw
              subst w1 w2
              refine .inl ⟨⟨upd_same, Nat.zero_le _⟩, upd_same, ?_⟩
              rw [upd_back hu]
              exact p R1 _ H (RLe.refl R1) si1
            | cons kv l =>
              have hd : ∃ p l', HO.dK (kv :: l) = .dK (p :: l') := ⟨kv, l, rfl⟩
              have sL := si1.lock (od := od) hz hd hl
              exact for_core (C := C.unl X) (D := lkEnds D a od (.dK (kv :: l))) (R := lkR R1 a od) b1 sL (serves_keys (R := lkR R1 a od) hz (if_pos rfl) (RVk.monoV lkR_v rk) e2) (PoS.locked hz hd hl l0 (I.nofrz hu True.intro) p)
        · obtain ⟨z1, z2⟩ := keysD_t rt e2
          subst z1 z2
          have hu : H a = some (.dT []) := si1.sub.at hz
          refine (ps_lock (ps_for hp hc (pi_keys (pe_var hN hv hd hcd)) (hg C rfl) (hb C.W tk) hs)).run pins s σ H D I ⟨a, .dT [], hu, True.intro, fun od => ?_⟩
          refine ⟨.ref a, ev, a, od, rfl, .inr ⟨[], upd_same, ?_⟩⟩
          refine ⟨fun i m σ' H' => σ' = σ ∧ H' = upd H a (.frz od (.dT [])), ⟨0, rfl, rfl⟩, fun i m σ' H' hw => ?_⟩
          obtain ⟨w1, w2⟩ := hw
          subst w1 w2
          refine .inl ⟨⟨upd_same, Nat.zero_le _⟩, upd_same, ?_⟩
          rw [upd_back hu]
          exact p R1 _ H (RLe.refl R1) si1
end
end Ev
namespace Ev
open PySem PySem.Spec PyProof.Rows L2
/-! ## 14. a thing held for a while; list comprehensions -/
def holdR (R : RC) (p : Addr) (u : HO) : RC := { R with H0 := upd R.H0 p u }
def relR (R' R : RC) : RC := { R' with H0 := R.H0 }
section
variable {R R' : RC} {S S' : SS} {σ σ' : L2.St} {H H' : Hp} {p : Addr} {u : HO}
/-- nothing of ours is at p -/
structure Apart (R : RC) (S : SS) (σ : L2.St) (p : Addr) : Prop where
  h0 : R.H0 p = none
  hz : R.Hz p = none
  old : R.old p = none
  own : ∀ i, ¬ Owns S σ i p
  ref : NoRef R p
theorem SI.apart (si : SI R S σ H) (hp : H p = none) : Apart R S σ p := let ⟨a, b, c⟩ := si.fresh hp; ⟨b, c, a, si.notOwned hp, si.notRef hp⟩
theorem holdR_v : RLv R (holdR R p u) := ⟨rfl, rfl, rfl, rfl, .inr rfl, fun _ _ h => h, fun _ _ h => h, fun _ _ h => h, fun _ _ h => h⟩
theorem relR_v : RLv R' (relR R' R) := ⟨rfl, rfl, rfl, rfl, .inr rfl, fun _ _ h => h, fun _ _ h => h, fun _ _ h => h, fun _ _ h => h⟩
theorem relR_le (l : RLe (holdR R p u) R') : RLe R (relR R' R) := ⟨by
  have e := l.rs
  have : (relR R' R).toRS = { R'.toRS with H0 := R.H0 } := rfl
  rw [this, e]; rfl, l.lk, l.sp, l.lb, l.hz⟩
theorem SI.hold (si : SI R S σ H) (ap : Apart R S σ p) (hu : H p = some u) (nt : ∀ ps, u ≠ .tbl ps) : SI (holdR R p u) S σ H := by
  obtain ⟨h0, hz, ho, no, nr⟩ := ap
  have lkn := si.lkN hz
  have l0n : R.L0 p = none := by
    cases e : R.L0 p with
    | none => rfl
    | some x => have := si.l0 p x e; rw [lkn] at this; cases this
  have up : ∀ {a o}, upd R.H0 p u a = some o → a ≠ p → R.H0 a = some o := fun {a o} e h => by rw [upd_ne h] at e; exact e
  refine { len := si.len, sub0 := si.sub0, lkz := si.lkz, l0 := si.l0, nfz := si.nfz, z0 := si.z0, new := fun a o e => ?_, ntb := si.ntb, tb := ⟨fun a ps e => ?_, si.tb.2⟩, keep := fun a o e n t => ?_, dom := fun a e => ?_, oldd := fun a e => ?_, val := fun i d e => ?_, own := fun i o e => ?_, disj := si.disj, ref := fun k o e => ?_, rlt := si.rlt, rfr := fun k a e => ?_, rs0 := si.rs0, rno := si.rno, rinj := si.rinj, lbl := si.lbl }
  · have e : R.Hz a = some o := e
    show _ ∨ upd R.H0 p u a = none
    rw [upd_ne (fun z => by rw [z, hz] at e; cases e)]
    exact si.new a o e
  · have e : upd R.H0 p u a = some (.tbl ps) := e
    by_cases h : a = p
    · subst h; rw [upd_same] at e; cases e; exact (nt ps rfl).elim
    · exact si.tb.1 a ps (up e h)
  · have e : upd R.H0 p u a = some o := e
    by_cases h : a = p
    · subst h
      rw [upd_same] at e; cases e
      show H a = some (match R.L0 a with | some _ => u | none => lkd R a u)
      rw [l0n]
      dsimp only
      rw [lkd_none lkn]
      exact hu
    · exact si.keep a o (up e h) n t
  · show upd R.H0 p u a = none
    rw [upd_ne (fun z => by rw [z, hu] at e; cases e)]
    exact si.dom a e
  · have e : upd R.H0 p u a = none := e
    refine si.oldd a ?_
    rw [upd_ne (fun z => by rw [z, upd_same] at e; cases e)] at e
    exact e
  · obtain ⟨v, e1, r⟩ := si.val i d e
    exact ⟨v, e1, r.monoV holdR_v⟩
  · obtain ⟨a, e1, w⟩ := si.own i o e
    have hp : a ≠ p := fun z => no i ⟨⟨o, e⟩, by rw [← z]; exact e1⟩
    obtain ⟨w1, w2, w3, w4⟩ := w
    refine ⟨a, e1, w1, ?_, w3, ?_⟩
    · show upd R.H0 p u a = none
      rw [upd_ne hp]; exact w2
    · cases o with
      | lst ds => obtain ⟨vs, q, r⟩ := w4; exact ⟨vs, q, RVs.monoV holdR_v r⟩
      | dct kvs =>
        rcases w4 with ⟨ll, q, r⟩ | ⟨ll, q, r⟩
        · exact .inl ⟨ll, q, RVk.monoV holdR_v r⟩
        · exact .inr ⟨ll, q, RVt.monoV holdR_v r⟩
  · obtain ⟨a, e1, w⟩ := si.ref k o e
    exact ⟨a, e1, w.mono holdR_v w.1 rfl⟩
  · have e : R.sp k = some a := e
    show _ ∨ upd R.H0 p u a = none
    rw [upd_ne (fun z => nr k (by rw [← z]; exact e))]
    exact si.rfr k a e
theorem SI.release (si0 : SI R S σ H) (ap : Apart R S σ p) (nt : ∀ ps, u ≠ .tbl ps) (l : RLe (holdR R p u) R') (si : SI R' S' σ' H') :
    SI (relR R' R) S' σ' H' ∧ H' p = some u ∧ Apart (relR R' R) S' σ' p := by
  obtain ⟨h0, hz, ho, no, nr⟩ := ap
  have lkn := si0.lkN hz
  have eH0 : R'.H0 = upd R.H0 p u := by rw [l.rs]; rfl
  have eZ0 : R'.Z0 = R.Z0 := by rw [l.rs]; rfl
  have eL0 : R'.L0 = R.L0 := by rw [l.rs]; rfl
  have eold : R'.old = R.old := by rw [l.rs]; rfl
  have esp : R'.sp0 = R.sp0 := by rw [l.rs]; rfl
  have l0n : R.L0 p = none := by
    cases e : R.L0 p with
    | none => rfl
    | some x => have := si0.l0 p x e; rw [lkn] at this; cases this
  have hzp : R'.Hz p = none := by
    cases q : R'.Hz p with
    | none => rfl
    | some o =>
      rcases si.new p o q with z | z
      · rw [eZ0] at z; have := si0.z0 p o z; rw [hz] at this; cases this
      · rw [eH0, upd_same] at z; cases z
  have nr0 : NoRef0 R' p := fun k e => by rw [esp] at e; exact nr k (si0.rs0 k p e)
  have hu : H' p = some u := by
    have q := si.keep p u (by rw [eH0, upd_same]) nr0 nt
    rw [eL0, l0n] at q
    dsimp only at q
    have : R'.lk p = none := by rw [l.lk]; exact lkn
    rw [lkd_none this] at q
    exact q
  have no' : ∀ i, ¬ Owns S' σ' i p := fun i ⟨⟨o, e⟩, e2⟩ => by
    obtain ⟨a, e3, w⟩ := si.own i o e
    rw [e2] at e3; cases e3
    have := w.2.1
    rw [eH0, upd_same] at this; cases this
  have nr' : NoRef R' p := fun k e => by
    rcases si.rfr k p e with z | z
    · exact nr0 k z
    · rw [eH0, upd_same] at z; cases z
  have dn : ∀ {a}, R'.H0 a = none → R.H0 a = none := fun {a} e => by
    rw [eH0] at e
    by_cases h : a = p
    · rw [h]; exact h0
    · rw [upd_ne h] at e; exact e
  have un : ∀ {a o}, R.H0 a = some o → R'.H0 a = some o := fun {a o} e => by
    rw [eH0, upd_ne (fun z => by rw [z, h0] at e; cases e)]; exact e
  refine ⟨{ len := si.len, sub0 := si.sub0, lkz := si.lkz, l0 := si.l0, nfz := si.nfz, z0 := si.z0, new := fun a o e => ?_, ntb := si.ntb, tb := ⟨fun a ps e => si.tb.1 a ps (un e), si.tb.2⟩, keep := fun a o e n t => si.keep a o (un e) n t, dom := fun a e => dn (si.dom a e), oldd := fun a e => ?_, val := fun i d e => ?_, own := fun i o e => ?_, disj := si.disj, ref := fun k o e => ?_, rlt := si.rlt, rfr := fun k a e => ?_, rs0 := si.rs0, rno := si.rno, rinj := si.rinj, lbl := si.lbl }, hu, ⟨h0, hzp, by show R'.old p = none; rw [eold]; exact ho, no', nr'⟩⟩
  · rcases si.new a o e with z | z
    · exact .inl z
    · exact .inr (dn z)
  · show R'.old a = none
    by_cases h : a = p
    · rw [h, eold]; exact ho
    · exact si.oldd a (by rw [eH0, upd_ne h]; exact e)
  · obtain ⟨v, e1, r⟩ := si.val i d e
    exact ⟨v, e1, r.monoV relR_v⟩
  · obtain ⟨a, e1, w⟩ := si.own i o e
    obtain ⟨w1, w2, w3, w4⟩ := w
    refine ⟨a, e1, w1, dn w2, w3, ?_⟩
    cases o with
    | lst ds => obtain ⟨vs, q, r⟩ := w4; exact ⟨vs, q, RVs.monoV relR_v r⟩
    | dct kvs =>
      rcases w4 with ⟨ll, q, r⟩ | ⟨ll, q, r⟩
      · exact .inl ⟨ll, q, RVk.monoV relR_v r⟩
      · exact .inr ⟨ll, q, RVt.monoV relR_v r⟩
  · obtain ⟨a, e1, w⟩ := si.ref k o e
    exact ⟨a, e1, w.mono relR_v w.1 rfl⟩
  · rcases si.rfr k a e with z | z
    · exact .inl z
    · exact .inr (dn z)
/-- the thing at p is described anew -/
theorem SI.retell (si : SI R S σ H) (ap : Apart R S σ p) (hu : H p = some u) (nt : ∀ ps, u ≠ .tbl ps) {w : HO} : SI R S σ (upd H p w) := by
  obtain ⟨h0, hz, ho, no, nr⟩ := ap
  have lkn := si.lkN hz
  refine { len := si.len, sub0 := fun a o e => ?_, lkz := si.lkz, l0 := si.l0, nfz := si.nfz, z0 := si.z0, new := si.new, ntb := si.ntb, tb := ⟨fun a ps e => ?_, fun q hq => (si.tb.2 q hq).mono (fun ps e => by rw [upd_ne (fun z => by rw [z, hu] at e; cases e; exact nt _ rfl)]; exact e) fun _ _ e => e⟩, keep := fun a o e n t => ?_, dom := fun a e => ?_, oldd := si.oldd, val := si.val, own := fun i o e => ?_, disj := si.disj, ref := fun k o e => ?_, rlt := si.rlt, rfr := si.rfr, rs0 := si.rs0, rno := si.rno, rinj := si.rinj, lbl := si.lbl }
  · rw [upd_ne (fun z => by rw [z, hz] at e; cases e)]; exact si.sub0 a o e
  · obtain ⟨m, q⟩ := si.tb.1 a ps e
    exact ⟨m, by rw [upd_ne (fun z => by rw [z, hu] at q; cases q; exact nt _ rfl)]; exact q⟩
  · rw [upd_ne (fun z => by rw [z, h0] at e; cases e)]; exact si.keep a o e n t
  · by_cases h : a = p
    · subst h; rw [upd_same] at e; cases e
    · rw [upd_ne h] at e; exact si.dom a e
  · obtain ⟨a, e1, q⟩ := si.own i o e
    have hp : a ≠ p := fun z => no i ⟨⟨o, e⟩, by rw [← z]; exact e1⟩
    exact ⟨a, e1, q.mono (RLe.refl R) q.2.2.1 (upd_ne hp)⟩
  · obtain ⟨a, e1, q⟩ := si.ref k o e
    have hp : a ≠ p := fun z => nr k (by rw [← z]; exact e1)
    exact ⟨a, e1, q.mono (RLe.refl R).v q.1 (upd_ne hp)⟩
/-- a slot forgotten, with the name's value -/
theorem SI.unset (si : SI R S σ H) (i : Nat) : SI R (S.drop i) (σ.set i none) H := by
  have sd := si.drop i
  have key : ∀ {j : Nat} {w : V}, j ≠ i → σ[j]? = some (some w) → (σ.set i none)[j]? = some (some w) := fun {j w} h e => by rw [List.getElem?_set_ne (Ne.symm h)]; exact e
  have nn : ∀ {j : Nat} {sl : Slot}, (S.drop i).dl[j]? = some sl → sl ≠ .none → j ≠ i := fun {j sl} e h z => by
    subst z
    have e : (S.dl.set j Slot.none)[j]? = some sl := e
    by_cases hl : j < S.dl.length
    · rw [List.getElem?_set_self hl] at e; cases e; exact h rfl
    · rw [List.getElem?_eq_none (by simpa using hl)] at e; cases e
  have ow : ∀ {j : Nat} {a : Addr}, Owns (S.drop i) (σ.set i none) j a → Owns (S.drop i) σ j a := fun {j a} ⟨⟨o, e⟩, e2⟩ => ⟨⟨o, e⟩, by
    rw [List.getElem?_set_ne (Ne.symm (nn e (by simp)))] at e2; exact e2⟩
  refine { sd with len := by simpa using sd.len, val := fun j d e => ?_, own := fun j o e => ?_, disj := fun j k a h1 h2 => sd.disj j k a (ow h1) (ow h2), rno := fun k a e j h => sd.rno k a e j (ow h) }
  · obtain ⟨v, e1, r⟩ := sd.val j d e
    exact ⟨v, key (nn e (by simp)) e1, r⟩
  · obtain ⟨a, e1, r⟩ := sd.own j o e
    exact ⟨a, key (nn e (by simp)) e1, r⟩
def SS.wipe (S : SS) : List Nat → SS
  | [] => S
  | v :: vs => (S.wipe vs).drop v
theorem SI.wipe (si : SI R S σ H) : ∀ vs : List Nat, SI R (S.wipe vs) (wipe σ vs) H
  | [] => si
  | v :: vs => (SI.wipe si vs).unset v
end
theorem wipe_chg {σ σ' : L2.St} {vs ws : List Nat} (h : Chg ws σ σ') (hw : ∀ i ∈ ws, i ∈ vs) : wipe σ' vs = wipe σ vs := by
  have key : ∀ {us : List Nat} {σ σ' : L2.St}, σ'.length = σ.length → (∀ j, j ∉ us → σ'[j]? = σ[j]?) → L2.wipe σ' us = L2.wipe σ us := by
    intro us
    induction us with
    | nil => intro σ σ' h1 h2; exact List.ext_getElem? fun j => h2 j (by simp)
    | cons u us ih =>
      intro σ σ' h1 h2
      show (L2.wipe σ' us).set u none = (L2.wipe σ us).set u none
      apply List.ext_getElem?
      intro j
      by_cases hj : j = u
      · subst hj
        by_cases hl : j < σ.length
        · rw [List.getElem?_set_self (by rw [L2.wipe_length]; omega), List.getElem?_set_self (by rw [L2.wipe_length]; omega)]
        · rw [List.getElem?_eq_none (by rw [List.length_set, L2.wipe_length]; omega), List.getElem?_eq_none (by rw [List.length_set, L2.wipe_length]; omega)]
      · rw [List.getElem?_set_ne (Ne.symm hj), List.getElem?_set_ne (Ne.symm hj)]
        have e : L2.wipe σ' us = L2.wipe (σ'.set u (σ[u]?.getD none)) us ∨ True := .inr trivial
        -- beside u the same
        have w : ∀ (τ : L2.St) (k : Nat), k ∉ us → (L2.wipe τ us)[k]? = τ[k]? := fun τ k hk => L2.wipe_out hk
        by_cases hm : j ∈ us
        · have z : ∀ (τ : L2.St), j < τ.length → (L2.wipe τ us)[j]? = some none := by
            intro τ hl
            clear e w ih h2
            induction us with
            | nil => cases hm
            | cons a us ih2 =>
              show ((L2.wipe τ us).set a none)[j]? = _
              by_cases ha : j = a
              · subst ha; rw [List.getElem?_set_self (by rw [L2.wipe_length]; exact hl)]
              · rw [List.getElem?_set_ne (Ne.symm ha)]
                exact ih2 (by simpa [ha] using hm)
          by_cases hl : j < σ.length
          · rw [z σ hl, z σ' (by omega)]
          · rw [List.getElem?_eq_none (by rw [L2.wipe_length]; omega), List.getElem?_eq_none (by rw [L2.wipe_length]; omega)]
        · rw [w σ' j hm, w σ j hm]
          exact h2 j (by simp [hj, hm])
  exact key h.1 fun j hj => h.2 j fun hm => hj (hw j hm)
end Ev
namespace Ev
open PySem PySem.Spec PyProof.Rows L2
/-! ## 15. list comprehensions -/
def restL : List Nat → List Slot → List Slot → List Slot
  | [], _, d => d
  | v :: vs, d0, d => (restL vs d0 d).set v (d0.getD v .none)
def SS.rest (S S0 : SS) (vs : List Nat) : SS := { S with dl := restL vs S0.dl S.dl }
def Slot.notOwn : Slot → Bool
  | .own _ => false
  | _ => true
def noOwn (S : SS) (vs : List Nat) : Bool := vs.all fun v => (S.dl.getD v .none).notOwn
section
variable {R R' : RC} {S S' S0 : SS} {σ σ' : L2.St} {H H' : Hp}
theorem restL_length : ∀ (vs : List Nat) (d0 d : List Slot), (restL vs d0 d).length = d.length
  | [], _, _ => rfl
  | v :: vs, d0, d => by rw [restL, List.length_set, restL_length vs d0 d]
theorem SI.setslot {v : Nat} {sl : Slot} (si : SI R S (σ.set v none) H) (hs : sl = .none ∨ ∃ d w, sl = .val d ∧ σ[v]? = some (some w) ∧ RV R .new d w) : SI R { S with dl := S.dl.set v sl } σ H := by
  have len : S.dl.length = σ.length := by have := si.len; simpa using this
  have key : ∀ {j : Nat} {w : V}, (σ.set v none)[j]? = some (some w) → j ≠ v ∧ σ[j]? = some (some w) := fun {j w} e => by
    have h : j ≠ v := fun z => by
      subst z
      by_cases hl : j < σ.length
      · rw [List.getElem?_set_self hl] at e; cases e
      · rw [List.getElem?_eq_none (by simpa using hl)] at e; cases e
    rw [List.getElem?_set_ne (Ne.symm h)] at e
    exact ⟨h, e⟩
  have old : ∀ {j : Nat} {s : Slot}, j ≠ v → ({ S with dl := S.dl.set v sl } : SS).dl[j]? = some s → S.dl[j]? = some s := fun {j s} h e => by
    have e : (S.dl.set v sl)[j]? = some s := e
    rw [List.getElem?_set_ne (Ne.symm h)] at e; exact e
  have at_v : ∀ {s : Slot}, ({ S with dl := S.dl.set v sl } : SS).dl[v]? = some s → s = sl := fun {s} e => by
    have e : (S.dl.set v sl)[v]? = some s := e
    by_cases hl : v < S.dl.length
    · rw [List.getElem?_set_self hl] at e; cases e; rfl
    · rw [List.getElem?_eq_none (by simpa using hl)] at e; cases e
  have notown : ∀ o, sl ≠ .own o := fun o z => by rcases hs with h | ⟨d, w, h, _⟩ <;> (rw [h] at z; cases z)
  have ow : ∀ {j : Nat} {a : Addr}, Owns { S with dl := S.dl.set v sl } σ j a → Owns S (σ.set v none) j a := fun {j a} ⟨⟨o, e⟩, e2⟩ => by
    have h : j ≠ v := fun z => by subst z; exact notown o (at_v e).symm
    exact ⟨⟨o, old h e⟩, by rw [List.getElem?_set_ne (Ne.symm h)]; exact e2⟩
  refine { si with len := by simpa using len, val := fun j d e => ?_, own := fun j o e => ?_, disj := fun j k a h1 h2 => si.disj j k a (ow h1) (ow h2), rno := fun k a e j h => si.rno k a e j (ow h) }
  · by_cases h : j = v
    · subst h
      have := at_v e
      rcases hs with h | ⟨d', w, h, e1, r⟩
      · rw [h] at this; cases this
      · rw [h] at this; cases this; exact ⟨w, e1, r⟩
    · obtain ⟨w, e1, r⟩ := si.val j d (old h e)
      exact ⟨w, (key e1).2, r⟩
  · have h : j ≠ v := fun z => by subst z; exact notown o (at_v e).symm
    obtain ⟨a, e1, r⟩ := si.own j o (old h e)
    exact ⟨a, (key e1).2, r⟩
theorem SI.rest (si0 : SI R S0 σ H) (hk : ∀ d w, RV R .new d w → RV R' .new d w) : ∀ {vs : List Nat} {S' : SS}, vs.Nodup → noOwn S0 vs = true → SI R' S' (L2.wipe σ vs) H' → SI R' (S'.rest S0 vs) σ H'
  | [], _, _, _, si => si
  | v :: vs, S', nd, no, si => by
    have nd := List.nodup_cons.mp nd
    have no : (S0.dl.getD v .none).notOwn = true ∧ noOwn S0 vs = true := by simpa [noOwn] using no
    have s1 : SI R' S' ((L2.wipe σ vs).set v none) H' := si
    -- the slots of vs are put back in the shorter state
    have s2 : SI R' { S' with dl := S'.dl.set v (S0.dl.getD v .none) } (L2.wipe σ vs) H' := by
      refine s1.setslot ?_
      cases e : S0.dl[v]? with
      | none => left; rw [List.getD_eq_getElem?_getD, e]; rfl
      | some sl =>
        have e2 : S0.dl.getD v .none = sl := by rw [List.getD_eq_getElem?_getD, e]; rfl
        rw [e2] at no ⊢
        cases sl with
        | none => exact .inl rfl
        | own o => exact (Bool.noConfusion no.1)
        | val d =>
          obtain ⟨w, e3, r⟩ := si0.val v d e
          exact .inr ⟨d, w, rfl, by rw [wipe_out nd.1]; exact e3, hk d w r⟩
    have s3 := SI.rest si0 hk (S' := { S' with dl := S'.dl.set v (S0.dl.getD v .none) }) nd.2 no.2 s2
    have e : (({ S' with dl := S'.dl.set v (S0.dl.getD v .none) } : SS).rest S0 vs) = S'.rest S0 (v :: vs) := by
      unfold SS.rest
      have : ∀ (us : List Nat), v ∉ us → ∀ (d0 d : List Slot) (x : Slot), restL us d0 (d.set v x) = (restL us d0 d).set v x := by
        intro us
        induction us with
        | nil => intro _ d0 d x; rfl
        | cons u us ih =>
          intro h d0 d x
          rw [restL, restL, ih (fun z => h (List.mem_cons_of_mem _ z)), List.set_comm]
          exact fun z => h (by rw [z]; exact List.mem_cons_self)
      show ({ S' with dl := restL vs S0.dl (S'.dl.set v _) } : SS) = { S' with dl := (restL vs S0.dl S'.dl).set v _ }
      rw [this vs nd.1]
    rw [← e]
    exact s3
end
/-- the loop of a comprehension: exceptions are not served -/
def lcLoop (t : Tg) (vs : List Nat) (c : SS → Out Bool) (f : SS → Out D) : List D → List D → SS → Out (List D)
  | [], acc, S => .ok acc S
  | d :: ds, acc, S => match t.put d S with
    | none => .no
    | some S1 => match c S1 with
      | .ok true S2 => match f S2 with
        | .ok e S3 => lcLoop t vs c f ds (acc ++ [e]) (S3.wipe vs)
        | _ => .no
      | .ok false S2 => lcLoop t vs c f ds acc (S2.wipe vs)
      | _ => .no
def lcRun (t : Tg) (vs : List Nat) (c : SS → Out Bool) (f : SS → Out D) (ds : List D) (S1 : SS) : Out Res :=
  if noOwn S1 vs = true ∧ ds.length ≤ sizeLine then match lcLoop t vs c f ds [] (S1.wipe vs) with
    | .ok acc S2 => .ok (.own (.lst acc)) (S2.rest S1 vs)
    | _ => .no
  else .no
def fLc (t : Tg) (vs : List Nat) (fi : SS → Out (List D)) (c : SS → Out Bool) (f : SS → Out D) : SS → Out Res := fun S => (fi S).bind fun ds S1 => lcRun t vs c f ds S1
def fYes : SS → Out Bool := fun S => .ok true S
def EC.dry (C : EC) : EC := { C with W := fun _ _ _ _ => False }
theorem wipe_wipe (σ : L2.St) : ∀ vs : List Nat, L2.wipe (L2.wipe σ vs) vs = L2.wipe σ vs := fun vs => by
  have h : Chg vs σ (L2.wipe σ vs) := ⟨L2.wipe_length σ vs, fun j hj => L2.wipe_out hj⟩
  exact wipe_chg h fun i hi => hi
section
variable {C : EC} {R : RC} {S1 : SS} {σ : L2.St} {H1 : Hp} {ds : List D} {J : It} {t : Tg} {vs : List Nat} {c : SS → Out Bool} {f : SS → Out D} {Q : VK}
theorem lc_core' (b : Base C R) (si : SI R S1 σ H1) (sv : Serves R ds J) (nd : vs.Nodup) (hin : ∀ i ∈ t.ixs, i ∈ vs) (p : Po C rR R σ (lcRun t vs c f ds S1) Q) :
    ∀ D, H1 D = none → ∃ W : Nat → Nat → Hp → Prop, (∃ m, W 0 m (upd H1 D (.lst []))) ∧ ∀ i m H, W i m H →
      (J.stop i H ∧ Q (.ref D) H) ∨ (J.go i H ∧ ∃ Nx : Hp → Prop, (∀ H', Nx H' → ∃ m', m' < m ∧ W (i + 1) m' H') ∧ ∀ x H', J.yld i H x H' → tG C.dry t x (L2.wipe σ vs) H' fun σ2 H2 => wipe σ2 vs = wipe σ vs ∧ tT C.dry c σ2 H2 fun b H3 =>
        if b = true then tD C.dry f σ2 H3 fun y H4 => ∃ acc, H4 D = some (.lst acc) ∧ acc.length < sizeLine ∧ Nx (upd H4 D (.lst (acc ++ [y]))) else Nx H3) := by
  intro L hL
  unfold lcRun at p
  split at p
  case isFalse => exact p.elim
  rename_i hno
  obtain ⟨hno, hsz⟩ := hno
  have sL : SI R S1 σ (upd H1 L (.lst [])) := si.alloc hL
  have ap := si.apart hL
  cases q : lcLoop t vs c f ds [] (S1.wipe vs) with
  | no => rw [q] at p; exact p.elim
  | exc c' fs S' => rw [q] at p; exact p.elim
  | ok accF SF =>
    rw [q] at p
    -- what holds at each turn
    refine ⟨fun i m H => i + m = ds.length ∧ ∃ R' S' acc ws, RLe R R' ∧ SI R' S' (L2.wipe σ vs) H ∧ Apart R' S' (L2.wipe σ vs) L ∧ H L = some (.lst ws) ∧ RVs R' acc ws ∧ acc.length ≤ i ∧ lcLoop t vs c f (ds.drop i) acc S' = .ok accF SF, ⟨ds.length, by omega, R, S1.wipe vs, [], [], RLe.refl R, sL.wipe vs, ⟨ap.h0, ap.hz, ap.old, fun i ow => ?_, ap.ref⟩, upd_same, by rw [RVs], Nat.le_refl _, q⟩, ?_⟩
    · have : ∀ (us : List Nat), Owns (S1.wipe us) (L2.wipe σ us) i L → Owns S1 σ i L := by
        intro us
        induction us with
        | nil => exact id
        | cons u us ih =>
          intro h
          obtain ⟨⟨o, e⟩, e2⟩ := h
          have hd : Owns ((S1.wipe us).drop u) ((L2.wipe σ us).set u none) i L := ⟨⟨o, e⟩, e2⟩
          have hi : i ≠ u := by
            intro z
            subst z
            by_cases hl : i < (L2.wipe σ us).length
            · have e2 : ((L2.wipe σ us).set i none)[i]? = _ := e2
              rw [List.getElem?_set_self hl] at e2; cases e2
            · have e2 : ((L2.wipe σ us).set i none)[i]? = _ := e2
              rw [List.getElem?_eq_none (by simpa using hl)] at e2; cases e2
          refine ih ⟨⟨o, ?_⟩, ?_⟩
          · have e : ((S1.wipe us).dl.set u Slot.none)[i]? = _ := e
            rw [List.getElem?_set_ne (Ne.symm hi)] at e; exact e
          · have e2 : ((L2.wipe σ us).set u none)[i]? = _ := e2
            rw [List.getElem?_set_ne (Ne.symm hi)] at e2; exact e2
      exact ap.own i (this vs ow)
    · intro i m H hw
      obtain ⟨e, R', S', acc, ws, l', si', ap', hL', ra, hacc, eq⟩ := hw
      cases m with
      | zero =>
        have e' : i = ds.length := by omega
        subst e'
        rw [List.drop_length, lcLoop] at eq
        cases eq
        obtain ⟨h1, _⟩ := sv ds.length R' SF (L2.wipe σ vs) H l'.w si'
        refine .inl ⟨h1 (Nat.le_refl _), ?_⟩
        have sR : SI R' (SF.rest S1 vs) σ H := SI.rest si (fun d w r => r.mono l') nd hno si'
        refine p R' H (.ref L) l' sR ⟨L, rfl, ⟨ap'.old, ap'.h0, ap'.hz, ws, hL', ra⟩, fun i ow => ?_, ap'.ref⟩
        -- the slots that are put back own nothing; the others are as they were
        have : ∀ (us : List Nat), noOwn S1 us = true → (∀ o, (restL us S1.dl SF.dl)[i]? = some (Slot.own o) → SF.dl[i]? = some (Slot.own o) ∧ i ∉ us) := by
          intro us
          induction us with
          | nil => intro _ o h; exact ⟨h, by simp⟩
          | cons u us ih =>
            intro hn o h
            have hn : (S1.dl.getD u .none).notOwn = true ∧ noOwn S1 us = true := by simpa [noOwn] using hn
            rw [restL] at h
            by_cases hi : i = u
            · subst hi
              by_cases hl : i < (restL us S1.dl SF.dl).length
              · rw [List.getElem?_set_self hl] at h
                cases h' : S1.dl.getD i .none with
                | own o' => rw [h'] at hn; exact (Bool.noConfusion hn.1)
                | none => rw [h'] at h; cases h
                | val d => rw [h'] at h; cases h
              · rw [List.getElem?_eq_none (by simpa using hl)] at h; cases h
            · rw [List.getElem?_set_ne (Ne.symm hi)] at h
              obtain ⟨a1, a2⟩ := ih hn.2 o h
              exact ⟨a1, by simp [hi, a2]⟩
        obtain ⟨⟨o, e1⟩, e2⟩ := ow
        obtain ⟨a1, a2⟩ := this vs hno o e1
        exact ap'.own i ⟨⟨o, a1⟩, by rw [wipe_out a2]; exact e2⟩
      | succ m =>
        have hlt : i < ds.length := by omega
        have hd := List.getElem?_eq_getElem hlt
        have nt : ∀ ps, HO.lst ws ≠ .tbl ps := fun ps z => by cases z
        -- the list is held through the turn
        have sH := si'.hold ap' hL' nt
        obtain ⟨_, h2⟩ := sv i (holdR R' L (.lst ws)) S' (L2.wipe σ vs) H (l'.w.trans ⟨holdR_v, rfl⟩) sH
        obtain ⟨hg, hy⟩ := h2 _ hd
        rw [List.drop_eq_getElem_cons hlt, lcLoop] at eq
        refine .inr ⟨hg, fun H'' => i + 1 + m = ds.length ∧ ∃ R' S' acc ws, RLe R R' ∧ SI R' S' (L2.wipe σ vs) H'' ∧ Apart R' S' (L2.wipe σ vs) L ∧ H'' L = some (.lst ws) ∧ RVs R' acc ws ∧ acc.length ≤ i + 1 ∧ lcLoop t vs c f (ds.drop (i + 1)) acc S' = .ok accF SF, fun H'' q => ⟨m, by omega, q⟩, fun x H'' y => ?_⟩
        obtain ⟨R2, l2, si2, rv⟩ := hy x H'' y
        have b1 : Base C R' := b.le l'
        have bH : Base C (holdR R' L (.lst ws)) := b1
        have b2 : Base C R2 := bH.le l2
        cases e1 : t.put ds[i] S' with
        | none => rw [e1] at eq; cases eq
        | some St =>
          rw [e1] at eq
          dsimp only at eq
          refine ⟨R2, S', _, St, b2, si2, rv, e1, fun R3 σ3 l3 si3 ch => ⟨wipe_chg ch hin |>.trans (wipe_wipe σ vs), ?_⟩⟩
          have ws3 : L2.wipe σ3 vs = L2.wipe σ vs := (wipe_chg ch hin).trans (wipe_wipe σ vs)
          -- the turn's end
          have fin : ∀ {R5 : RC} {S5 : SS} {H5 : Hp}, RLe (holdR R' L (.lst ws)) R5 → SI R5 S5 σ3 H5 → RVs R5 acc ws → lcLoop t vs c f (ds.drop (i + 1)) acc (S5.wipe vs) = .ok accF SF →
              i + 1 + m = ds.length ∧ ∃ R' S' acc ws, RLe R R' ∧ SI R' S' (L2.wipe σ vs) H5 ∧ Apart R' S' (L2.wipe σ vs) L ∧ H5 L = some (.lst ws) ∧ RVs R' acc ws ∧ acc.length ≤ i + 1 ∧ lcLoop t vs c f (ds.drop (i + 1)) acc S' = .ok accF SF := by
            intro R5 S5 H5 l5 si5 r5 e5
            have s6 := si5.wipe vs
            rw [ws3] at s6
            obtain ⟨s7, hu, ap7⟩ := si'.release ap' nt l5 s6
            exact ⟨by omega, _, _, acc, ws, l'.trans (relR_le l5), s7, ap7, hu, RVs.monoV relR_v r5, by omega, e5⟩
          have fin2 : ∀ {R5 : RC} {S5 : SS} {H5 : Hp} {e : D} {y : V}, RLe (holdR R' L (.lst ws)) R5 → SI R5 S5 σ3 H5 → RVs R5 acc ws → RV R5 .new e y → lcLoop t vs c f (ds.drop (i + 1)) (acc ++ [e]) (S5.wipe vs) = .ok accF SF →
              ∃ acc', H5 L = some (.lst acc') ∧ acc'.length < sizeLine ∧ (i + 1 + m = ds.length ∧ ∃ R' S' acc ws, RLe R R' ∧ SI R' S' (L2.wipe σ vs) (upd H5 L (.lst (acc' ++ [y]))) ∧ Apart R' S' (L2.wipe σ vs) L ∧ (upd H5 L (.lst (acc' ++ [y]))) L = some (.lst ws) ∧ RVs R' acc ws ∧ acc.length ≤ i + 1 ∧ lcLoop t vs c f (ds.drop (i + 1)) acc S' = .ok accF SF) := by
            intro R5 S5 H5 e y l5 si5 r5 re e5
            have s6 := si5.wipe vs
            rw [ws3] at s6
            obtain ⟨s7, hu, ap7⟩ := si'.release ap' nt l5 s6
            refine ⟨ws, hu, by rw [ra.length]; omega, by omega, _, _, acc ++ [e], ws ++ [y], l'.trans (relR_le l5), s7.retell ap7 hu nt, ap7, upd_same, RVs.monoV relR_v (r5.append (by rw [RVs]; exact ⟨y, [], rfl, re, by rw [RVs]⟩)), by rw [List.length_append]; show acc.length + 1 ≤ i + 1; omega, e5⟩
          have l03 : RLe (holdR R' L (.lst ws)) R3 := l2.trans l3
          cases e2 : c St with
          | no => rw [e2] at eq; cases eq
          | exc c' fs S5 => rw [e2] at eq; cases eq
          | ok k S4 =>
            rw [e2] at eq
            refine ⟨R3, St, b2.le l3, si3, ?_⟩
            rw [e2]
            intro R4 H4 k' l4 si4 ek
            have ek : k = k' := ek
            subst ek
            cases k with
            | false =>
              rw [if_neg Bool.false_ne_true]
              exact fin (l03.trans l4) si4 (RVs.mono (l4) (RVs.mono l03 (RVs.monoV holdR_v ra))) eq
            | true =>
              rw [if_pos rfl]
              dsimp only at eq
              cases e3 : f S4 with
              | no => rw [e3] at eq; cases eq
              | exc c' fs S5 => rw [e3] at eq; cases eq
              | ok e S5 =>
                rw [e3] at eq
                refine ⟨R4, S4, (b2.le l3).le l4, si4, ?_⟩
                rw [e3]
                intro R5 H5 y l5 si5 re
                exact fin2 ((l03.trans l4).trans l5) si5 (RVs.mono l5 (RVs.mono l4 (RVs.mono l03 (RVs.monoV holdR_v ra)))) re eq
end
end Ev
namespace Ev
open PySem PySem.Spec PyProof.Rows L2
/-! ## 16. the rules of list comprehensions -/
theorem lcRun_noexc {t : Tg} {vs : List Nat} {c : SS → Out Bool} {f : SS → Out D} {ds : List D} {S1 : SS} {k : Nat} {fs : List D} {S2 : SS} : lcRun t vs c f ds S1 ≠ .exc k fs S2 := by
  unfold lcRun
  split
  · split
    · intro z; cases z
    · intro z; cases z
  · intro z; cases z
def fLcN (i : Nat) (t : Tg) (vs : List Nat) (c : SS → Out Bool) (f : SS → Out D) : SS → Out Res := fun S => (fz (fVar i) S).bind fun d S1 => match itemsOf d with
  | some ds => lcRun t vs c f ds S1
  | none => match itemsK d with
    | some ks => lcRun t vs c f ks S1
    | none => .no
section
variable {X : Cx} {C : EC} {pos spos np py : Pos} {tg iter elt : Expr} {ifs : List Expr} {scope : Scope} {own : List (Str × Nat)} {t : Tg} {fi : SS → Out (List D)} {c : SS → Out Bool} {f : SS → Out D} {i j : Nat} {x y : Str}
theorem pts_fNil : PTs X [] (tT C fYes) := ⟨fun pins s σ H Q I h => pts_nil.run pins s σ H Q I (by
  obtain ⟨R, S, b, si, p⟩ := h
  exact p R H true (RLe.refl R) si rfl)⟩
theorem pts_fOne {e : Expr} (h : PT X e (tT C c)) : PTs X [e] (tT C c) := pts_one h
theorem tLc_of {wi : TI} {vs : List Nat} {σ : L2.St} {H : Hp} {Q : VK} {R : RC} {S1 : SS} {ds : List D} (b : Base C R) (si : SI R S1 σ H) (nd : vs.Nodup) (hin : ∀ i ∈ t.ixs, i ∈ vs) (p : Po C rR R σ (lcRun t vs c f ds S1) Q)
    (h : ∀ (R0 : It → Hp → Prop), (∀ J, Serves R ds J → R0 J H) → wi σ H R0) : tLc wi (tG C.dry t) (tT C.dry c) (tD C.dry f) vs σ H Q := h _ fun J sv => lc_core' b si sv nd hin p
theorem pe_fLc (hc : X.calm = true) (hN : X.N.Nodup) (hi : PI X tg iter (tI C fi)) (ok : BlkOk X.N X.env.scope scope own) (nd : (own.map (·.2)).Nodup) (hin : ∀ i ∈ t.ixs, i ∈ own.map (·.2))
    (hg : ∀ (s : Shared) (H : Hp) (A : Addr) (cl : List (Str × Addr)) (fp : List Addr), L2.PG (X.blk s H scope (compEnvC scope cl A X.env) fp) tg (tG C.dry t)) (ht : ∀ (s : Shared) (H : Hp) (A : Addr) (cl : List (Str × Addr)) (fp : List Addr), PTs (X.blk s H scope (compEnvC scope cl A X.env) fp) ifs (tT C.dry c))
    (he : ∀ (s : Shared) (H : Hp) (A : Addr) (cl : List (Str × Addr)) (fp : List Addr), PE (X.blk s H scope (compEnvC scope cl A X.env) fp) elt (tD C.dry f)) (hs : ∀ x, foldedSetIterable iter X.env x = pure x) :
    PE X (.ListComp elt [⟨tg, iter, ifs, 0⟩] scope pos) (tE C (fLc t (own.map (·.2)) fi c f)) := by
  refine pe_mono (pe_lc hc hN hi ok hg ht he hs) fun σ H Q h => ?_
  refine (seqT' (rel := rIt) h).mono fun J H1 ⟨R, S, ds, b, si, sv, p⟩ => ?_
  exact lc_core' b si sv nd hin p
theorem ps_fSetLc (hc : X.calm = true) (hN : X.N.Nodup) (hy : X.N[j]? = some y) (hyl : X.env.scope.names.lookup y = some .local) (hsw : swapsWith (.ListComp elt [⟨tg, iter, ifs, 0⟩] scope pos) (some (.Name y py)) spos.line X.env = pure true)
    (hi : PI X tg iter (tI C fi)) (ok : BlkOk X.N X.env.scope scope own) (nd : (own.map (·.2)).Nodup) (hin : ∀ i ∈ t.ixs, i ∈ own.map (·.2))
    (hg : ∀ (s : Shared) (H : Hp) (A : Addr) (cl : List (Str × Addr)) (fp : List Addr), L2.PG (X.blk s H scope (compEnvC scope cl A X.env) fp) tg (tG C.dry t)) (ht : ∀ (s : Shared) (H : Hp) (A : Addr) (cl : List (Str × Addr)) (fp : List Addr), PTs (X.blk s H scope (compEnvC scope cl A X.env) fp) ifs (tT C.dry c))
    (he : ∀ (s : Shared) (H : Hp) (A : Addr) (cl : List (Str × Addr)) (fp : List Addr), PE (X.blk s H scope (compEnvC scope cl A X.env) fp) elt (tD C.dry f)) (hs : ∀ x, foldedSetIterable iter X.env x = pure x) :
    PS X (.Assign [.Name y py] (.ListComp elt [⟨tg, iter, ifs, 0⟩] scope pos) spos) (tS C (fSet j (fLc t (own.map (·.2)) fi c f))) := by
  refine ps_mono (ps_setLc hc hN hy hyl hsw hi ok hg ht he hs) fun D σ H h => ?_
  obtain ⟨R, S, b, si, p⟩ := h
  have p : PoS C D R ((fi S).bind fun ds S1 => (lcRun t (own.map (·.2)) c f ds S1).bind fun r S1 => .ok .nx (S1.put j r)) := by
    have e : (fSet j (fLc t (own.map (·.2)) fi c f)) S = ((fi S).bind fun ds S1 => (lcRun t (own.map (·.2)) c f ds S1).bind fun r S1 => .ok .nx (S1.put j r)) := by
      unfold fSet fLc
      cases fi S <;> rfl
    rw [← e]; exact p
  refine (seqTS (rel := rIt) b si p).mono fun J H1 ⟨R1, S1, ds, l1, b1, s1, sv, p1⟩ => ?_
  refine lc_core' (Q := fun x H1 => gName j x σ H1 D.nx) b1 s1 sv nd hin ?_
  cases q : lcRun t (own.map (·.2)) c f ds S1 with
  | no => rw [q] at p1; exact p1
  | exc k fs S2 => exact (lcRun_noexc q).elim
  | ok r S2 =>
    rw [q] at p1
    intro R2 H2 x l2 s2 rr
    exact p1 R2 _ H2 l2 (s2.put rr)
/-- the reading of a comprehension over a name's value -/
def tLcN (K : PySem.W.Frag) (i : Nat) (C : EC) (t : Tg) (c : SS → Out Bool) (f : SS → Out D) (vs : List Nat) : TE := fun σ H Q =>
  tLc (tI C (fIter (fz (fVar i)))) (tG C.dry t) (tT C.dry c) (tD C.dry f) vs σ H Q ∨ tLc (iKeys (tVar i)) (tG C.dry t) (tT C.dry c) (tD C.dry f) vs σ H Q ∨ tLockE (tLc (iKeys (tVar i)) (tG C.dry t) (tT C.dry c) (tD C.dry f) vs) σ H Q
theorem tLcN_of {vs : List Nat} (hK : X.K = C.G.K) {pins : List (Addr × Obj)} {s : Shared} {σ : L2.St} {H : Hp} {Q : VK} (I : Inv X pins σ H s) (nd : vs.Nodup) (hin : ∀ i ∈ t.ixs, i ∈ vs) (h : tE C (fLcN i t vs c f) σ H Q) : tLcN X.K i C t c f vs σ H Q := by
  obtain ⟨R, S, b, si, p⟩ := h
  unfold fLcN at p
  cases q : fz (fVar i) S with
  | no => rw [q] at p; exact p.elim
  | exc c fs S1 => exact (var_no q).elim
  | ok d S1 =>
    rw [q] at p
    have p : Po C rR R σ (match itemsOf d with | some ds => lcRun t vs c f ds S1 | none => match itemsK d with | some ks => lcRun t vs c f ks S1 | none => .no) Q := p
    cases e1 : itemsOf d with
    | some ds =>
      rw [e1] at p
      have p : Po C rR R σ (lcRun t vs c f ds S1) Q := p
      left
      refine (seqT (C := C) (rel := rIt) (K := fun ds S1 => lcRun t vs c f ds S1) b si (F := fIter (fz (fVar i))) ?_).mono fun J H1 ⟨R1, S1, ds, l, b1, s1, sv, p⟩ => lc_core' b1 s1 sv nd hin p
      have e : (fIter (fz (fVar i)) S).bind (fun ds S1 => lcRun t vs c f ds S1) = lcRun t vs c f ds S1 := by
        unfold fIter
        rw [q]
        show Out.bind (match itemsOf d with | some ds => Out.ok ds S1 | none => Out.no) _ = _
        rw [e1]
        rfl
      rw [e]; exact p
    | none =>
      rw [e1] at p
      have p : Po C rR R σ (match itemsK d with | some ks => lcRun t vs c f ks S1 | none => .no) Q := p
      cases e2 : itemsK d with
      | none => rw [e2] at p; exact p.elim
      | some ks =>
        rw [e2] at p
        have p : Po C rR R σ (lcRun t vs c f ks S1) Q := p
        unfold itemsK at e2
        split at e2
        case h_2 => cases e2
        rename_i kvs ed
        obtain ⟨R1, v, le, si1, ev, rd⟩ := var_get si q
        have b1 := b.le le
        have p := Po.up p le
        obtain ⟨a, ea, hh⟩ := rd.dct_ ed
        subst ea
        -- an empty dict: nothing is asked of the block
        have empty : ∀ {u : HO} {od : Obj}, H a = some u → ks = [] → (u = .dK [] ∨ u = .dT []) → tLc (iKeys (tVar i)) (tG C.dry t) (tT C.dry c) (tD C.dry f) vs σ (upd H a (.frz od u)) fun v H' => H' a = some (.frz od u) ∧ Q v (upd H' a u) := by
          intro u od hu hks hE
          subst hks
          have core : ∀ {J : It}, (∀ H', H' a = some (.frz od u) → J.stop 0 H') → ∀ L, upd H a (.frz od u) L = none → ∃ W : Nat → Nat → Hp → Prop, (∃ m, W 0 m (upd (upd H a (.frz od u)) L (.lst []))) ∧ ∀ i m H, W i m H →
              (J.stop i H ∧ (H a = some (.frz od u) ∧ Q (.ref L) (upd H a u))) ∨ (J.go i H ∧ ∃ Nx : Hp → Prop, (∀ H', Nx H' → ∃ m', m' < m ∧ W (i + 1) m' H') ∧ ∀ x H', J.yld i H x H' → tG C.dry t x (L2.wipe σ vs) H' fun σ2 H2 => L2.wipe σ2 vs = L2.wipe σ vs ∧ tT C.dry c σ2 H2 fun b H3 =>
                if b = true then tD C.dry f σ2 H3 fun y H4 => ∃ acc, H4 L = some (.lst acc) ∧ acc.length < sizeLine ∧ Nx (upd H4 L (.lst (acc ++ [y]))) else Nx H3) := by
            intro J hst L hL
            have hLa : L ≠ a := fun z => by rw [z, upd_same] at hL; cases hL
            have hL' : H L = none := by rw [upd_ne hLa] at hL; exact hL
            refine ⟨fun i m H' => i = 0 ∧ H' = upd (upd H a (.frz od u)) L (.lst []), ⟨0, rfl, rfl⟩, fun i m H' hw => ?_⟩
            obtain ⟨w1, w2⟩ := hw
            subst w1 w2
            have e1 : upd (upd H a (.frz od u)) L (.lst []) a = some (.frz od u) := by rw [upd_ne (Ne.symm hLa), upd_same]
            refine .inl ⟨hst _ e1, e1, ?_⟩
            have e2 : upd (upd (upd H a (.frz od u)) L (.lst [])) a u = upd H L (.lst []) := by
              funext b
              by_cases hb : b = a
              · subst hb; rw [upd_same, upd_ne (Ne.symm hLa), hu]
              · rw [upd_ne hb]
                by_cases hb2 : b = L
                · subst hb2; rw [upd_same, upd_same]
                · rw [upd_ne hb2, upd_ne hb2, upd_ne hb]
            rw [e2]
            have q2 := lc_core' b1 si1 (serves_range (R := R1) (lo := 0) (n := 0)) nd hin p L hL'
            obtain ⟨W, ⟨m0, w0⟩, hW⟩ := q2
            rcases hW 0 m0 _ w0 with ⟨_, z⟩ | ⟨z, _⟩
            · exact z
            · exact absurd (show 0 < 0 from z) (Nat.lt_irrefl _)
          rcases hE with z | z
          · subst z
            exact ⟨.ref a, ev, a, od, rfl, .inl ⟨[], upd_same, core fun H' h => ⟨h, Nat.zero_le _⟩⟩⟩
          · subst z
            exact ⟨.ref a, ev, a, od, rfl, .inr ⟨[], upd_same, core fun H' h => ⟨h, Nat.zero_le _⟩⟩⟩
        rcases hh with ⟨l, hz, rk⟩ | ⟨l, hz, rt⟩
        · cases hl : R1.lk a with
          | some od =>
            right; left
            have hf : H a = some (.frz od (.dK l)) := by have := si1.sub0 a _ hz; unfold lkd at this; rw [hl] at this; exact this
            exact ⟨.ref a, ev, a, od, rfl, .inl ⟨l, hf, lc_core' b1 si1 (serves_keys hz hl rk e2) nd hin p⟩⟩
          | none =>
            right; right
            have hu : H a = some (.dK l) := by have := si1.sub0 a _ hz; rw [lkd_none hl] at this; exact this
            have l0 : R1.L0 a = none := by
              cases e : R1.L0 a with
              | none => rfl
              | some x => have := si1.l0 a x e; rw [hl] at this; cases this
            refine ⟨a, .dK l, hu, True.intro, fun od => ?_⟩
            cases l with
            | nil => exact empty hu (by have := (rk.keys e2).1; simpa using this) (.inl rfl)
            | cons kv l =>
              have hd : ∃ p l', HO.dK (kv :: l) = .dK (p :: l') := ⟨kv, l, rfl⟩
              have sL := si1.lock (od := od) hz hd hl
              refine ⟨.ref a, ev, a, od, rfl, .inl ⟨kv :: l, upd_same, lc_core' (C := C) (R := lkR R1 a od) (c := c) (f := f) (Q := fun v H' => H' a = some (.frz od (.dK (kv :: l))) ∧ Q v (upd H' a (.dK (kv :: l)))) b1 sL (serves_keys (R := lkR R1 a od) hz (if_pos rfl) (RVk.monoV lkR_v rk) e2) nd hin ?_⟩⟩
              cases q3 : lcRun t vs c f ks S1 with
              | no => rw [q3] at p; exact p
              | exc k fs S2 => exact (lcRun_noexc q3).elim
              | ok r S2 =>
                rw [q3] at p
                intro R' H' x l' s' rr
                obtain ⟨h1, h2⟩ := s'.unlock l' hz hd hl l0
                exact ⟨h1, p _ _ x (unR_le l') h2 (rr.unlock (l'.hz a _ hz))⟩
        · obtain ⟨z1, z2⟩ := keysD_t rt e2
          subst z1
          right; right
          have hu : H a = some (.dT []) := si1.sub.at hz
          exact ⟨a, .dT [], hu, True.intro, fun od => empty hu z2 (.inr rfl)⟩
theorem pe_fLcN (hc : X.calm = true) (hK : X.K = C.G.K) (hN : X.N.Nodup) (hx : X.N[i]? = some x) (hv : Vis X.env.scope x) (hd : (x == ("__debug__" : Str)) = false) (hcd : (x == ("__classdict__" : Str)) = false) (ok : BlkOk X.N X.env.scope scope own) (nd : (own.map (·.2)).Nodup) (hin : ∀ i ∈ t.ixs, i ∈ own.map (·.2))
    (hg : ∀ (s : Shared) (H : Hp) (A : Addr) (cl : List (Str × Addr)) (fp : List Addr), L2.PG (X.blk s H scope (compEnvC scope cl A X.env) fp) tg (tG C.dry t)) (ht : ∀ (s : Shared) (H : Hp) (A : Addr) (cl : List (Str × Addr)) (fp : List Addr), PTs (X.blk s H scope (compEnvC scope cl A X.env) fp) ifs (tT C.dry c))
    (he : ∀ (s : Shared) (H : Hp) (A : Addr) (cl : List (Str × Addr)) (fp : List Addr), PE (X.blk s H scope (compEnvC scope cl A X.env) fp) elt (tD C.dry f)) (hs : ∀ y, foldedSetIterable (.Name x np) X.env y = pure y) :
    PE X (.ListComp elt [⟨tg, .Name x np, ifs, 0⟩] scope pos) (tE C (fLcN i t (own.map (·.2)) c f)) := by
  refine ⟨fun pins s σ H Q I h => ?_⟩
  rcases tLcN_of hK I nd hin h with h | h | h
  · exact (pe_lc hc hN (pi_fIter hK (pe_fz (pe_fVar hx hv hd hcd))) ok hg ht he hs).run pins s σ H Q I h
  · exact (pe_lc hc hN (pi_keys (pe_var hx hv hd hcd)) ok hg ht he hs).run pins s σ H Q I h
  · exact (pe_lock (pe_lc hc hN (pi_keys (pe_var hx hv hd hcd)) ok hg ht he hs)).run pins s σ H Q I h
theorem ps_fSetLcN (hc : X.calm = true) (hK : X.K = C.G.K) (hN : X.N.Nodup) (hy : X.N[j]? = some y) (hyl : X.env.scope.names.lookup y = some .local) (hsw : swapsWith (.ListComp elt [⟨tg, .Name x np, ifs, 0⟩] scope pos) (some (.Name y py)) spos.line X.env = pure true)
    (hx : X.N[i]? = some x) (hv : Vis X.env.scope x) (hd : (x == ("__debug__" : Str)) = false) (hcd : (x == ("__classdict__" : Str)) = false) (ok : BlkOk X.N X.env.scope scope own) (nd : (own.map (·.2)).Nodup) (hin : ∀ i ∈ t.ixs, i ∈ own.map (·.2))
    (hg : ∀ (s : Shared) (H : Hp) (A : Addr) (cl : List (Str × Addr)) (fp : List Addr), L2.PG (X.blk s H scope (compEnvC scope cl A X.env) fp) tg (tG C.dry t)) (ht : ∀ (s : Shared) (H : Hp) (A : Addr) (cl : List (Str × Addr)) (fp : List Addr), PTs (X.blk s H scope (compEnvC scope cl A X.env) fp) ifs (tT C.dry c))
    (he : ∀ (s : Shared) (H : Hp) (A : Addr) (cl : List (Str × Addr)) (fp : List Addr), PE (X.blk s H scope (compEnvC scope cl A X.env) fp) elt (tD C.dry f)) (hs : ∀ z, foldedSetIterable (.Name x np) X.env z = pure z) :
    PS X (.Assign [.Name y py] (.ListComp elt [⟨tg, .Name x np, ifs, 0⟩] scope pos) spos) (tS C (fSet j (fLcN i t (own.map (·.2)) c f))) := by
  refine ⟨fun pins s σ H D I h => ?_⟩
  obtain ⟨R, S, b, si, p⟩ := h
  -- the statement's reading is the comprehension's, then the store
  have h : tE C (fLcN i t (own.map (·.2)) c f) σ H fun x H1 => gName j x σ H1 D.nx := by
    refine ⟨R, S, b, si, ?_⟩
    have p : PoS C D R ((fLcN i t (own.map (·.2)) c f S).bind fun r S1 => .ok .nx (S1.put j r)) := p
    cases q : fLcN i t (own.map (·.2)) c f S with
    | no => rw [q] at p; exact p
    | exc k fs S2 =>
      rw [q] at p
      exact fun R' H' d l si x => p R' σ H' d l si x
    | ok r S2 =>
      rw [q] at p
      intro R2 H2 x l2 s2 rr
      exact p R2 _ H2 l2 (s2.put rr)
  rcases tLcN_of hK I nd hin h with h | h | h
  · exact (ps_setLc hc hN hy hyl hsw (pi_fIter hK (pe_fz (pe_fVar hx hv hd hcd))) ok hg ht he hs).run pins s σ H D I h
  · exact (ps_setLc hc hN hy hyl hsw (pi_keys (pe_var hx hv hd hcd)) ok hg ht he hs).run pins s σ H D I h
  · obtain ⟨d, u, hd', mu, h⟩ := h
    refine (ps_lock (ps_setLc hc hN hy hyl hsw (pi_keys (pe_var hx hv hd hcd)) ok hg ht he hs)).run pins s σ H D I ⟨d, u, hd', mu, fun od => ?_⟩
    exact h od
end
end Ev
namespace Ev
open PySem PySem.Spec PyProof.Rows L2
/-! ## 17. own defs: what one promises, its body, its call -/
abbrev Rm (k : Nat) (A : Around) : Prop := Room k A
theorem _root_.L2.Room.toRoom {k : Nat} {A : Around} (r : Room k A) : Room k A := r
/-- what is known of cells: they are so, and not tracked; none is a frame -/
def CeOk (ce : Addr → Option Obj) (outer : List Env) (h : Heap) (H : Hp) : Prop := ∀ c o, ce c = some o → h.get? c = some o ∧ H c = none ∧ c ∉ frs outer ∧ ∃ v, o.data = .cell v
theorem ceOk0 {outer : List Env} {h : Heap} {H : Hp} : CeOk (fun _ => none) outer h H := fun c o e => by cases e
/-- a def's promise (HandS's FnOk, under Rm) -/
structure FnG (P : Program) (w : World) (K : PySem.W.Frag) (mg : Str → Option Value) (base : Heap) (k : Nat) (f : Addr) (fd : FuncData) (ps : List Str) (sp : Sp) : Prop where
  len : ∀ vs H Q E, sp vs H Q E → vs.length = ps.length
  run : ∀ (A : Around) (outer : List Env) (s : Shared) (H : Hp) (args : Args) (us : List Value) (vs : List V) (Q : VK) (E : XK), Rm k A → Env0 P w K mg base A outer s H → BindsTo s fd args (ps.zip us) → Vals vs us → sp vs H Q E →
    codeAny (model P w) A (.call (.ref f) args) (CR (L2.CX P w) outer P w H s Q E) s
theorem fng_of {P : Program} {w : World} {K : PySem.W.Frag} {mg : Str → Option Value} {base : Heap} {k : Nat} {f : Addr} {name qual : Str} {params : Arguments} {body : List Stmt} {scope : Scope} {dV kV doc pm cdv ct oc : Value} {an od : Option Addr}
    {osl : Array (Option Value)} {N ps : List Str} {sp : Sp} (lk : K.lookup f = some ⟨oc, od, .func (PySem.W.fnOf name qual params body scope dV kV doc pm an cdv ct), osl⟩) (hcd : PySem.W.codeIn K cdv qual = true) (S : FnScope N ps scope)
    (len : ∀ vs H Q E, sp vs H Q E → vs.length = ps.length)
    (hbody : ∀ (A : Around) (outer : List Env) (s : Shared) (H : Hp) (vs : List V) (Q : VK) (E : XK), Rm k (A.deeper (envOfC qual scope s.heap.objs.size f cdv)) → sp vs H Q E →
      ∃ t, PSs (cxOf (L2.CX P w) P w K mg base N qual scope f cdv A outer s H E) body t ∧ t { nx := fun _ H' => Q .non H', rt := Q } (L2.start N vs) H) :
    FnG P w K mg base (k + 1) f (PySem.W.fnOf name qual params body scope dV kV doc pm an cdv ct) ps sp := by
  refine ⟨len, fun A outer s H args us vs Q E hr e0 hb r hsp => ?_⟩
  have hl := len _ _ _ _ hsp
  have kin : K.In s.heap := e0.mod.kin.keeps fun b o e => (e0.bs b o e).1
  have nl : s.heap.NoLimit := e0.mod.nolimit.keeps fun b o e => (e0.bs b o e).1
  have kinds : ∀ y ∈ ps.zip us, scope.names.lookup y.1 = some .local ∨ (scope.names.lookup y.1 = some .cell ∧ ((cellsFrom (s.heap.objs.size + 1) scope.names []).lookup y.1).isSome = true) := fun y hy => by
    obtain ⟨n, v⟩ := y
    rcases S.par n (List.of_mem_zip hy).1 with q | q
    · exact .inl q
    · exact .inr ⟨q, PySem.W.cellsFrom_some _ _ _ (.inl q)⟩
  refine codeAny_call_function hr.depth (kin _ _ lk) rfl S.co S.gen rfl (PySem.W.codeRec_of kin hcd) (hb _ _ _ _ ?_)
  refine wpAny_newFunctionEnv_cells S.kind kinds fun env he s1 x => ?_
  subst he
  refine ⟨nl.keeps x.toInCall.keep, codeAny_func ?_⟩
  obtain ⟨t, ht, hq⟩ := hbody A outer s H vs Q E (hr.deeper _) hsp
  refine wpAny_mono (ht.run [] s1 (L2.start N vs) H _ (inv_start S hr.hd e0 hl r x) hq) (fun fl s' hs => ?_) fun e s' hs => hs
  cases fl with
  | ret u =>
    obtain ⟨v, σ', H', J, rv, q⟩ := hs
    exact ⟨v, H', J.os, J.bare, J.base, J.hok, rv, q⟩
  | next =>
    obtain ⟨σ', H', J, q⟩ := hs
    exact ⟨V.non, H', J.os, J.bare, J.base, J.hok, rfl, q⟩
  | brk => obtain ⟨_, _, _, q⟩ := hs; exact q.elim
  | cont => obtain ⟨_, _, _, q⟩ := hs; exact q.elim
/-! ### the state across a call -/
def SS.out (S : SS) : SS := { dl := [], om := S.om, lc := S.lc }
def SS.back (S S' : SS) : SS := { dl := S.dl, om := S'.om, lc := S'.lc }
def enterR (R : RC) (H : Hp) (ce : Addr → Option Obj) : RC := { R with H0 := H, Z0 := R.Hz, L0 := R.lk, sp0 := R.sp, cl := [], ce := ce }
abbrev ce0 : Addr → Option Obj := fun _ => none
def leaveR (R' R : RC) : RC := { R with sp := R'.sp, lb := R'.lb, Hz := R'.Hz }
/-- nothing new is known of what is frozen -/
def extH (Z' Z : Hp) : Hp := fun a => match Z' a with
  | some (.ext φ) => some (.ext φ)
  | _ => Z a
def dropR (R' R : RC) : RC := { R with sp := R'.sp, lb := R'.lb, Hz := extH R'.Hz R.Hz }
theorem extH_of {Z' Z : Hp} {a : Addr} {o : HO} (h : Z a = some o → Z' a = some o) (e : Z a = some o) : extH Z' Z a = some o := by
  have q := h e
  unfold extH
  rw [q]
  cases o with
  | ext φ => rfl
  | _ => exact e
theorem extH_cases {Z' Z : Hp} {a : Addr} {o : HO} (e : extH Z' Z a = some o) : Z a = some o ∨ (Z' a = some o ∧ ∃ φ, o = .ext φ) := by
  unfold extH at e
  split at e
  · rename_i φ q; cases e; exact .inr ⟨q, φ, rfl⟩
  · exact .inl e
theorem extH_none {Z' Z : Hp} {a : Addr} (e : Z a = none) (h : ∀ φ, Z' a ≠ some (.ext φ)) : extH Z' Z a = none := by
  unfold extH
  split
  · rename_i φ q; exact (h φ q).elim
  · exact e
section
variable {R R' : RC} {S S' : SS} {σ : L2.St} {H H' : Hp}
theorem enterR_v (hc : R.cl = []) {ce : Addr → Option Obj} (he : ∀ a o, R.ce a = some o → ce a = some o) : RLv R (enterR R H ce) := ⟨rfl, rfl, rfl, rfl, .inl hc, he, fun _ _ h => h, fun _ _ h => h, fun _ _ h => h⟩
theorem enterR_x {ce : Addr → Option Obj} : RLx R (enterR R H ce) := ⟨rfl, rfl, rfl, rfl, fun _ _ h => h, fun _ _ h => h, fun _ _ h => h⟩
theorem SI.enter {x : Bool} {ce : Addr → Option Obj} (si : SI R S σ H) (mn : Mn x R (enterR R H ce)) (hx : x = true → S.om.all Ob.noFn = true) : SI (enterR R H ce) S.out [] H := by
  refine { len := rfl, sub0 := si.sub0, lkz := si.lkz, l0 := fun a od e => e, nfz := si.nfz, z0 := fun a o e => e, new := fun a o e => .inl e, ntb := si.ntb, tb := ⟨fun a ps e => ⟨#[], by have e : H a = some (.tbl ps) := e; simpa using e⟩, si.tb.2⟩, keep := fun a o e n t => ?_, dom := fun a e => e, oldd := fun a e => si.oldd a (si.dom a e), val := fun i d e => ?_, own := fun i o e => ?_, disj := fun i j a h1 h2 => ?_, ref := fun k o e => ?_, rlt := si.rlt, rfr := fun k a e => .inl e, rs0 := fun k a e => e, rno := fun k a e j h => ?_, rinj := si.rinj, lbl := si.lbl }
  · have e : H a = some o := e
    show H a = some (match R.lk a with | some _ => o | none => lkd R a o)
    cases q : R.lk a with
    | some od => exact e
    | none => dsimp only; rw [lkd_none q]; exact e
  · have e : ([] : List Slot)[i]? = _ := e
    cases e
  · have e : ([] : List Slot)[i]? = _ := e
    cases e
  · obtain ⟨⟨o, e⟩, _⟩ := h1
    have e : ([] : List Slot)[i]? = _ := e
    cases e
  · obtain ⟨a, e1, w⟩ := si.ref k o e
    exact ⟨a, e1, w.mn mn (fun z => List.all_eq_true.mp (hx z) o (List.mem_of_getElem? e)) w.1 rfl⟩
  · obtain ⟨⟨o, e⟩, _⟩ := h
    have e : ([] : List Slot)[j]? = _ := e
    cases e
theorem leaveR_le {ce : Addr → Option Obj} (l : RLe (enterR R H ce) R') : RLe R (leaveR R' R) := ⟨rfl, rfl, l.sp, l.lb, l.hz⟩
theorem leaveR_v {ce : Addr → Option Obj} (hl : ∀ a o, ce a = some o → R.ce a = some o) (l : RLe (enterR R H ce) R') : RLv R' (leaveR R' R) := ⟨by rw [l.rs]; rfl, by rw [l.rs]; rfl, by rw [l.rs]; rfl, by rw [l.rs]; rfl, .inl (by rw [l.rs]; rfl), (fun a o e => by rw [show R'.ce = ce by rw [l.rs]; rfl] at e; exact hl a o e), fun _ _ h => h, fun _ _ h => h, fun _ _ h => h⟩
theorem leaveR_x {ce : Addr → Option Obj} (l : RLe (enterR R H ce) R') : RLx R' (leaveR R' R) := ⟨by rw [l.rs]; rfl, by rw [l.rs]; rfl, by rw [l.rs]; rfl, by rw [l.rs]; rfl, fun _ _ h => h, fun _ _ h => h, fun _ _ h => h⟩
/-- what the callee leaves as it is -/
theorem SI.stays {ce : Addr → Option Obj} (l : RLe (enterR R H ce) R') (si : SI R' S' [] H') {a : Addr} {u : HO} (hu : H a = some u) (hr : NoRef R a) (nt : ∀ ps, u ≠ .tbl ps) : H' a = some (match R.lk a with | some _ => u | none => u) := by
  have q := si.keep a u (by rw [l.rs]; exact hu) (fun k e => hr k (by rw [show R'.sp0 = R.sp by rw [l.rs]; rfl] at e; exact e)) nt
  rw [show R'.L0 = R.lk by rw [l.rs]; rfl] at q
  rw [q]
  cases e : R.lk a with
  | some od => rfl
  | none => dsimp only; rw [lkd_none (by rw [l.lk]; exact e)]
theorem SI.stays' {ce : Addr → Option Obj} (l : RLe (enterR R H ce) R') (si : SI R' S' [] H') {a : Addr} {u : HO} (hu : H a = some u) (hr : NoRef R a) (nt : ∀ ps, u ≠ .tbl ps) : H' a = some u := by
  have := SI.stays l si hu hr nt
  rw [this]
  cases R.lk a <;> rfl
theorem SI.leave {x : Bool} {ce : Addr → Option Obj} (si : SI R S σ H) (l : RLe (enterR R H ce) R') (si' : SI R' S' [] H') (mn : Mn x R' (leaveR R' R)) (hx : x = true → S'.om.all Ob.noFn = true) : SI (leaveR R' R) (S.back S') σ H' := by
  have eH0 : R'.H0 = H := by rw [l.rs]; rfl
  have eZ0 : R'.Z0 = R.Hz := by rw [l.rs]; rfl
  have esp : R'.sp0 = R.sp := by rw [l.rs]; rfl
  have elk : R'.lk = R.lk := l.lk
  have nz : ∀ {a u}, H a = some u → R.Hz a = none → R'.Hz a = none := fun {a u} hu hz => by
    cases q : R'.Hz a with
    | none => rfl
    | some o =>
      rcases si'.new a o q with z | z
      · rw [eZ0, hz] at z; cases z
      · rw [eH0, hu] at z; cases z
  have le := leaveR_le l
  refine { len := si.len, sub0 := fun a o e => ?_, lkz := fun a od e => ?_, l0 := si.l0, nfz := si'.nfz, z0 := fun a o e => l.hz a o (si.z0 a o e), new := fun a o e => ?_, ntb := si'.ntb, tb := ⟨fun a ps e => ?_, fun p hp => (si'.tb.2 p (by rw [show R'.tabs = R.tabs by rw [l.rs]; rfl]; exact hp)).mono (fun _ e => e) fun _ _ e => e⟩, keep := fun a o e n t => ?_, dom := fun a e => ?_, oldd := si.oldd, val := fun i d e => ?_, own := fun i o e => ?_, disj := si.disj, ref := fun k o e => ?_, rlt := si'.rlt, rfr := fun k a e => ?_, rs0 := fun k a e => l.sp k a (si.rs0 k a e), rno := fun k a e j h => ?_, rinj := si'.rinj, lbl := si'.lbl }
  · have q := si'.sub0 a o e
    unfold lkd at q ⊢
    rw [elk] at q
    exact q
  · have e : R.lk a = some od := e
    obtain ⟨p, l', q⟩ := si.lkz a od e
    exact ⟨p, l', l.hz a _ q⟩
  · rcases si'.new a o e with z | z
    · rw [eZ0] at z; exact si.new a o z
    · rw [eH0] at z; exact .inr (si.dom a z)
  · obtain ⟨m, q⟩ := si.tb.1 a ps e
    obtain ⟨m2, q2⟩ := si'.tb.1 a _ (by rw [eH0]; exact q)
    exact ⟨m ++ m2, by rw [q2]; simp [Array.append_assoc]⟩
  · have q := si.keep a o e n t
    have hr : NoRef R a := fun k e2 => by
      rcases si.rfr k a e2 with z | z
      · exact n k z
      · have e : R.H0 a = some o := e
        rw [e] at z; cases z
    have q2 := SI.stays' l si' q hr (fun ps z => by
      cases h : R.L0 a with
      | some x => rw [h] at z; exact t ps z
      | none =>
        rw [h] at z
        have z : lkd R a o = .tbl ps := z
        unfold lkd at z
        cases h2 : R.lk a with
        | some x => rw [h2] at z; cases z
        | none => rw [h2] at z; exact t ps z)
    exact q2
  · have := si'.dom a e
    rw [eH0] at this
    exact si.dom a this
  · obtain ⟨v, e1, r⟩ := si.val i d e
    exact ⟨v, e1, r.mono le⟩
  · obtain ⟨a, e1, w⟩ := si.own i o e
    obtain ⟨u, hu⟩ := w.there
    have nt : ∀ ps, u ≠ .tbl ps := fun ps z => by
      obtain ⟨_, _, _, w4⟩ := w
      cases o with
      | lst ds => obtain ⟨vs, q, _⟩ := w4; rw [hu, z] at q; cases q
      | dct kvs => rcases w4 with ⟨ll, q, _⟩ | ⟨ll, q, _⟩ <;> (rw [hu, z] at q; cases q)
    have q := SI.stays' l si' hu (fun k e2 => si.rno k a e2 i ⟨⟨o, e⟩, e1⟩) nt
    exact ⟨a, e1, w.mono le (nz hu w.2.2.1) (q.trans hu.symm)⟩
  · obtain ⟨a, e1, w⟩ := si'.ref k o e
    exact ⟨a, e1, w.mn mn (fun z => List.all_eq_true.mp (hx z) o (List.mem_of_getElem? e)) w.1 rfl⟩
  · rcases si'.rfr k a e with z | z
    · rw [esp] at z; exact si.rfr k a z
    · rw [eH0] at z; exact .inr (si.dom a z)
  · obtain ⟨⟨o, e1⟩, e2⟩ := h
    rcases si'.rfr k a e with z | z
    · rw [esp] at z; exact si.rno k a z j ⟨⟨o, e1⟩, e2⟩
    · obtain ⟨b, e3, w⟩ := si.own j o e1
      rw [e2] at e3; cases e3
      obtain ⟨u, hu⟩ := w.there
      rw [eH0, hu] at z; cases z
def Res.noFn : Res → Bool
  | .val d => Ev.noFn d
  | .own o => o.noFn
theorem RR.leave {b : Bool} {ce : Addr → Option Obj} {r : Res} {x : V} (si : SI R S σ H) (l : RLe (enterR R H ce) R') (mn : Mn b R' (leaveR R' R)) (hx : b = true → r.noFn = true) (rr : RR R' S' [] H' r x) : RR (leaveR R' R) (S.back S') σ H' r x := by
  cases r with
  | val d => exact mn.v hx rr
  | own o =>
    obtain ⟨a, e, w, n, ns⟩ := rr
    have eH0 : R'.H0 = H := by rw [l.rs]; rfl
    have hn : H a = none := by rw [← eH0]; exact w.2.1
    refine ⟨a, e, ?_, fun i ow => si.notOwned hn i ow, ns⟩
    obtain ⟨w1, w2, w3, w4⟩ := w
    refine ⟨by rw [show R'.old = R.old by rw [l.rs]; rfl] at w1; exact w1, si.dom a hn, w3, ?_⟩
    cases o with
    | lst ds => obtain ⟨vs, q, r⟩ := w4; exact ⟨vs, q, mn.s hx r⟩
    | dct kvs =>
      rcases w4 with ⟨ll, q, r⟩ | ⟨ll, q, r⟩
      · exact .inl ⟨ll, q, mn.k hx r⟩
      · exact .inr ⟨ll, q, mn.t hx r⟩
end
end Ev
namespace Ev
open PySem PySem.Spec PyProof.Rows L2
/-! ## 18. the call of an own def -/
def intOb : Ob → Bool
  | .lst xs => xs.all fun d => match d with
    | .int _ => true
    | _ => false
  | _ => false
def flatRes : Res → Bool
  | .val .non => true
  | .val (.bl _) => true
  | .val (.int _) => true
  | .val (.str _) => true
  | _ => false
section
variable {R R' : RC} {S S' : SS} {σ : L2.St} {H H' : Hp}
theorem ints_rv : ∀ {xs : List D} {vs : List V}, (xs.all fun d => match d with | .int _ => true | _ => false) = true → RVs R xs vs → RVs R' xs vs
  | [], vs, _, h => by rw [RVs] at h ⊢; exact h
  | d :: xs, vs, a, h => by
    rw [List.all_cons, Bool.and_eq_true] at a
    rw [RVs] at h ⊢
    obtain ⟨v, r, e, p, q⟩ := h
    refine ⟨v, r, e, ?_, ints_rv a.2 q⟩
    have a1 := a.1
    split at a1
    · rw [RV] at p ⊢; exact p
    · cases a1
end
/-! ### arguments: names are read without being frozen -/
inductive AV where
  | sl (i : Nat) | dv (d : D)
def RAV (R : RC) (σ : L2.St) : List AV → List V → Prop
  | [], vs => vs = []
  | .sl i :: as, vs => ∃ v r, vs = v :: r ∧ σ[i]? = some (some v) ∧ RAV R σ as r
  | .dv d :: as, vs => ∃ v r, vs = v :: r ∧ RV R .new d v ∧ RAV R σ as r
theorem RAV.mono {R R' : RC} {σ : L2.St} (l : RLe R R') : ∀ {as : List AV} {vs : List V}, RAV R σ as vs → RAV R' σ as vs
  | [], _, h => h
  | .sl i :: as, _, ⟨v, r, e, h1, h2⟩ => ⟨v, r, e, h1, RAV.mono l h2⟩
  | .dv d :: as, _, ⟨v, r, e, h1, h2⟩ => ⟨v, r, e, h1.mono l, RAV.mono l h2⟩
def rAV : Rel (List AV) (List V) := fun R _ σ _ as vs => RAV R σ as vs
def tAV (C : EC) (g : SS → Out (List AV)) : TA := fun σ H Q => T C rAV g σ H Q
def gNil : SS → Out (List AV) := fun S => .ok [] S
def gEx (f : SS → Out D) (g : SS → Out (List AV)) : SS → Out (List AV) := fun S => (f S).bind fun d S1 => (g S1).bind fun as S2 => .ok (.dv d :: as) S2
def gNm (i : Nat) (g : SS → Out (List AV)) : SS → Out (List AV) := fHas i fun S => (g S).bind fun as S1 => .ok (.sl i :: as) S1
def dval (S : SS) (i : Nat) : Option D :=
  match S.dl[i]? with
  | some (.val d) => some d
  | some (.own o) => some o.toD
  | _ => none
def resolve (S : SS) : List AV → Option (List D)
  | [] => some []
  | .sl i :: as => match dval S i, resolve S as with
    | some d, some ds => some (d :: ds)
    | _, _ => none
  | .dv d :: as => match resolve S as with
    | some ds => some (d :: ds)
    | none => none
def SS.frz1 (S : SS) (i : Nat) : SS :=
  match S.dl[i]? with
  | some (.own o) => { S with dl := S.dl.set i (.val o.toD) }
  | _ => S
def frzArgs : List AV → SS → SS
  | [], S => S
  | .sl i :: as, S => frzArgs as (S.frz1 i)
  | .dv _ :: as, S => frzArgs as S
theorem dval_frz1 (S : SS) (i j : Nat) : dval (S.frz1 i) j = dval S j := by
  unfold SS.frz1
  split
  · rename_i o e
    unfold dval
    by_cases h : j = i
    · subst h
      have hl : j < S.dl.length := by
        by_cases q : j < S.dl.length
        · exact q
        · rw [List.getElem?_eq_none (by simpa using q)] at e; cases e
      dsimp only
      rw [List.getElem?_set_self hl, e]
    · dsimp only
      rw [List.getElem?_set_ne (Ne.symm h)]
  · rfl
theorem resolve_frz1 (S : SS) (i : Nat) : ∀ as : List AV, resolve (S.frz1 i) as = resolve S as
  | [] => rfl
  | .sl j :: as => by rw [resolve, resolve, dval_frz1, resolve_frz1 S i as]
  | .dv d :: as => by rw [resolve, resolve, resolve_frz1 S i as]
theorem SI.frzArgs {σ : L2.St} {H : Hp} : ∀ {as : List AV} {S : SS} {R : RC} {vs : List V} {ds : List D}, SI R S σ H → RAV R σ as vs → resolve S as = some ds → ∃ R', RLe R R' ∧ SI R' (frzArgs as S) σ H ∧ RVs R' ds vs
  | [], S, R, vs, ds, si, h, e => by
    rw [resolve] at e; cases e
    exact ⟨R, RLe.refl R, si, by rw [RVs]; exact h⟩
  | .dv d :: as, S, R, vs, ds, si, ⟨v, r, ev, h1, h2⟩, e => by
    rw [resolve] at e
    cases q : resolve S as with
    | none => rw [q] at e; cases e
    | some ds' =>
      rw [q] at e; cases e
      obtain ⟨R', l, s2, rr⟩ := SI.frzArgs si h2 q
      exact ⟨R', l, s2, by rw [RVs]; exact ⟨v, r, ev, h1.mono l, rr⟩⟩
  | .sl i :: as, S, R, vs, ds, si, ⟨v, r, ev, h1, h2⟩, e => by
    rw [resolve] at e
    cases q0 : dval S i with
    | none => rw [q0] at e; cases e
    | some d =>
      cases q : resolve S as with
      | none => rw [q0, q] at e; cases e
      | some ds' =>
        rw [q0, q] at e; cases e
        have step : ∃ R1, RLe R R1 ∧ SI R1 (S.frz1 i) σ H ∧ RV R1 .new d v := by
          unfold dval at q0
          cases es : S.dl[i]? with
          | none => rw [es] at q0; cases q0
          | some sl =>
            rw [es] at q0
            cases sl with
            | none => cases q0
            | val d' =>
              cases q0
              obtain ⟨w, ew, rw'⟩ := si.val i _ es
              rw [h1] at ew; cases ew
              exact ⟨R, RLe.refl R, by unfold SS.frz1; rw [es]; exact si, rw'⟩
            | own o =>
              cases q0
              obtain ⟨R1, w, l, ew, s1, rw'⟩ := si.freezeSlot es
              rw [h1] at ew; cases ew
              exact ⟨R1, l, by unfold SS.frz1; rw [es]; exact s1, rw'⟩
        obtain ⟨R1, l1, s1, r1⟩ := step
        obtain ⟨R2, l2, s2, rr⟩ := SI.frzArgs s1 (RAV.mono l1 h2) (by rw [resolve_frz1]; exact q)
        exact ⟨R2, l1.trans l2, s2, by rw [RVs]; exact ⟨v, r, ev, r1.mono l2, rr⟩⟩
/-- a call: f what the def makes of its arguments -/
abbrev Fun := List D → SS → Out Res
def callWith (f : Fun) (as : List AV) (ds : List D) (S1 : SS) : Out Res := match f ds S1.out with
  | .ok r S' => if flatRes r && S'.om.all intOb then .ok r (S1.back S') else .ok r ((frzArgs as S1).back S')
  | .exc c fs S' => .exc c fs ((frzArgs as S1).back S')
  | .no => .no
/-- with the look: nothing of a frame's own functions goes out -/
def chk (x : Bool) (o : Out Res) : Out Res := match x with
  | false => o
  | true => match o with
    | .ok r S' => if r.noFn && S'.om.all Ob.noFn then .ok r S' else .no
    | .exc c fs S' => if noFns fs && S'.om.all Ob.noFn then .exc c fs S' else .no
    | .no => .no
/-- x: of a frame that has cells, knows cells: nothing of them goes over -/
def callX (x : Bool) (f : Fun) (as : List AV) (ds : List D) (S1 : SS) : Out Res := match x with
  | false => callWith f as ds S1
  | true => if noFns ds && S1.om.all Ob.noFn then callWith f as ds S1 else .no
def fCallX (x : Bool) (f : Fun) (g : SS → Out (List AV)) : SS → Out Res := fun S => (g S).bind fun as S1 => match resolve S1 as with
  | none => .no
  | some ds => callX x f as ds S1
abbrev fCall := fCallX false
abbrev fCallD := fCallX true
def permL {α : Type} (p : List Nat) (l : List α) : List α := p.filterMap fun i => l[i]?
def fCallKX (x : Bool) (f : Fun) (p : List Nat) (g : SS → Out (List AV)) : SS → Out Res := fun S => (g S).bind fun as S1 => match resolve S1 as with
  | none => .no
  | some ds => callX x f as (permL p ds) S1
abbrev fCallK := fCallKX false
abbrev fCallKD := fCallKX true
/-- a def's promise, by what it makes of its arguments -/
def spFc (G : PG) (n : Nat) (f : Fun) (ce : Addr → Option Obj) : Sp := fun vs H Q E => vs.length = n ∧ ∃ (R : RC) (S : SS) (ds : List D), R.toPG = G ∧ (R.cl = [] ∧ R.ce = ce) ∧ SI R S [] H ∧ S.dl = [] ∧ R.H0 = H ∧ RVs R ds vs ∧ Po ⟨G, [], ce, fun cls d _ H' => E cls d H'⟩ rR R [] (f ds S) Q
abbrev spF (G : PG) (n : Nat) (f : Fun) : Sp := spFc G n f ce0
section
variable {X : Cx} {C : EC} {f : Fun} {g : SS → Out (List AV)} {σ : L2.St} {H : Hp} {R : RC} {S1 : SS} {as : List AV} {vs : List V} {ds : List D} {Q : VK}
theorem XR.leave {x : Bool} {R' : RC} {H' : Hp} {c : Nat} {fs : List D} {d : Option Addr} {ce : Addr → Option Obj} (l : RLe (enterR R H ce) R') (mn : Mn x R' (leaveR R' R)) (hx : x = true → noFns fs = true) (x : XR R' H' c fs d) : XR (leaveR R' R) H' c fs d := by
  obtain ⟨dx, vs, l', e1, e2, e3, e4⟩ := x
  exact ⟨dx, vs, l', e1, e2, mn.s hx e3, fun i f v h1 h2 => e4 i f v (by rw [show R'.xf = R.xf by rw [l.rs]; rfl]; exact h1) h2⟩
theorem flat_any {R R' : RC} {r : Res} {S S' : SS} {σ σ' : L2.St} {H H' : Hp} {x : V} (e : flatRes r = true) (h : RR R S σ H r x) : RR R' S' σ' H' r x := by
  unfold flatRes at e
  split at e
  · exact (show RV R' .new .non x by have h : RV R .new .non x := h; rw [RV] at h ⊢; exact h)
  · rename_i b; exact (show RV R' .new (.bl b) x by have h : RV R .new (.bl b) x := h; rw [RV] at h ⊢; exact h)
  · rename_i b; exact (show RV R' .new (.int b) x by have h : RV R .new (.int b) x := h; rw [RV] at h ⊢; exact h)
  · rename_i b; exact (show RV R' .new (.str b) x by have h : RV R .new (.str b) x := h; rw [RV] at h ⊢; exact h)
  · cases e
def Ckd : Out Res → Prop
  | .ok r S' => r.noFn = true ∧ S'.om.all Ob.noFn = true
  | .exc _ fs S' => noFns fs = true ∧ S'.om.all Ob.noFn = true
  | .no => True
theorem chk_ok {x : Bool} {C : EC} {R : RC} {σ : L2.St} {Q : VK} {o : Out Res} (p : Po C rR R σ (chk x o) Q) : Po C rR R σ o Q ∧ (x = true → Ckd o) := by
  cases x with
  | false => exact ⟨p, fun h => by cases h⟩
  | true =>
    cases o with
    | no => exact p.elim
    | ok r S' =>
      unfold chk at p
      dsimp only at p
      split at p
      · rename_i z; exact ⟨p, fun _ => by rw [Bool.and_eq_true] at z; exact z⟩
      · exact p.elim
    | exc c fs S' =>
      unfold chk at p
      dsimp only at p
      split at p
      · rename_i z; exact ⟨p, fun _ => by rw [Bool.and_eq_true] at z; exact z⟩
      · exact p.elim
/-- what the caller wants, as the callee's promise -/
theorem sp_callG (b : Base C R) (si : SI R S1 σ H) (ra : RAV R σ as vs) (e : resolve S1 as = some ds) {ds' : List D} {vs' : List V} {n : Nat} {ce : Addr → Option Obj} (hn : vs'.length = n) {xl : Bool}
    (hom : ((C.cl = [] ∧ ∀ a o, C.ce a = some o → ce a = some o) ∨ S1.om.all Ob.noFn = true)) (hlv : xl = false → ∀ a o, ce a = some o → C.ce a = some o)
    (hen : ∀ R1, RLe R R1 → Base C R1 → RVs R1 ds vs → RVs (enterR R1 H ce) ds' vs') (p0 : Po C rR R σ (chk xl (callWith f as ds' S1)) Q) :
    spFc C.G n f ce vs' H Q (WE C.W σ) := by
  obtain ⟨p, hck⟩ := chk_ok p0
  obtain ⟨R1, l1, s1, r1⟩ := SI.frzArgs si ra e
  have b1 := b.le l1
  have hback : (frzArgs as S1).out = S1.out := by
    have : ∀ (as : List AV) (S : SS), (frzArgs as S).om = S.om ∧ (frzArgs as S).lc = S.lc := by
      intro as
      induction as with
      | nil => intro S; exact ⟨rfl, rfl⟩
      | cons a as ih =>
        intro S
        cases a with
        | dv d => exact ih S
        | sl i =>
          obtain ⟨h1, h2⟩ := ih (S.frz1 i)
          have : (S.frz1 i).om = S.om ∧ (S.frz1 i).lc = S.lc := by unfold SS.frz1; split <;> exact ⟨rfl, rfl⟩
          exact ⟨h1.trans this.1, h2.trans this.2⟩
    obtain ⟨h1, h2⟩ := this as S1
    unfold SS.out
    rw [h1, h2]
  have homE : (frzArgs as S1).om = S1.om := by have := congrArg SS.om hback; exact this
  have hmn : ∃ x, Mn x R1 (enterR R1 H ce) ∧ (x = true → (frzArgs as S1).om.all Ob.noFn = true) := by
    rcases hom with ⟨z1, z2⟩ | z
    · exact ⟨false, (enterR_v (b1.2.1.trans z1) (by rw [b1.2.2]; exact z2)).mn, (fun h => by cases h)⟩
    · exact ⟨true, enterR_x.mn, fun _ => by rw [homE]; exact z⟩
  obtain ⟨bx, mn, hx2⟩ := hmn
  have s2 := s1.enter mn hx2
  rw [hback] at s2
  have mnL : ∀ {R' : RC}, RLe (enterR R1 H ce) R' → Mn xl R' (leaveR R' R1) := fun {R'} l => by
    cases xl with
    | true => exact (leaveR_x l).mn
    | false => exact (leaveR_v (by rw [b1.2.2]; exact hlv rfl) l).mn
  refine ⟨hn, enterR R1 H ce, S1.out, ds', b1.1, ⟨rfl, rfl⟩, s2, rfl, rfl, hen R1 l1 b1 r1, ?_⟩
  unfold callWith at p hck
  cases q : f ds' S1.out with
  | no => rw [q] at p; exact p
  | exc c fs S' =>
    rw [q] at p hck
    intro R' H' d l si' x
    have p2 := p (leaveR R' R1) H' d (l1.trans (leaveR_le l)) (s1.leave l si' (mnL l) (fun z => (hck z).2)) (XR.leave l (mnL l) (fun z => (hck z).1) x)
    have eca : R.ca = R1.ca := by rw [l1.rs]
    rw [eca] at p2
    exact p2
  | ok r S' =>
    rw [q] at p hck
    intro R' H' x l si' rr
    have hck : xl = true → r.noFn = true ∧ S'.om.all Ob.noFn = true := fun z => by
      have hck := hck z
      dsimp only at hck
      split at hck <;> exact hck
    dsimp only at p
    split at p
    · rename_i hf
      rw [Bool.and_eq_true] at hf
      -- what was frozen for the call is let go again
      have lR : RLe R (dropR R' R) := ⟨rfl, rfl, fun k a h => l.sp k a (l1.sp k a h), fun n v h => l.lb n v (l1.lb n v h), fun a o h => extH_of (fun z => l.hz a o (l1.hz a o z)) h⟩
      refine p (dropR R' R) H' x lR ?_ (flat_any hf.1 rr)
      -- the same, seen from the state ahead of the freezing
      have eH0 : R'.H0 = H := by rw [l.rs]; rfl
      have elk : R'.lk = R.lk := by rw [l.lk]; exact l1.lk
      have stay : ∀ {a : Addr} {u : HO}, H a = some u → NoRef R1 a → (∀ ps, u ≠ .tbl ps) → H' a = some u := fun {a u} => SI.stays' l si'
      have esp1 : ∀ k a, R1.sp k = some a → k < S1.om.length := fun k a h => by
        have := s1.rlt k a h
        have e : (frzArgs as S1).om = S1.om := by have := congrArg SS.om hback; exact this
        rw [e] at this; exact this
      have nref : ∀ {a}, NoRef R a → NoRef R1 a := fun {a} h k e1 => by
        have hk := esp1 k a e1
        obtain ⟨b', e2, _⟩ := si.ref k _ (List.getElem?_eq_getElem hk)
        have := l1.sp k b' e2
        rw [e1] at this; cases this
        exact h k e2
      have up : ∀ {a o}, extH R'.Hz R.Hz a = some o → R'.Hz a = some o := fun {a o} e => (extH_cases e).elim (fun z => l.hz a o (l1.hz a o z)) fun z => z.1
      have nex : ∀ {a u}, H' a = some u → (∀ φ, u ≠ .ext φ) → (∀ od φ, u ≠ .frz od (.ext φ)) → ∀ φ, R'.Hz a ≠ some (.ext φ) := fun {a u} hu h1 h2 φ z => by
        have q := si'.sub0 a _ z
        unfold lkd at q
        rw [hu] at q
        cases hk : R'.lk a with
        | none => rw [hk] at q; cases q; exact h1 _ rfl
        | some od => rw [hk] at q; cases q; exact h2 _ _ rfl
      refine { len := si.len, sub0 := fun a o e => ?_, lkz := fun a od e => ?_, l0 := si.l0, nfz := trivial, z0 := fun a o e => lR.hz a o (si.z0 a o e), new := fun a o e => ?_, ntb := fun a ps e => si'.ntb a ps (up e), tb := ⟨fun a ps e => ?_, fun q hq => ?_⟩, keep := fun a o e n t => ?_, dom := fun a e => ?_, oldd := si.oldd, val := fun i d e => ?_, own := fun i o e => ?_, disj := si.disj, ref := fun k o e => ?_, rlt := si'.rlt, rfr := fun k a e => ?_, rs0 := fun k a e => lR.sp k a (si.rs0 k a e), rno := fun k a e j h => ?_, rinj := si'.rinj, lbl := si'.lbl }
      · have q2 := si'.sub0 a o (up e)
        unfold lkd at q2 ⊢
        rw [elk] at q2
        exact q2
      · have e : R.lk a = some od := e
        obtain ⟨p, l', q2⟩ := si.lkz a od e
        exact ⟨p, l', lR.hz a _ q2⟩
      · rcases extH_cases e with z | ⟨z, φ, z2⟩
        · exact si.new a o z
        · rcases si'.new a o z with y | y
          · rw [show R'.Z0 = R1.Hz by rw [l.rs]; rfl] at y
            rcases s1.new a o y with y | y
            · exact .inl (by rw [show R1.Z0 = R.Z0 by rw [l1.rs]] at y; exact y)
            · exact .inr (by rw [show R1.H0 = R.H0 by rw [l1.rs]] at y; exact y)
          · exact .inr (si.dom a (by rw [← eH0]; exact y))
      · have e : R.H0 a = some (.tbl ps) := e
        obtain ⟨m, q2⟩ := si.tb.1 a ps e
        obtain ⟨m2, q3⟩ := si'.tb.1 a _ (by rw [eH0]; exact q2)
        exact ⟨m ++ m2, by rw [q3]; simp [Array.append_assoc]⟩
      · obtain ⟨ps, e1, e2, e3⟩ := si'.tb.2 q (by rw [show R'.tabs = R.tabs by rw [l.rs]; show R1.tabs = R.tabs; rw [l1.rs]]; exact hq)
        refine ⟨ps, e1, e2, fun pos cv hc => ?_⟩
        obtain ⟨c, c1, c2⟩ := e3 pos cv hc
        refine ⟨c, c1, ?_⟩
        show extH R'.Hz R.Hz c = _
        unfold extH
        rw [c2]
        rfl
      · have e : R.H0 a = some o := e
        have q2 := si.keep a o e n t
        have hr : NoRef R a := fun k e2 => by
          rcases si.rfr k a e2 with z | z
          · exact n k z
          · rw [e] at z; cases z
        refine stay q2 (nref hr) fun ps z => ?_
        have z : (match R.L0 a with | some _ => o | none => lkd R a o) = .tbl ps := z
        cases h : R.L0 a with
        | some x => rw [h] at z; exact t ps z
        | none =>
          rw [h] at z
          have z : lkd R a o = .tbl ps := z
          unfold lkd at z
          cases h2 : R.lk a with
          | some x => rw [h2] at z; cases z
          | none => rw [h2] at z; exact t ps z
      · have := si'.dom a e
        rw [eH0] at this
        exact si.dom a this
      · obtain ⟨v, e1, r⟩ := si.val i d e
        exact ⟨v, e1, r.mono lR⟩
      · obtain ⟨a, e1, w⟩ := si.own i o e
        obtain ⟨u, hu⟩ := w.there
        have nt : ∀ ps, u ≠ .tbl ps := fun ps z => by
          obtain ⟨_, _, _, w4⟩ := w
          cases o with
          | lst ds => obtain ⟨vs, q, _⟩ := w4; rw [hu, z] at q; cases q
          | dct kvs => rcases w4 with ⟨ll, q, _⟩ | ⟨ll, q, _⟩ <;> (rw [hu, z] at q; cases q)
        have hu' := stay hu (nref fun k e2 => si.rno k a e2 i ⟨⟨o, e⟩, e1⟩) nt
        have nx : (∀ φ, u ≠ .ext φ) ∧ ∀ od φ, u ≠ .frz od (.ext φ) := by
          obtain ⟨_, _, _, w4⟩ := w
          cases o with
          | lst ds => obtain ⟨vs, q, _⟩ := w4; rw [hu] at q; cases q; exact ⟨(fun φ z => by cases z), (fun od φ z => by cases z)⟩
          | dct kvs => rcases w4 with ⟨ll, q, _⟩ | ⟨ll, q, _⟩ <;> (rw [hu] at q; cases q; exact ⟨(fun φ z => by cases z), (fun od φ z => by cases z)⟩)
        exact ⟨a, e1, w.mono lR (extH_none w.2.2.1 (nex hu' nx.1 nx.2)) (hu'.trans hu.symm)⟩
      · have e : S'.om[k]? = some o := e
        obtain ⟨a, e1, w1, w2⟩ := si'.ref k o e
        have io' := List.all_eq_true.mp hf.2 o (List.mem_of_getElem? e)
        refine ⟨a, e1, ?_, ?_⟩
        · refine extH_none ?_ fun φ z => by rw [w1] at z; cases z
          cases q : R.Hz a with
          | none => rfl
          | some u => have := l.hz a u (l1.hz a u q); rw [w1] at this; cases this
        · cases o with
          | lst xs => obtain ⟨vs, q, r⟩ := w2; exact ⟨vs, q, ints_rv io' r⟩
          | dct kvs => cases io'
      · have e : R'.sp k = some a := e
        rcases si'.rfr k a e with z | z
        · have z : R1.sp k = some a := by rw [show R'.sp0 = R1.sp by rw [l.rs]; rfl] at z; exact z
          have hk := esp1 k a z
          obtain ⟨b', e2, _⟩ := si.ref k _ (List.getElem?_eq_getElem hk)
          have := l1.sp k b' e2
          rw [z] at this; cases this
          exact si.rfr k a e2
        · rw [eH0] at z; exact .inr (si.dom a z)
      · have e : R'.sp k = some a := e
        obtain ⟨⟨o, e1⟩, e2⟩ := h
        rcases si'.rfr k a e with z | z
        · have z : R1.sp k = some a := by rw [show R'.sp0 = R1.sp by rw [l.rs]; rfl] at z; exact z
          have hk := esp1 k a z
          obtain ⟨b', e3, _⟩ := si.ref k _ (List.getElem?_eq_getElem hk)
          have := l1.sp k b' e3
          rw [z] at this; cases this
          exact si.rno k a e3 j ⟨⟨o, e1⟩, e2⟩
        · obtain ⟨b', e3, w⟩ := si.own j o e1
          rw [e2] at e3; cases e3
          obtain ⟨u, hu⟩ := w.there
          rw [eH0, hu] at z; cases z
    · exact p (leaveR R' R1) H' x (l1.trans (leaveR_le l)) (s1.leave l si' (mnL l) (fun z => (hck z).2)) (RR.leave s1 l (mnL l) (fun z => (hck z).1) rr)
theorem sp_call (b : Base C R) (si : SI R S1 σ H) (ra : RAV R σ as vs) (e : resolve S1 as = some ds) {ds' : List D} {vs' : List V} {n : Nat} (hn : vs'.length = n) (hp : ∀ R', RVs R' ds vs → RVs R' ds' vs') {xb : Bool} (hm : xb = false → C.cl = [] ∧ C.ce = ce0) (p : Po C rR R σ (callX xb f as ds' S1) Q) :
    spF C.G n f vs' H Q (WE C.W σ) := by
  cases xb with
  | false =>
    obtain ⟨z1, z2⟩ := hm rfl
    have zz : ∀ a o, C.ce a = some o → ce0 a = some o := fun a o e => by rw [z2] at e; cases e
    exact sp_callG (xl := false) b si ra e hn (.inl ⟨z1, zz⟩) (fun _ a o e => by cases e) (fun R1 l1 b1 r1 => RVs.monoV (enterR_v (b1.2.1.trans z1) (by rw [b1.2.2]; exact zz)) (hp R1 r1)) p
  | true =>
    unfold callX at p
    dsimp only at p
    split at p
    · rename_i z
      rw [Bool.and_eq_true] at z
      exact sp_callG (xl := false) b si ra e hn (.inr z.2) (fun _ a o e => by cases e) (fun R1 l1 b1 r1 => RVs.monoX enterR_x z.1 (hp R1 r1)) p
    · exact p.elim
end
end Ev
namespace Ev
open PySem PySem.Spec PyProof.Rows L2
/-! ## 19. the rules of calls, of defs -/
section
variable {X : Cx} {C : EC} {e : Expr} {es : List Expr} {kws : List Keyword} {f : SS → Out D} {g : SS → Out (List AV)} {pos : Pos}
theorem pa_gNil : PA X [] (tAV C gNil) := ⟨fun pos pins s σ H Q I h => pa_nil.run pos pins s σ H Q I (by
  obtain ⟨R, S, b, si, p⟩ := h
  exact p R H [] (RLe.refl R) si rfl)⟩
theorem pa_gEx (hp : plainArg e = true) (ha : PE X e (tD C f)) (hr : PA X es (tAV C g)) : PA X (e :: es) (tAV C (gEx f g)) := by
  refine ⟨fun pos pins s σ H Q I h => (pa_cons ha hr (starEach_plain hp)).run pos pins s σ H Q I ?_⟩
  refine (seqT' (rel := rV) h).mono fun x H1 ⟨R, S, d, b1, s1, rd, p⟩ => ?_
  refine (seqT (rel := rAV) b1 s1 p).mono fun xs H2 ⟨R2, S2, as, l2, b2, s2, ras, p2⟩ => ?_
  exact p2 R2 H2 (x :: xs) (RLe.refl R2) s2 ⟨x, xs, rfl, RV.mono l2 rd, ras⟩
theorem pa_gNm {i : Nat} {x : Str} {np : Pos} (hN : X.N[i]? = some x) (hv : Vis X.env.scope x) (hd : (x == ("__debug__" : Str)) = false) (hcd : (x == ("__classdict__" : Str)) = false) (hr : PA X es (tAV C g)) : PA X (.Name x np :: es) (tAV C (gNm i g)) := by
  refine ⟨fun pos pins s σ H Q I h => (pa_cons (pe_var hN hv hd hcd) hr (starEach_plain rfl)).run pos pins s σ H Q I ?_⟩
  obtain ⟨⟨v, ev⟩, h⟩ := has_run h
  refine ⟨v, ev, ?_⟩
  refine (seqT' (rel := rAV) h).mono fun xs H2 ⟨R2, S2, as, b2, s2, ras, p2⟩ => ?_
  exact p2 R2 H2 (v :: xs) (RLe.refl R2) s2 ⟨v, xs, rfl, ev, ras⟩
/-- the keywords' values -/
theorem pk_gNil : PK X [] (tAV C gNil) := ⟨fun pos pins s σ H Q I h => pk_nil.run pos pins s σ H Q I (by
  obtain ⟨R, S, b, si, p⟩ := h
  exact p R H [] (RLe.refl R) si rfl)⟩
theorem pk_gEx {nm : Option Str} {kp : Pos} (ha : PE X e (tD C f)) (hr : PK X kws (tAV C g)) : PK X (⟨nm, e, kp⟩ :: kws) (tAV C (gEx f g)) := by
  refine ⟨fun pos pins s σ H Q I h => (pk_cons ha hr).run pos pins s σ H Q I ?_⟩
  refine (seqT' (rel := rV) h).mono fun x H1 ⟨R, S, d, b1, s1, rd, p⟩ => ?_
  refine (seqT (rel := rAV) b1 s1 p).mono fun xs H2 ⟨R2, S2, as, l2, b2, s2, ras, p2⟩ => ?_
  exact p2 R2 H2 (x :: xs) (RLe.refl R2) s2 ⟨x, xs, rfl, RV.mono l2 rd, ras⟩
theorem pk_gNm {nm : Option Str} {kp : Pos} {i : Nat} {x : Str} {np : Pos} (hN : X.N[i]? = some x) (hv : Vis X.env.scope x) (hd : (x == ("__debug__" : Str)) = false) (hcd : (x == ("__classdict__" : Str)) = false) (hr : PK X kws (tAV C g)) : PK X (⟨nm, .Name x np, kp⟩ :: kws) (tAV C (gNm i g)) := by
  refine ⟨fun pos pins s σ H Q I h => (pk_cons (pe_var hN hv hd hcd) hr).run pos pins s σ H Q I ?_⟩
  obtain ⟨⟨v, ev⟩, h⟩ := has_run h
  refine ⟨v, ev, ?_⟩
  refine (seqT' (rel := rAV) h).mono fun xs H2 ⟨R2, S2, as, b2, s2, ras, p2⟩ => ?_
  exact p2 R2 H2 (v :: xs) (RLe.refl R2) s2 ⟨v, xs, rfl, ev, ras⟩
end
section
variable {X : Cx} {C : EC} {k : Nat} {fa : Addr} {fd : FuncData} {ps ks : List Str} {f : Fun} {g : SS → Out (List AV)} {x : Str} {p pos : Pos} {e : Expr} {es : List Expr} {kws : List Keyword} {pl : List Nat}
/-- the callee runs -/
theorem run_fng {pins : List (Addr × Obj)} {σ : L2.St} {H : Hp} {s : Shared} {Q : VK} {us us' : List Value} {kw : List (Str × Value)} {vs : List V} {E : XK} {sp : Sp} (F : FnG X.prog X.w X.K X.mg X.base k fa fd ps sp) (hr : Rm k X.A) (hb : BindsTo s fd ⟨us', kw⟩ (ps.zip us)) (hx : PassesAt (L2.CX X.prog X.w) X σ E)
    (I : Inv X pins σ H s) (r : Vals vs us) (h : sp vs H Q E) : wpAny (model X.prog X.w) X.A (call (.ref fa) us' kw) (EP X pins σ Q) X.xe s := by
  refine wpAny_call (codeAny_mono (F.run X.A X.stack s H ⟨us', kw⟩ us vs Q E hr I.env0 hb r h) fun r s' hq => ?_)
  cases r with
  | error e => exact hx pins H s e s' I hq
  | ok fl =>
    cases fl with
    | ret u => exact I.after hq
    | next => exact False.elim hq
    | brk => exact False.elim hq
    | cont => exact False.elim hq
theorem call_mid {xb : Bool} (hm : xb = false → C.cl = [] ∧ C.ce = ce0) {σ : L2.St} {H : Hp} {Q : VK} {n : Nat} (h : tE C (fCallX xb f g) σ H Q) : tAV C g σ H fun vs H1 => vs.length = n → spF C.G n f vs H1 Q (WE C.W σ) := by
  refine (seqT' (rel := rAV) h).mono fun vs H1 ⟨R, S1, as, b, si, ra, p⟩ hn => ?_
  try dsimp only at p
  cases q : resolve S1 as with
  | none => rw [q] at p; exact p.elim
  | some ds =>
    rw [q] at p
    exact sp_call b si ra q hn (fun _ h => h) hm p
theorem RVs.permL {R : RC} {ds : List D} {vs : List V} (h : RVs R ds vs) : ∀ p : List Nat, RVs R (permL p ds) (permL p vs)
  | [] => by simp [Ev.permL, RVs]
  | i :: p => by
    have ih := RVs.permL h p
    unfold Ev.permL at ih ⊢
    rw [List.filterMap_cons, List.filterMap_cons]
    cases e : ds[i]? with
    | none =>
      have : vs[i]? = none := by
        rw [List.getElem?_eq_none_iff] at e ⊢
        rw [h.length]; exact e
      rw [this]
      exact ih
    | some d =>
      obtain ⟨v, ev, rv⟩ := h.getD e
      rw [ev]
      dsimp only
      rw [RVs]
      exact ⟨v, _, rfl, rv, ih⟩
theorem Vals.permL {vs : List V} {us : List Value} (h : Vals vs us) : ∀ p : List Nat, Vals (permL p vs) (permL p us)
  | [] => .nil
  | i :: p => by
    have ih := Vals.permL h p
    unfold Ev.permL at ih ⊢
    rw [List.filterMap_cons, List.filterMap_cons]
    cases e : vs[i]? with
    | none =>
      have : us[i]? = none := by
        rw [List.getElem?_eq_none_iff] at e ⊢
        rw [← Paired.length h]; exact e
      rw [this]
      exact ih
    | some v =>
      obtain ⟨u, eu, ru⟩ := h.get e
      rw [eu]
      exact .cons ru ih
theorem call_midK {xb : Bool} (hm : xb = false → C.cl = [] ∧ C.ce = ce0) {σ : L2.St} {H : Hp} {Q : VK} {n : Nat} (h : tE C (fCallKX xb f pl g) σ H Q) : tAV C g σ H fun vs H1 => (permL pl vs).length = n → spF C.G n f (permL pl vs) H1 Q (WE C.W σ) := by
  refine (seqT' (rel := rAV) h).mono fun vs H1 ⟨R, S1, as, b, si, ra, p⟩ hn => ?_
  try dsimp only at p
  cases q : resolve S1 as with
  | none => rw [q] at p; exact p.elim
  | some ds =>
    rw [q] at p
    exact sp_call b si ra q hn (fun _ h => h.permL pl) hm p
theorem pe_fCall {xb : Bool} (hm0 : xb = false → C.cl = [] ∧ C.ce = ce0) (F : FnG X.prog X.w X.K X.mg X.base k fa fd ps (spF C.G ps.length f)) (hr : Rm k X.A) (hg : Gl X x) (hm : X.mg x = some (.ref fa)) (hk : PySem.W.keepIn X.K (.ref fa) = true) (hb : ∀ us : List Value, us.length = ps.length → bindArgs fd ⟨us, []⟩ = pure (ps.zip us)) (tk : Takes X C.W)
    (ha : PA X (e :: es) (tAV C g)) (hl : (e :: es).length = ps.length) (hdb : (x == ("__debug__" : Str)) = false) (hp : plainArg e = true) (hpl : (backTo pos (starEach es X.env)).any (·.1) = false) (hlen : ∀ S S' as, g S = .ok as S' → as.length = (e :: es).length) :
    PE X (.Call (.Name x p) (e :: es) [] pos) (tE C (fCallX xb f g)) := by
  refine ⟨fun pins s σ H Q I h => ?_⟩
  refine wpAny_Call_Name_kw (ld_glob I hg hm ?_ hdb)
  have key : tAV C g σ H fun vs H1 => spF C.G ps.length f vs H1 Q (WE C.W σ) := by
    obtain ⟨R, S, b, si, p0⟩ := call_mid hm0 (n := ps.length) h
    refine ⟨R, S, b, si, ?_⟩
    cases q : g S with
    | no => rw [q] at p0; exact p0
    | exc c fs S' => rw [q] at p0; exact p0
    | ok as S' =>
      rw [q] at p0
      intro R' H' vs l si' ra
      have len : ∀ {as : List AV} {vs : List V}, RAV R' σ as vs → vs.length = as.length := by
        intro as
        induction as with
        | nil => intro vs h; rw [show vs = [] from h]; rfl
        | cons a as ih =>
          intro vs h
          cases a with
          | sl i => obtain ⟨v, r, e, _, h2⟩ := h; rw [e]; simp [ih h2]
          | dv d => obtain ⟨v, r, e, _, h2⟩ := h; rw [e]; simp [ih h2]
      exact p0 R' H' vs l si' ra (by rw [len ra, hlen S S' as q, hl])
  refine PySem.W.callWith_K (h₀ := X.base) I.ok.mod.kin hk (thn (ha.run pos pins s σ H _ I key) fun us s1 ⟨vs, H1, I1, r, q⟩ => ⟨I1.kIn, ?_⟩) (starEach_plain hp) hpl
  have hl : us.length = ps.length := by rw [← Paired.length r]; exact q.1
  exact run_fng F hr (.of_eq (hb us hl)) (passAt tk σ) I1 r q
theorem pe_fCall0 {xb : Bool} (hm0 : xb = false → C.cl = [] ∧ C.ce = ce0) (F : FnG X.prog X.w X.K X.mg X.base k fa fd [] (spF C.G 0 f)) (hr : Rm k X.A) (hg : Gl X x) (hm : X.mg x = some (.ref fa)) (hk : PySem.W.keepIn X.K (.ref fa) = true) (hb : bindArgs fd ⟨[], []⟩ = pure []) (tk : Takes X C.W) (hdb : (x == ("__debug__" : Str)) = false) :
    PE X (.Call (.Name x p) [] [] pos) (tE C (fCallX xb f gNil)) := by
  refine ⟨fun pins s σ H Q I h => ?_⟩
  refine wpAny_Call_Name_kw (ld_glob I hg hm ?_ hdb)
  obtain ⟨R, S, b, si, p0⟩ := call_mid hm0 (n := 0) h
  have q := p0 R H [] (RLe.refl R) si rfl rfl
  exact PySem.W.callWith_K0 I.kIn hk (run_fng (us := []) (vs := []) F hr (.of_eq hb) (passAt tk σ) I .nil q)
theorem pe_fCallK {xb : Bool} (hm0 : xb = false → C.cl = [] ∧ C.ce = ce0) (F : FnG X.prog X.w X.K X.mg X.base k fa fd ps (spF C.G ps.length f)) (hr : Rm k X.A) (hg : Gl X x) (hm : X.mg x = some (.ref fa)) (hk : PySem.W.keepIn X.K (.ref fa) = true) (hb : ∀ ws : List Value, (permL pl ws).length = ps.length → ws.length = ks.length → bindArgs fd ⟨[], ks.zip ws⟩ = pure (ps.zip (permL pl ws))) (tk : Takes X C.W)
    (hkw : PK X kws (tAV C g)) (hlen : ∀ S S' as, g S = .ok as S' → as.length = ks.length) (hpm : ∀ vs : List V, vs.length = ks.length → (permL pl vs).length = ps.length) (hdb : (x == ("__debug__" : Str)) = false)
    (hall : (backToKw pos (keywordEach kws X.env)).all (·.1.isSome) = true) (hks : (backToKw pos (keywordEach kws X.env)).filterMap (·.1) = ks) (hpl : ((backTo pos (starEach [] X.env)).any (·.1) || (backToKw pos (keywordEach kws X.env)).any (·.1.isNone)) = false) :
    PE X (.Call (.Name x p) [] kws pos) (tE C (fCallKX xb f pl g)) := by
  refine ⟨fun pins s σ H Q I h => ?_⟩
  refine wpAny_Call_Name_kw (ld_glob I hg hm ?_ hdb)
  have key : tAV C g σ H fun vs H1 => vs.length = ks.length ∧ spF C.G ps.length f (permL pl vs) H1 Q (WE C.W σ) := by
    obtain ⟨R, S, b, si, p0⟩ := call_midK hm0 (n := ps.length) h
    refine ⟨R, S, b, si, ?_⟩
    cases q : g S with
    | no => rw [q] at p0; exact p0
    | exc c fs S' => rw [q] at p0; exact p0
    | ok as S' =>
      rw [q] at p0
      intro R' H' vs l si' ra
      have len : ∀ {as : List AV} {vs : List V}, RAV R' σ as vs → vs.length = as.length := by
        intro as
        induction as with
        | nil => intro vs h; rw [show vs = [] from h]; rfl
        | cons a as ih =>
          intro vs h
          cases a with
          | sl i => obtain ⟨v, r, e, _, h2⟩ := h; rw [e]; simp [ih h2]
          | dv d => obtain ⟨v, r, e, _, h2⟩ := h; rw [e]; simp [ih h2]
      have hv : vs.length = ks.length := by rw [len ra, hlen S S' as q]
      exact ⟨hv, p0 R' H' vs l si' ra (hpm vs hv)⟩
  refine PySem.W.callWith_KW0 (h₀ := X.base) I.ok.mod.kin hk hall ?_ hpl
  refine thn (hkw.run pos pins s σ H _ I key) fun ws s2 ⟨zs, H2, I2, rz, q1, q2⟩ => ⟨I2.kIn, ?_⟩
  rw [hks]
  have hl : (permL pl ws).length = ps.length := by rw [← Paired.length (Vals.permL rz pl)]; exact q2.1
  exact run_fng F hr (.of_eq (hb ws hl (by rw [← Paired.length rz]; exact q1))) (passAt tk σ) I2 (Vals.permL rz pl) q2
end
/-! ### a def's body -/
def fRun (n : Nat) (body : SS → Out Fl) : Fun := fun ds S => match body { dl := ds.map .val ++ List.replicate (n - ds.length) .none, om := S.om, lc := S.lc } with
  | .ok (.rt r) S' => .ok r (S.back S')
  | .ok .nx S' => .ok (.val .non) (S.back S')
  | .ok _ _ => .no
  | .exc c fs S' => .exc c fs (S.back S')
  | .no => .no
section
variable {R : RC} {S : SS} {σ : L2.St} {H : Hp}
theorem SI.start {N : List Str} {ds : List D} {vs : List V} (si : SI R S [] H) (r : RVs R ds vs) (hl : vs.length ≤ N.length) : SI R { dl := ds.map .val ++ List.replicate (N.length - ds.length) .none, om := S.om, lc := S.lc } (L2.start N vs) H := by
  have el := r.length
  have no : ∀ {i : Nat} {o : Ob}, (ds.map Slot.val ++ List.replicate (N.length - ds.length) Slot.none)[i]? ≠ some (Slot.own o) := fun {i o} e => by
    have := List.mem_of_getElem? e
    rcases List.mem_append.mp this with z | z
    · obtain ⟨d, _, z⟩ := List.mem_map.mp z; cases z
    · have := List.eq_of_mem_replicate z; cases this
  refine { len := ?_, sub0 := si.sub0, lkz := si.lkz, l0 := si.l0, nfz := si.nfz, z0 := si.z0, new := si.new, ntb := si.ntb, tb := si.tb, keep := si.keep, dom := si.dom, oldd := si.oldd, val := fun i d e => ?_, own := fun i o e => (no e).elim, disj := fun i j a h1 h2 => ?_, ref := si.ref, rlt := si.rlt, rfr := si.rfr, rs0 := si.rs0, rno := fun k a e j h => ?_, rinj := si.rinj, lbl := si.lbl }
  · show (ds.map Slot.val ++ List.replicate (N.length - ds.length) Slot.none).length = (L2.start N vs).length
    unfold L2.start
    simp only [List.length_append, List.length_map, List.length_replicate]
    omega
  · have e : (ds.map Slot.val ++ List.replicate (N.length - ds.length) Slot.none)[i]? = some (Slot.val d) := e
    have hi : i < ds.length := by
      by_cases q : i < ds.length
      · exact q
      · rw [List.getElem?_append_right (by simpa using q), List.getElem?_replicate] at e
        split at e <;> cases e
    rw [List.getElem?_append_left (by simpa using hi), List.getElem?_map] at e
    cases q : ds[i]? with
    | none => rw [q] at e; cases e
    | some d' =>
      rw [q] at e
      cases e
      obtain ⟨v, ev, rv⟩ := r.getD q
      refine ⟨v, ?_, rv⟩
      unfold L2.start
      rw [List.getElem?_append_left (by simp; omega), List.getElem?_map, ev]; rfl
  · obtain ⟨⟨o, e⟩, _⟩ := h1
    exact (no e).elim
  · obtain ⟨⟨o, e⟩, _⟩ := h
    exact (no e).elim
theorem SI.end_ (si : SI R S σ H) (S0 : SS) (h0 : S0.dl = []) : SI R (S0.back S) [] H := by
  have no : ∀ {i : Nat} {s : Slot}, (S0.back S).dl[i]? ≠ some s := fun {i s} e => by
    have e : S0.dl[i]? = some s := e
    rw [h0] at e; cases e
  refine { len := ?_, sub0 := si.sub0, lkz := si.lkz, l0 := si.l0, nfz := si.nfz, z0 := si.z0, new := si.new, ntb := si.ntb, tb := si.tb, keep := si.keep, dom := si.dom, oldd := si.oldd, val := fun i d e => (no e).elim, own := fun i o e => (no e).elim, disj := fun i j a h1 h2 => ?_, ref := si.ref, rlt := si.rlt, rfr := si.rfr, rs0 := si.rs0, rno := fun k a e j h => ?_, rinj := si.rinj, lbl := si.lbl }
  · show S0.dl.length = _; rw [h0]; rfl
  · obtain ⟨⟨o, e⟩, _⟩ := h1
    exact (no e).elim
  · obtain ⟨⟨o, e⟩, _⟩ := h
    exact (no e).elim
end
/-- the names of a def's cells, at its entry -/
def clOf (scope : Scope) (s : Shared) : List (Str × Addr) := cellsFrom (s.heap.objs.size + 1) scope.names []
def fRunX (x : Bool) (n : Nat) (body : SS → Out Fl) : Fun := fun ds S => chk x (fRun n body ds S)
/-- what the caller is promised, as the body's reading -/
theorem run_core {x : Bool} {G : PG} {n : Nat} {ce : Addr → Option Obj} {cl' : List (Str × Addr)} {N : List Str} {F : SS → Out Fl} {vs : List V} {H : Hp} {Q : VK} {E : XK} (hnl : n ≤ N.length) (hx : x = false → cl' = []) (h : spFc G n (fRunX x N.length F) ce vs H Q E) :
    tS ⟨G, cl', ce, fun cls d _ H => E cls d H⟩ F { nx := fun _ H' => Q .non H', rt := Q } (L2.start N vs) H := by
  obtain ⟨hn, R, S, ds, hG, ⟨hcl, hce⟩, si, hdl, hH, rv, p⟩ := h
  -- the callee's frame has cells of its own
  have le : RLv R { R with cl := cl' } := ⟨rfl, rfl, rfl, rfl, .inl hcl, fun _ _ h => h, fun _ _ h => h, fun _ _ h => h, fun _ _ h => h⟩
  have si1 : SI { R with cl := cl' } S [] H := by
    refine { len := si.len, sub0 := si.sub0, lkz := si.lkz, l0 := si.l0, nfz := si.nfz, z0 := si.z0, new := si.new, ntb := si.ntb, tb := si.tb, keep := si.keep, dom := si.dom, oldd := si.oldd, val := fun i d e => ?_, own := fun i o e => ?_, disj := si.disj, ref := fun k o e => ?_, rlt := si.rlt, rfr := si.rfr, rs0 := si.rs0, rno := si.rno, rinj := si.rinj, lbl := si.lbl }
    · rw [hdl] at e; cases e
    · rw [hdl] at e; cases e
    · obtain ⟨a, e1, w⟩ := si.ref k o e
      exact ⟨a, e1, w.mono le w.1 rfl⟩
  have back : ∀ {R' : RC}, RLe { R with cl := cl' } R' → RLe R { R' with cl := R.cl } ∧ Mn x R' { R' with cl := R.cl } := fun {R'} l => ⟨⟨by
    have e := l.rs
    show ({ R'.toRS with cl := R.cl } : RS) = R.toRS
    rw [e], l.lk, l.sp, l.lb, l.hz⟩, by
      cases x with
      | true => exact RLx.mn ⟨rfl, rfl, rfl, rfl, fun _ _ h => h, fun _ _ h => h, fun _ _ h => h⟩
      | false => exact RLv.mn ⟨rfl, rfl, rfl, rfl, .inl (by rw [show R'.cl = cl' by rw [l.rs]]; exact hx rfl), fun _ _ h => h, fun _ _ h => h, fun _ _ h => h, fun _ _ h => h⟩⟩
  have siB : ∀ {R' : RC} {S' : SS} {H' : Hp}, Mn x R' { R' with cl := R.cl } → (x = true → S'.om.all Ob.noFn = true) → SI R' S' [] H' → SI { R' with cl := R.cl } S' [] H' := fun {R' S' H'} mn hom si => by
    have nl : S'.dl = [] := by have := si.len; exact List.length_eq_zero_iff.mp (by simpa using this)
    refine { len := si.len, sub0 := si.sub0, lkz := si.lkz, l0 := si.l0, nfz := si.nfz, z0 := si.z0, new := si.new, ntb := si.ntb, tb := si.tb, keep := si.keep, dom := si.dom, oldd := si.oldd, val := fun i d e => ?_, own := fun i o e => ?_, disj := si.disj, ref := fun k o e => ?_, rlt := si.rlt, rfr := si.rfr, rs0 := si.rs0, rno := si.rno, rinj := si.rinj, lbl := si.lbl }
    · rw [nl] at e; cases e
    · rw [nl] at e; cases e
    · obtain ⟨a, e1, w⟩ := si.ref k o e
      exact ⟨a, e1, w.mn mn (fun z => List.all_eq_true.mp (hom z) o (List.mem_of_getElem? e)) w.1 rfl⟩
  have s0 := si1.start (N := N) (RVs.monoV le rv) (by rw [hn]; exact hnl)
  refine ⟨{ R with cl := cl' }, _, ⟨hG, rfl, hce⟩, s0, ?_⟩
  unfold fRunX fRun at p
  cases q : F { dl := ds.map .val ++ List.replicate (N.length - ds.length) .none, om := S.om, lc := S.lc } with
  | no => rw [q] at p; cases x <;> exact p
  | exc c fs S' =>
    rw [q] at p
    obtain ⟨p, hc⟩ := chk_ok (o := (.exc c fs (S.back S'))) (show Po ⟨G, [], ce, fun cls d _ H => E cls d H⟩ rR R [] (chk x (.exc c fs (S.back S'))) Q from p)
    intro R' σ' H' d l si' xr
    obtain ⟨l1, l2⟩ := back l
    obtain ⟨dx, vs', fl, e1, e2, e3, e4⟩ := xr
    exact p _ H' d l1 (siB l2 (fun z => (hc z).2) (si'.end_ S hdl)) ⟨dx, vs', fl, e1, e2, l2.s (fun z => (hc z).1) e3, e4⟩
  | ok fl S' =>
    rw [q] at p
    cases fl with
    | bk => cases x <;> exact p.elim
    | ct => cases x <;> exact p.elim
    | nx =>
      obtain ⟨p, hc⟩ := chk_ok (o := (.ok (.val .non) (S.back S'))) (show Po ⟨G, [], ce, fun cls d _ H => E cls d H⟩ rR R [] (chk x (.ok (.val .non) (S.back S'))) Q from p)
      intro R' σ' H' l si'
      obtain ⟨l1, l2⟩ := back l
      exact p _ H' .non l1 (siB l2 (fun z => (hc z).2) (si'.end_ S hdl)) (by show RV _ _ _ _; rw [RV])
    | rt r =>
      obtain ⟨p, hc⟩ := chk_ok (o := (.ok r (S.back S'))) (show Po ⟨G, [], ce, fun cls d _ H => E cls d H⟩ rR R [] (chk x (.ok r (S.back S'))) Q from p)
      intro R' σ' H' xv l si' rr
      obtain ⟨l1, l2⟩ := back l
      refine p _ H' xv l1 (siB l2 (fun z => (hc z).2) (si'.end_ S hdl)) ?_
      cases r with
      | val d => exact l2.v (fun z => (hc z).1) rr
      | own o =>
        obtain ⟨a, e, w, n, ns⟩ := rr
        refine ⟨a, e, ?_, fun i ow => ?_, ns⟩
        · obtain ⟨w1, w2, w3, w4⟩ := w
          refine ⟨w1, w2, w3, ?_⟩
          cases o with
          | lst ds => obtain ⟨vs, q, r⟩ := w4; exact ⟨vs, q, l2.s (fun z => (hc z).1) r⟩
          | dct kvs =>
            rcases w4 with ⟨ll, q, r⟩ | ⟨ll, q, r⟩
            · exact .inl ⟨ll, q, l2.k (fun z => (hc z).1) r⟩
            · exact .inr ⟨ll, q, l2.t (fun z => (hc z).1) r⟩
        · obtain ⟨⟨o', e1⟩, _⟩ := ow
          have e1 : S.dl[i]? = _ := e1
          rw [hdl] at e1; cases e1
/-- a def by its body: the body is read in each context in which it may run -/
theorem fn_fOf {P : Program} {w : World} {K : PySem.W.Frag} {mg : Str → Option Value} {base : Heap} {k : Nat} {fa : Addr} {name qual : Str} {params : Arguments} {body : List Stmt} {scope : Scope} {dV kV doc pm cdv ct oc : Value} {an od : Option Addr}
    {osl : Array (Option Value)} {N ps : List Str} {G : PG} {F : SS → Out Fl} (lk : K.lookup fa = some ⟨oc, od, .func (PySem.W.fnOf name qual params body scope dV kV doc pm an cdv ct), osl⟩) (hcd : PySem.W.codeIn K cdv qual = true) (Sc : FnScope N ps scope) (hnl : ps.length ≤ N.length)
    (hbody : ∀ (A : Around) (outer : List Env) (s : Shared) (H : Hp) (E : XK), Rm k (A.deeper (envOfC qual scope s.heap.objs.size fa cdv)) →
      PSs (cxOf (L2.CX P w) P w K mg base N qual scope fa cdv A outer s H E) body (tS ⟨G, [], ce0, fun cls d _ H => E cls d H⟩ F)) :
    FnG P w K mg base (k + 1) fa (PySem.W.fnOf name qual params body scope dV kV doc pm an cdv ct) ps (spF G ps.length (fRun N.length F)) :=
  fng_of lk hcd Sc (fun vs H Q E h => h.1) fun A outer s H vs Q E hr h => ⟨_, hbody A outer s H E hr, run_core (x := false) hnl (fun _ => rfl) h⟩
end Ev
namespace Ev
open PySem PySem.Spec PyProof.Rows L2
/-! ## 20. built-ins -/
def Pks (R : RC) (H : Hp) : List D → List V → Prop
  | [], vs => vs = []
  | d :: ds, vs => ∃ v r, vs = v :: r ∧ Pk R H d v ∧ Pks R H ds r
theorem Pks.one {R : RC} {H : Hp} {a : D} {vs : List V} (h : Pks R H [a] vs) : ∃ x, vs = [x] ∧ Pk R H a x := by
  obtain ⟨v, r, e, p, q⟩ := h
  rw [show r = [] from q] at e
  exact ⟨v, e, p⟩
theorem Pks.two {R : RC} {H : Hp} {a b : D} {vs : List V} (h : Pks R H [a, b] vs) : ∃ x y, vs = [x, y] ∧ Pk R H a x ∧ Pk R H b y := by
  obtain ⟨v, r, e, p, q⟩ := h
  obtain ⟨y, e2, p2⟩ := q.one
  subst e2
  exact ⟨v, y, e, p, p2⟩
def resolveP (S : SS) : List AV → Option (List D)
  | [] => some []
  | .sl i :: as => match peek S i, resolveP S as with
    | some d, some ds => some (d :: ds)
    | _, _ => none
  | .dv d :: as => match resolveP S as with
    | some ds => some (d :: ds)
    | none => none
theorem resolveP_pk {R : RC} {S : SS} {σ : L2.St} {H : Hp} (si : SI R S σ H) : ∀ {as : List AV} {vs : List V} {ds : List D}, RAV R σ as vs → resolveP S as = some ds → Pks R H ds vs
  | [], vs, ds, h, e => by rw [resolveP] at e; cases e; exact h
  | .dv d :: as, vs, ds, ⟨v, r, ev, h1, h2⟩, e => by
    rw [resolveP] at e
    cases q : resolveP S as with
    | none => rw [q] at e; cases e
    | some ds' => rw [q] at e; cases e; exact ⟨v, r, ev, .inl h1, resolveP_pk si h2 q⟩
  | .sl i :: as, vs, ds, ⟨v, r, ev, h1, h2⟩, e => by
    rw [resolveP] at e
    cases q0 : peek S i with
    | none => rw [q0] at e; cases e
    | some d =>
      cases q : resolveP S as with
      | none => rw [q0, q] at e; cases e
      | some ds' =>
        rw [q0, q] at e; cases e
        obtain ⟨w, ew, pk⟩ := si.peek q0
        rw [h1] at ew; cases ew
        exact ⟨v, r, ev, pk, resolveP_pk si h2 q⟩
def fBlt (f : List D → Option Res) (g : SS → Out (List AV)) : SS → Out Res := fun S => (g S).bind fun as S1 => match resolveP S1 as with
  | none => .no
  | some ds => match f ds with
    | some r => .ok r S1
    | none => .no
/-- what a built-in does to the values' descriptions -/
def BltR (X : Cx) (C : EC) (f : List D → Option Res) (r : List V → Hp → VK → Prop) : Prop := ∀ (σ : L2.St) (H : Hp) (R : RC) (S : SS) (ds : List D) (vs : List V) (z : Res) (Q : VK), R.K = X.K → SI R S σ H → Pks R H ds vs → f ds = some z →
  (∀ R' H' x, RLe R R' → SI R' S σ H' → RR R' S σ H' z x → Q x H') → r vs H Q
section
variable {X : Cx} {C : EC} {x : Str} {p pos : Pos} {e : Expr} {es : List Expr} {id T : String} {r : List V → Hp → VK → Prop} {f f' : List D → Option Res} {g : SS → Out (List AV)}
theorem blt_mid (hK : X.K = C.G.K) (hf : BltR X C f r) {σ : L2.St} {H : Hp} {Q : VK} (h : tE C (fBlt f g) σ H Q) : tCB r (tAV C g) σ H Q := by
  refine (seqT' (rel := rAV) h).mono fun vs H1 ⟨R, S1, as, b, si, ra, p⟩ => ?_
  try dsimp only at p
  cases q : resolveP S1 as with
  | none => rw [q] at p; exact p.elim
  | some ds =>
    rw [q] at p
    dsimp only at p
    cases q2 : f ds with
    | none => rw [q2] at p; exact p.elim
    | some z =>
      rw [q2] at p
      exact hf σ H1 R S1 ds vs z Q (b.K.trans hK.symm) si (resolveP_pk si ra q) q2 fun R' H' x l si' rr => p R' H' x l si' rr
theorem pe_fBlt (hK : X.K = C.G.K) (hc : CallR X (.builtin id) r) (hf : BltR X C f r) (hg : Gl X x) (hm : X.mg x = none) (hv : bootBuiltins x = some (.builtin id)) (ha : PA X (e :: es) (tAV C g)) (hn : x ≠ "__name__") (hdb : (x == ("__debug__" : Str)) = false) (hp : plainArg e = true) (hpl : (backTo pos (starEach es X.env)).any (·.1) = false) :
    PE X (.Call (.Name x p) (e :: es) [] pos) (tE C (fBlt f g)) := pe_mono (pe_callB hc hg hm hv ha hn hdb (starEach_plain hp) hpl) fun σ H Q h => blt_mid hK hf h
theorem pe_fBltT (hK : X.K = C.G.K) (hc : CallR X (.type T) r) (hf : BltR X C f r) (hg : Gl X x) (hm : X.mg x = none) (hv : bootBuiltins x = some (.type T)) (ha : PA X (e :: es) (tAV C g)) (hn : x ≠ "__name__") (hdb : (x == ("__debug__" : Str)) = false) (hp : plainArg e = true) (hpl : (backTo pos (starEach es X.env)).any (·.1) = false) :
    PE X (.Call (.Name x p) (e :: es) [] pos) (tE C (fBlt f g)) := pe_mono (pe_callTy hc hg hm hv ha hn hdb (starEach_plain hp) hpl) fun σ H Q h => blt_mid hK hf h
end
/-! ### len -/
def bLen : List D → Option Res
  | [d] => match d.view with
    | .str x => some (.val (.int x.length))
    | .lst xs => some (.val (.int xs.length))
    | .tup xs => some (.val (.int xs.length))
    | .dct kvs => some (.val (.int kvs.length))
    | _ => none
  | _ => none
/-- len of anything that is served -/
def rLen (K : PySem.W.Frag) : List V → Hp → VK → Prop := fun xs H Q => (∃ x n, xs = [x] ∧ LenV K x H n ∧ Q (.int n) H) ∨ (∃ a l, xs = [.ref a] ∧ Rd H a (.dK l) ∧ Q (.int (l.length : Nat)) H) ∨ ∃ a l, xs = [.ref a] ∧ Rd H a (.dT l) ∧ Q (.int (l.length : Nat)) H
theorem call_rLen {X : Cx} : CallR X (.builtin "len") (rLen X.K) := by
  intro pins s σ H xs us Q I r h
  rcases h with h | ⟨a, l, e, rd, q⟩ | ⟨a, l, e, rd, q⟩
  · exact call_len pins s σ H xs us Q I r h
  · subst e
    obtain ⟨u, eu, ru⟩ := vals1 r
    subst eu
    obtain rfl : u = Value.ref a := ru
    exact d_len I rd fun t s' I' => ⟨.int (l.length : Nat), H, I', ⟨_, rfl⟩, q⟩
  · subst e
    obtain ⟨u, eu, ru⟩ := vals1 r
    subst eu
    obtain rfl : u = Value.ref a := ru
    obtain ⟨z, hd, ys, rel, dd⟩ := dt_rd I.hok rd
    have hl : l.length = ys.length := Paired.length rel
    have hs : sizeLine = 16777216 := sizeLine_eq
    refine call_len_dictH hd dd (by omega) ?_
    exact ⟨.int (l.length : Nat), H, (I.tok _).tok _, ⟨_, by rw [hl]⟩, q⟩
theorem blt_len {X : Cx} {C : EC} : BltR X C bLen (rLen X.K) := by
  intro σ H R S ds vs z Q eK si pk e q
  unfold bLen at e
  split at e
  · rename_i d
    obtain ⟨x, ex, px⟩ := pk.one
    subst ex
    have fin : ∀ n : Nat, z = .val (.int n) → Q (.int n) H := fun n ez => by
      subst ez
      exact q R H _ (RLe.refl R) si (by show RV _ _ _ _; rw [RV])
    split at e
    · rename_i y ey
      cases e
      obtain ⟨e1, e2⟩ := px.str ey
      subst e1
      exact .inl ⟨_, y.length, rfl, ⟨e2, rfl⟩, fin _ rfl⟩
    · rename_i xs exs
      cases e
      obtain ⟨a, ws, e1, hh, rr⟩ := px.lst si.sub exs
      subst e1
      rw [eK] at hh
      exact .inl ⟨_, xs.length, rfl, .inl ⟨ws, hh, rr.length.symm⟩, fin _ rfl⟩
    · rename_i xs exs
      cases e
      obtain ⟨a, ws, e1, hh, rr⟩ := px.tup si.sub exs
      subst e1
      rw [eK] at hh
      exact .inl ⟨_, xs.length, rfl, .inr ⟨ws, hh, rr.length.symm⟩, fin _ rfl⟩
    · rename_i kvs ek
      cases e
      obtain ⟨a, e1, hh⟩ := px.dct si.sub ek
      subst e1
      rcases hh with ⟨l, hh, rr⟩ | ⟨l, hh, rr⟩
      · exact .inr (.inl ⟨a, l, rfl, hh, by rw [rr.length]; exact fin _ rfl⟩)
      · exact .inr (.inr ⟨a, l, rfl, hh, by rw [rr.length]; exact fin _ rfl⟩)
    · cases e
  · cases e
/-! ### list, tuple -/
def bList : List D → Option Res
  | [d] => match d.view with
    | .lst xs => some (.own (.lst xs))
    | .tup xs => some (.own (.lst xs))
    | .dct kvs => match keysD kvs with
      | some ks => some (.own (.lst ks))
      | none => none
    | _ => none
  | _ => none
def rList (K : PySem.W.Frag) : List V → Hp → VK → Prop := fun xs H Q => (∃ p ys, xs = [.ref p] ∧ (SqL K H p ys ∨ SqT K H p ys) ∧ ∀ l, H l = none → Q (.ref l) (upd H l (.lst ys))) ∨ (∃ (a : Addr) (kvs : List (Key × V)), xs = [.ref a] ∧ Rd H a (.dK kvs) ∧ ∀ p, H p = none → Q (.ref p) (upd H p (.lst (kvs.map fun kv => kV kv.1)))) ∨
  ∃ (a : Addr), xs = [.ref a] ∧ H a = some (.dT []) ∧ ∀ p, H p = none → Q (.ref p) (upd H p (.lst []))
theorem call_rList {X : Cx} (hc : X.calm = true) : CallR X (.type "list") (rList X.K) := by
  intro pins s σ H xs us Q I r h
  rcases h with h | h | ⟨a, e, hd, q⟩
  · exact call_list_of pins s σ H xs us Q I r h
  · exact call_listD hc pins s σ H xs us Q I r h
  · -- an empty dict: told as one of the other kind
    have I1 := inv_dK0 I hd
    have pr : ∀ p, upd H a (.dK []) p = none → p ≠ a ∧ H p = none := fun p hp => by
      have h1 : p ≠ a := fun z => by rw [z, upd_same] at hp; cases hp
      rw [upd_ne h1] at hp
      exact ⟨h1, hp⟩
    refine wpAny_mono (call_listD hc pins s σ (upd H a (.dK [])) xs us (fun v H' => ∃ p, p ≠ a ∧ H p = none ∧ v = .ref p ∧ H' = upd (upd H a (.dK [])) p (.lst [])) I1 r ⟨a, [], e, .inl upd_same, fun p hp => ⟨p, (pr p hp).1, (pr p hp).2, rfl, rfl⟩⟩) (fun v s' hx => ?_) fun _ _ h => h
    obtain ⟨x, H', I', rv, p, hpa, hp, ex, eH⟩ := hx
    subst ex eH
    have I2 := inv_dT0 I' (by rw [upd_ne (Ne.symm hpa), upd_same])
    have e2 : upd (upd (upd H a (.dK [])) p (.lst [])) a (.dT []) = upd H p (.lst []) := by
      funext b
      by_cases hb : b = a
      · subst hb; rw [upd_same, upd_ne (Ne.symm hpa), hd]
      · rw [upd_ne hb]
        by_cases hb2 : b = p
        · subst hb2; rw [upd_same, upd_same]
        · rw [upd_ne hb2, upd_ne hb2, upd_ne hb]
    rw [e2] at I2
    exact ⟨.ref p, _, I2, rv, q p hp⟩
theorem keys_rvs {R : RC} : ∀ {kvs : List (DK × D)} {l : List (Key × V)} {ks : List D}, RVk R kvs l → keysD kvs = some ks → RVs R ks (l.map fun kv => kV kv.1)
  | [], l, ks, h, e => by rw [RVk] at h; rw [keysD] at e; cases e; subst h; rw [RVs]; rfl
  | (k, d) :: kvs, l, ks, h, e => by
    rw [RVk] at h
    obtain ⟨v, x, r, e1, ⟨e2, hx⟩, p, q⟩ := h
    rw [keysD] at e
    cases e3 : k.toD with
    | none => rw [e3] at e; cases e
    | some d1 =>
      cases e4 : keysD kvs with
      | none => rw [e3, e4] at e; cases e
      | some ds =>
        rw [e3, e4] at e
        cases e
        subst e1 e2
        rw [List.map_cons, RVs]
        refine ⟨_, _, rfl, ?_, keys_rvs q e4⟩
        cases x with
        | inl i => rw [DK.toD] at e3; cases e3; rw [RV]; rfl
        | inr s => rw [DK.toD] at e3; cases e3; rw [RV]; exact ⟨rfl, hx⟩
theorem blt_list {X : Cx} {C : EC} : BltR X C bList (rList X.K) := by
  intro σ H R S ds vs z Q eK si pk e q
  unfold bList at e
  split at e
  · rename_i d
    obtain ⟨x, ex, px⟩ := pk.one
    subst ex
    split at e
    · rename_i xs exs
      cases e
      obtain ⟨a, ws, e1, hh, rr⟩ := px.lst si.sub exs
      subst e1
      rw [eK] at hh
      exact .inl ⟨a, ws, rfl, .inl hh, fun l hl => by obtain ⟨s1, s2⟩ := si.own_lst hl rr; exact q R _ _ (RLe.refl R) s1 s2⟩
    · rename_i xs exs
      cases e
      obtain ⟨a, ws, e1, hh, rr⟩ := px.tup si.sub exs
      subst e1
      rw [eK] at hh
      exact .inl ⟨a, ws, rfl, .inr hh, fun l hl => by obtain ⟨s1, s2⟩ := si.own_lst hl rr; exact q R _ _ (RLe.refl R) s1 s2⟩
    · rename_i kvs ek
      cases e3 : keysD kvs with
      | none => rw [e3] at e; cases e
      | some ks =>
        rw [e3] at e
        cases e
        obtain ⟨a, e1, hh⟩ := px.dct si.sub ek
        subst e1
        rcases hh with ⟨l, hh, rr⟩ | ⟨l, hh, rr⟩
        · exact .inr (.inl ⟨a, l, rfl, hh, fun p hp => by obtain ⟨s1, s2⟩ := si.own_lst hp (keys_rvs rr e3); exact q R _ _ (RLe.refl R) s1 s2⟩)
        · obtain ⟨z1, z2⟩ := keysD_t rr e3
          subst z1 z2
          have hd : H a = some (.dT []) := by
            rcases px with pv | ⟨_, _, _, _, ed, _⟩ | ⟨a', kvs', ea, ed, hk⟩
            · obtain ⟨a2, e2, hh2⟩ := pv.dct_ ek
              cases e2
              rcases hh2 with ⟨l2, hz, r2⟩ | ⟨l2, hz, r2⟩
              · exfalso
                have := si.sub.rd hz
                rcases this with h1 | ⟨o1, h1⟩ <;> rcases hh with h2 | ⟨o2, h2⟩ <;> (rw [h1] at h2; cases h2)
              · obtain ⟨z3, _⟩ := keysD_t r2 e3
                subst z3
                exact si.sub.at hz
            · rw [ed] at ek; cases ek
            · rw [ed] at ek
              cases ea
              rcases hh with h2 | ⟨o2, h2⟩
              · exact h2
              · rcases hk with ⟨_, h1, _⟩ | ⟨_, h1, _⟩ <;> (rw [h1] at h2; cases h2)
          exact .inr (.inr ⟨a, rfl, hd, fun p hp => by obtain ⟨s1, s2⟩ := si.own_lst (ds := []) (vs := []) hp (by rw [RVs]); exact q R _ _ (RLe.refl R) s1 s2⟩)
    · cases e
  · cases e
def bTuple : List D → Option Res
  | [d] => match d.view with
    | .lst xs => some (.val (.tup xs))
    | .tup xs => some (.val d)
    | _ => none
  | _ => none
theorem blt_tuple {X : Cx} {C : EC} : BltR X C bTuple (fun xs H Q => ∃ p ys, xs = [.ref p] ∧ ((SqL X.K H p ys ∧ ∀ l, H l = none → Q (.ref l) (upd H l (.tup ys))) ∨ (SqT X.K H p ys ∧ Q (.ref p) H))) := by
  intro σ H R S ds vs z Q eK si pk e q
  unfold bTuple at e
  split at e
  · rename_i d
    obtain ⟨x, ex, px⟩ := pk.one
    subst ex
    split at e
    · rename_i xs exs
      cases e
      obtain ⟨a, ws, e1, hh, rr⟩ := px.lst si.sub exs
      subst e1
      rw [eK] at hh
      exact ⟨a, ws, rfl, .inl ⟨hh, fun l hl => by obtain ⟨R', l1, s1, s2⟩ := si.tup hl rr; exact q R' _ _ l1 s1 s2⟩⟩
    · rename_i xs exs
      cases e
      have rv : RV R .new d x := by
        rcases px with h | ⟨_, _, _, _, ed, _⟩ | ⟨_, _, _, ed, _⟩
        · exact h
        · rw [ed] at exs; cases exs
        · rw [ed] at exs; cases exs
      obtain ⟨a, ws, e1, hh, rr⟩ := rv.tup_ exs
      subst e1
      rw [eK] at hh
      exact ⟨a, ws, rfl, .inr ⟨si.sub.sqT hh, q R H _ (RLe.refl R) si rv⟩⟩
    · cases e
  · cases e
/-! ### numbers -/
def bInt : List D → Option Res
  | [d] => match d.view with
    | .int i => some (.val (.int i))
    | .bl k => some (.val (.int (if k then 1 else 0)))
    | _ => none
  | _ => none
theorem blt_int {X : Cx} {C : EC} : BltR X C bInt (fun xs H Q => (∃ i, xs = [.int i] ∧ Q (.int i) H) ∨ ∃ k, xs = [.bl k] ∧ Q (.int (if k then 1 else 0)) H) := by
  intro σ H R S ds vs z Q eK si pk e q
  unfold bInt at e
  split at e
  · rename_i d
    obtain ⟨x, ex, px⟩ := pk.one
    subst ex
    split at e
    · rename_i i ei
      cases e
      have := px.int ei
      subst this
      exact .inl ⟨i, rfl, q R H _ (RLe.refl R) si (by show RV _ _ _ _; rw [RV])⟩
    · rename_i i ei
      cases e
      have := px.bl ei
      subst this
      exact .inr ⟨i, rfl, q R H _ (RLe.refl R) si (by show RV _ _ _ _; rw [RV])⟩
    · cases e
  · cases e
def bStr : List D → Option Res
  | [d] => match d.view with
    | .int i => if i.natAbs.log2 < 1920 ∧ (toString i : Str).length ≤ sizeLine then some (.val (.str (toString i))) else none
    | _ => none
  | _ => none
theorem blt_str {X : Cx} {C : EC} : BltR X C bStr (fun xs H Q => ∃ i : Int, xs = [.int i] ∧ i.natAbs.log2 < 1920 ∧ Q (.str (toString i)) H) := by
  intro σ H R S ds vs z Q eK si pk e q
  unfold bStr at e
  split at e
  · rename_i d
    obtain ⟨x, ex, px⟩ := pk.one
    subst ex
    split at e
    · rename_i i ei
      split at e
      · rename_i hl
        cases e
        have := px.int ei
        subst this
        exact ⟨i, rfl, hl.1, q R H _ (RLe.refl R) si (by show RV _ _ _ _; rw [RV]; exact ⟨rfl, hl.2⟩)⟩
      · cases e
    · cases e
  · cases e
def bAbs : List D → Option Res
  | [d] => match d.view with
    | .int i => some (.val (.int (if i < 0 then -i else i)))
    | _ => none
  | _ => none
theorem blt_abs {X : Cx} {C : EC} : BltR X C bAbs (fun xs H Q => ∃ i, xs = [.int i] ∧ Q (.int (if i < 0 then -i else i)) H) := by
  intro σ H R S ds vs z Q eK si pk e q
  unfold bAbs at e
  split at e
  · rename_i d
    obtain ⟨x, ex, px⟩ := pk.one
    subst ex
    split at e
    · rename_i i ei
      cases e
      have := px.int ei
      subst this
      exact ⟨i, rfl, q R H _ (RLe.refl R) si (by show RV _ _ _ _; rw [RV])⟩
    · cases e
  · cases e
def bTwo (f : Int → Int → Int) : List D → Option Res
  | [a, b] => match a.view, b.view with
    | .int i, .int j => some (.val (.int (f i j)))
    | _, _ => none
  | _ => none
theorem blt_two {X : Cx} {C : EC} {f : Int → Int → Int} : BltR X C (bTwo f) (fun xs H Q => ∃ i j, xs = [.int i, .int j] ∧ Q (.int (f i j)) H) := by
  intro σ H R S ds vs z Q eK si pk e q
  unfold bTwo at e
  split at e
  · obtain ⟨x, y, ex, px, py⟩ := pk.two
    subst ex
    split at e
    · rename_i i j ei ej
      cases e
      have h1 := px.int ei
      have h2 := py.int ej
      subst h1 h2
      exact ⟨i, j, rfl, q R H _ (RLe.refl R) si (by show RV _ _ _ _; rw [RV])⟩
    · cases e
  · cases e
def maxI (i j : Int) : Int := if j > i then j else i
def minI (i j : Int) : Int := if j < i then j else i
/-! ### all, any -/
def blsOf : List D → Option (List Bool)
  | [] => some []
  | d :: ds => match d.view, blsOf ds with
    | .bl b, some bs => some (b :: bs)
    | _, _ => none
theorem bls_rv {R : RC} : ∀ {ds : List D} {vs : List V} {bs : List Bool}, RVs R ds vs → blsOf ds = some bs → vs = bs.map V.bl
  | [], vs, bs, h, e => by rw [RVs] at h; rw [blsOf] at e; cases e; exact h
  | d :: ds, vs, bs, h, e => by
    rw [RVs] at h
    obtain ⟨v, r, ev, p, q⟩ := h
    rw [blsOf] at e
    split at e
    · rename_i b bs' e1 e2
      cases e
      rw [ev, p.bl_ e1, bls_rv q e2]
      rfl
    · cases e
def bAll : List D → Option Res
  | [d] => match d.view with
    | .lst xs => (blsOf xs).map fun bs => .val (.bl (bs.all id))
    | _ => none
  | _ => none
def bAny : List D → Option Res
  | [d] => match d.view with
    | .lst xs => (blsOf xs).map fun bs => .val (.bl (bs.any id))
    | _ => none
  | _ => none
theorem blt_all {X : Cx} {C : EC} : BltR X C bAll (rAll X.K) := by
  intro σ H R S ds vs z Q eK si pk e q
  unfold bAll at e
  split at e
  · obtain ⟨x, ex, px⟩ := pk.one
    subst ex
    split at e
    · rename_i xs exs
      cases eb : blsOf xs with
      | none => rw [eb] at e; cases e
      | some bs =>
        rw [eb] at e
        cases e
        obtain ⟨a, ws, e1, hh, rr⟩ := px.lst si.sub exs
        subst e1
        rw [eK, bls_rv rr eb] at hh
        exact ⟨a, bs, rfl, hh, q R H _ (RLe.refl R) si (by show RV _ _ _ _; rw [RV])⟩
    · cases e
  · cases e
theorem blt_any {X : Cx} {C : EC} : BltR X C bAny (rAny X.K) := by
  intro σ H R S ds vs z Q eK si pk e q
  unfold bAny at e
  split at e
  · obtain ⟨x, ex, px⟩ := pk.one
    subst ex
    split at e
    · rename_i xs exs
      cases eb : blsOf xs with
      | none => rw [eb] at e; cases e
      | some bs =>
        rw [eb] at e
        cases e
        obtain ⟨a, ws, e1, hh, rr⟩ := px.lst si.sub exs
        subst e1
        rw [eK, bls_rv rr eb] at hh
        exact ⟨a, bs, rfl, hh, q R H _ (RLe.refl R) si (by show RV _ _ _ _; rw [RV])⟩
    · cases e
  · cases e
end Ev
namespace Ev
open PySem PySem.Spec PyProof.Rows L2
/-! ## 21. isinstance -/
def D.ty (d : D) : Option String :=
  match d.view with
  | .non => some "NoneType"
  | .bl _ => some "bool"
  | .int _ => some "int"
  | .str _ => some "str"
  | .lst _ => some "list"
  | .tup _ => some "tuple"
  | .dct _ => some "dict"
  | _ => none
def subTy (t T : String) : Bool := t == T || (t == "bool" && T == "int")
def kinds : List String := ["NoneType", "bool", "int", "str", "list", "tuple", "dict"]
theorem kinds_ok : (kinds.all fun t => kinds.all fun T => T == "NoneType" || decide (kitB t T = some (subTy t T))) = true := by decide +kernel
theorem kinds_at {t T : String} (h : t ∈ kinds) (hT : T ∈ kinds) (hn : T ≠ "NoneType") : kitB t T = some (subTy t T) := by
  have h1 := List.all_eq_true.mp kinds_ok t h
  have h2 := List.all_eq_true.mp h1 T hT
  simpa [hn] using h2
theorem D.ty_mem {d : D} {t : String} (h : d.ty = some t) : t ∈ kinds := by
  unfold D.ty at h
  split at h <;> first | (cases h; simp [kinds]) | cases h
/-- isinstance(x, (T, ..)) -/
def isIn (d : D) (Ts : List String) : Option Bool := d.ty.map fun t => Ts.any fun T => subTy t T
theorem dct_at {R : RC} {S : SS} {σ : L2.St} {H : Hp} {d : D} {v : V} {kvs : List (DK × D)} (si : SI R S σ H) (p : Pk R H d v) (e : d.view = .dct kvs) : ∃ a, v = .ref a ∧ ((∃ l, H a = some (.dK l)) ∨ (∃ o l, H a = some (.frz o (.dK l))) ∨ ∃ l, H a = some (.dT l)) := by
  rcases p with h | ⟨a, ys, vs, ev, ed, hh, r⟩ | ⟨a, kvs', ev, ed, q⟩
  · obtain ⟨a, ev, q⟩ := h.dct_ e
    refine ⟨a, ev, ?_⟩
    rcases q with ⟨l, q, r⟩ | ⟨l, q, r⟩
    · rcases si.sub.rd q with z | ⟨o, z⟩
      · exact .inl ⟨l, z⟩
      · exact .inr (.inl ⟨o, l, z⟩)
    · exact .inr (.inr ⟨l, si.sub.at q⟩)
  · rw [ed] at e; cases e
  · refine ⟨a, ev, ?_⟩
    rcases q with ⟨l, q, _⟩ | ⟨l, q, _⟩
    · exact .inl ⟨l, q⟩
    · exact .inr (.inr ⟨l, q⟩)
theorem SqL.tyx {K : PySem.W.Frag} {H : Hp} {a : Addr} {vs : List V} (h : SqL K H a vs) : TyX K H (.ref a) (.type "list") := by
  rcases h with (h | ⟨o, h⟩) | ⟨o, its, n, hk, hc, _⟩
  · exact .base (.lst h)
  · exact .base (.frz h)
  · exact .kList hk hc
theorem SqT.tyx {K : PySem.W.Frag} {H : Hp} {a : Addr} {vs : List V} (h : SqT K H a vs) : TyX K H (.ref a) (.type "tuple") := by
  rcases h with (h | ⟨o, h⟩) | ⟨o, its, n, hk, hc, _⟩
  · exact .base (.tup h)
  · exact .fTuple h
  · exact .kTuple hk hc
theorem ty_tyx {R : RC} {S : SS} {σ : L2.St} {H : Hp} {d : D} {v : V} {t : String} (si : SI R S σ H) (p : Pk R H d v) (e : d.ty = some t) : TyX R.K H v (.type t) := by
  unfold D.ty at e
  split at e
  · rename_i ev; cases e; rw [p.non ev]; exact .base .non
  · rename_i b ev; cases e; rw [p.bl ev]; exact .base (.bl b)
  · rename_i b ev; cases e; rw [p.int ev]; exact .base (.int b)
  · rename_i b ev; cases e; rw [(p.str ev).1]; exact .base (.str b)
  · rename_i xs ev; cases e; obtain ⟨a, vs, ex, hh, _⟩ := p.lst si.sub ev; rw [ex]; exact SqL.tyx hh
  · rename_i xs ev; cases e; obtain ⟨a, vs, ex, hh, _⟩ := p.tup si.sub ev; rw [ex]; exact SqT.tyx hh
  · rename_i kvs ev
    cases e
    obtain ⟨a, ex, hh⟩ := dct_at si p ev
    rw [ex]
    rcases hh with ⟨l, hh⟩ | ⟨o, l, hh⟩ | ⟨l, hh⟩
    · exact .base (.dK hh)
    · exact .fDict hh
    · exact .base (.dT hh)
  · cases e
theorem kitAny_ty {K : PySem.W.Frag} {t : String} (h : t ∈ kinds) : ∀ {Ts : List String}, (∀ T ∈ Ts, T ∈ kinds ∧ T ≠ "NoneType") → PySem.W.kitAny K (.type t) (Ts.map Value.type) = some (Ts.any fun T => subTy t T)
  | [], _ => kitAny_nil
  | T :: Ts, hT => by
    have h1 := hT T List.mem_cons_self
    have ih := kitAny_ty (K := K) h (Ts := Ts) fun T' m => hT T' (List.mem_cons_of_mem _ m)
    rw [List.map_cons, List.any_cons]
    refine kitAny_cons (kit_ty (kinds_at h h1.1 h1.2)) (fun z => ?_) (fun z => ?_)
    · rw [z, Bool.false_or]; exact ih
    · rw [z, Bool.true_or]
/-- one operand: a name that is looked at, or an expression -/
def rA1 : Rel AV V := fun R _ σ _ a v => match a with
  | .sl i => σ[i]? = some (some v)
  | .dv d => RV R .new d v
def t1 (C : EC) (g : SS → Out AV) : TE := fun σ H Q => T C rA1 g σ H Q
def oNm (i : Nat) : SS → Out AV := fHas i fun S => .ok (.sl i) S
def oEx (f : SS → Out D) : SS → Out AV := fun S => (f S).bind fun d S1 => .ok (.dv d) S1
def AV.look (S : SS) : AV → Option D
  | .sl i => peek S i
  | .dv d => some d
theorem look_pk {R : RC} {S : SS} {σ : L2.St} {H : Hp} {a : AV} {v : V} {d : D} (si : SI R S σ H) (h : rA1 R S σ H a v) (e : a.look S = some d) : Pk R H d v := by
  cases a with
  | sl i =>
    obtain ⟨w, ew, pk⟩ := si.peek e
    have h : σ[i]? = some (some v) := h
    rw [h] at ew; cases ew
    exact pk
  | dv d' => cases e; exact .inl h
def fIsi (Ts : List String) (g : SS → Out AV) : SS → Out Res := fun S => (g S).bind fun a S1 => match a.look S1 with
  | some d => match isIn d Ts with
    | some b => .ok (.val (.bl b)) S1
    | none => .no
  | none => .no
/-- names of built-in types -/
inductive TyNs (X : Cx) : List Expr → List String → Prop
  | nil : TyNs X [] []
  | cons {x : Str} {T : String} {p : Pos} {es : List Expr} {Ts : List String} (hg : Gl X x) (hm : X.mg x = none) (hv : bootBuiltins x = some (.type T)) (hn : x ≠ "__name__") (hd : (x == ("__debug__" : Str)) = false) (h : TyNs X es Ts) : TyNs X (.Name x p :: es) (T :: Ts)
theorem TyNs.pa {X : Cx} {es : List Expr} {Ts : List String} (h : TyNs X es Ts) : PA X es (fun _ H Q => Q (Ts.map V.ty) H) := by
  induction h with
  | nil => exact ⟨fun pos pins s σ H Q I h => pa_nil.run pos pins s σ H Q I h⟩
  | cons hg hm hv hn hd _ ih => exact ⟨fun pos pins s σ H Q I h => (pa_cons (te := fun _ H Q => Q (.ty _) H) ⟨fun pins s σ H Q I h => ld_blt I hg hm hv ⟨.ty _, H, I, rfl, h⟩ hn hd⟩ ih (starEach_plain rfl)).run pos pins s σ H Q I h⟩
theorem paired_ty : ∀ Ts : List String, Paired ClsV (Ts.map V.ty) (Ts.map Value.type)
  | [] => .nil
  | T :: Ts => .cons (.ty T) (paired_ty Ts)
section
variable {X : Cx} {C : EC} {p pos tpos np : Pos} {e : Expr} {es : List Expr} {g : SS → Out AV} {f : SS → Out D} {Ts : List String} {x : Str} {T : String} {k i : Nat}
theorem p1_nm (hN : X.N[i]? = some x) (hv : Vis X.env.scope x) (hd : (x == ("__debug__" : Str)) = false) (hcd : (x == ("__classdict__" : Str)) = false) : PE X (.Name x np) (t1 C (oNm i)) := by
  refine ⟨fun pins s σ H Q I h => (pe_var hN hv hd hcd).run pins s σ H Q I ?_⟩
  obtain ⟨⟨v, ev⟩, R, S, b, si, p⟩ := has_run h
  exact ⟨v, ev, p R H v (RLe.refl R) si ev⟩
theorem p1_ex (h : PE X e (tD C f)) : PE X e (t1 C (oEx f)) := by
  refine ⟨fun pins s σ H Q I q => h.run pins s σ H Q I ?_⟩
  refine (seqT' (rel := rV) q).mono fun x H1 ⟨R, S, d, b, si, rd, p⟩ => ?_
  exact p R H1 x (RLe.refl R) si rd
/-- what is looked at -/
theorem isi_mid {σ : L2.St} {H : Hp} {Q : VK} (h : tE C (fIsi Ts g) σ H Q) : t1 C g σ H fun x H1 => ∃ R S1 t, Base C R ∧ SI R S1 σ H1 ∧ TyX R.K H1 x (.type t) ∧ t ∈ kinds ∧ ∀ H', SI R S1 σ H' → Q (.bl (Ts.any fun T => subTy t T)) H' := by
  refine (seqT' (rel := rA1) h).mono fun x H1 ⟨R, S1, a, b, si, ra, p⟩ => ?_
  try dsimp only at p
  cases q : a.look S1 with
  | none => rw [q] at p; exact p.elim
  | some d =>
    rw [q] at p
    dsimp only at p
    cases q2 : isIn d Ts with
    | none => rw [q2] at p; exact p.elim
    | some b' =>
      rw [q2] at p
      unfold isIn at q2
      cases q3 : d.ty with
      | none => rw [q3] at q2; cases q2
      | some t =>
        rw [q3] at q2
        cases q2
        exact ⟨R, S1, t, b, si, ty_tyx si (look_pk si ra q) q3, D.ty_mem q3, fun H' si' => p R H' _ (RLe.refl R) si' (by show RV _ _ _ _; rw [RV])⟩
theorem tyx_ext {K : PySem.W.Frag} {H H' : Hp} {v : V} {t : Value} (h : TyX K H v t) (x : ∀ a o, H a = some o → H' a = some o) : TyX K H' v t := by
  cases h with
  | base h =>
    refine .base ?_
    cases h with
    | non => exact .non
    | bl b => exact .bl b
    | int b => exact .int b
    | str b => exact .str b
    | flt b => exact .flt b
    | lst e => exact .lst (x _ _ e)
    | frz e => exact .frz (x _ _ e)
    | tup e => exact .tup (x _ _ e)
    | dK e => exact .dK (x _ _ e)
    | dT e => exact .dT (x _ _ e)
    | ins e cl ha hn htk hm => exact .ins (x _ _ e) cl ha hn htk hm
  | byt b => exact .byt b
  | set e => exact .set (x _ _ e)
  | kList e c => exact .kList e c
  | kTuple e c => exact .kTuple e c
  | kDict e c => exact .kDict e c
  | fTuple e => exact .fTuple (x _ _ e)
  | fDict e => exact .fDict (x _ _ e)
theorem pe_fIsi1 (hK : X.K = C.G.K) (hg : Gl X "isinstance") (hm : X.mg "isinstance" = none) (ha : PE X e (t1 C g)) (ht : TyNs X [.Name x np] [T]) (hTk : T ∈ kinds ∧ T ≠ "NoneType") (hp : plainArg e = true) :
    PE X (.Call (.Name "isinstance" p) [e, .Name x np] [] pos) (tE C (fIsi [T] g)) := by
  refine pe_mono (pe_callB call_isi hg hm PyProof.Rows.boot_isinstance (pa_cons ha ht.pa (starEach_plain hp)) (by decide) (by decide) (starEach_plain hp) rfl) fun σ H Q h => ?_
  refine (isi_mid h).mono fun v H1 ⟨R, S1, t, b, si, ty, hk, q⟩ => ?_
  refine ⟨v, .ty T, .type t, .type T, subTy t T, rfl, .ty T, by rw [← b.K.trans hK.symm]; exact ty, kit_ty (kinds_at hk hTk.1 hTk.2), ?_⟩
  have := q H1 si
  simpa using this
theorem pe_fIsiT (hK : X.K = C.G.K) (hg : Gl X "isinstance") (hm : X.mg "isinstance" = none) (ha : PE X e (t1 C g)) (ht : TyNs X es Ts) (hTk : ∀ T ∈ Ts, T ∈ kinds ∧ T ≠ "NoneType") (hl : Ts.length ≤ sizeLine) (hp : plainArg e = true) :
    PE X (.Call (.Name "isinstance" p) [e, .Tuple es k tpos] [] pos) (tE C (fIsi Ts g)) := by
  refine pe_mono (pe_callB call_isiT hg hm PyProof.Rows.boot_isinstance (pa_cons ha (pa_cons (pe_tup ht.pa) pa_nil (starEach_plain rfl)) (starEach_plain hp)) (by decide) (by decide) (starEach_plain hp) rfl) fun σ H Q h => ?_
  refine (isi_mid h).mono fun v H1 ⟨R, S1, t, b, si, ty, hk, q⟩ => ?_
  refine ⟨by rw [List.length_map]; exact hl, fun tp htp => ?_⟩
  refine ⟨v, tp, Ts.map V.ty, .type t, Ts.map Value.type, Ts.any fun T => subTy t T, rfl, upd_same, paired_ty Ts, ?_, kitAny_ty hk hTk, q _ (si.alloc htp)⟩
  rw [← b.K.trans hK.symm]
  exact tyx_ext ty (updExt htp)
end
end Ev
namespace Ev
open PySem PySem.Spec PyProof.Rows L2
/-! ## 22. what is changed in place -/
/-- the object at a is o -/
def ObAt (R : RC) (H : Hp) (o : Ob) (a : Addr) : Prop :=
  match o with
  | .lst ds => ∃ vs, H a = some (.lst vs) ∧ RVs R ds vs
  | .dct kvs => (∃ l, H a = some (.dK l) ∧ RVk R kvs l) ∨ ∃ l, H a = some (.dT l) ∧ RVt R kvs l
def mget (S : SS) (i : Nat) : Option Ob :=
  match S.dl[i]? with
  | some (.own o) => some o
  | some (.val (.ref k)) => S.om[k]?
  | _ => none
def mput (S : SS) (i : Nat) (o : Ob) : SS :=
  match S.dl[i]? with
  | some (.own _) => { S with dl := S.dl.set i (.own o) }
  | some (.val (.ref k)) => { S with om := S.om.set k o }
  | _ => S
section
variable {R : RC} {S : SS} {σ : L2.St} {H : Hp} {i : Nat} {o : Ob} {a : Addr}
theorem ObAt.nt {u : HO} (h : ObAt R H o a) (e : H a = some u) : ∀ ps, u ≠ .tbl ps := fun ps z => by
  cases o with
  | lst ds => obtain ⟨vs, q, _⟩ := h; rw [e, z] at q; cases q
  | dct kvs => rcases h with ⟨ll, q, _⟩ | ⟨ll, q, _⟩ <;> (rw [e, z] at q; cases q)
theorem ObAt.there (h : ObAt R H o a) : ∃ u, H a = some u := by
  cases o with
  | lst ds => obtain ⟨vs, e, _⟩ := h; exact ⟨_, e⟩
  | dct kvs => rcases h with ⟨l, e, _⟩ | ⟨l, e, _⟩ <;> exact ⟨_, e⟩
/-- a slot's own object written anew -/
theorem SI.setOwn (si : SI R S σ H) (e : S.dl[i]? = some (.own o)) (ea : σ[i]? = some (some (.ref a))) {u : HO} {o' : Ob} (h' : ObAt R (upd H a u) o' a) : SI R { S with dl := S.dl.set i (.own o') } σ (upd H a u) := by
  obtain ⟨a', e1, w⟩ := si.own i o e
  rw [ea] at e1; cases e1
  have hl : i < S.dl.length := by
    by_cases q : i < S.dl.length
    · exact q
    · rw [List.getElem?_eq_none (by simpa using q)] at e; cases e
  have ap : ∀ {j : Nat} {b : Addr}, Owns S σ j b → j ≠ i → b ≠ a := fun {j b} ow hj z => hj (si.disj j i a (by rw [← z]; exact ow) ⟨⟨o, e⟩, ea⟩)
  have old : ∀ {j : Nat} {s : Slot}, j ≠ i → ({ S with dl := S.dl.set i (.own o') } : SS).dl[j]? = some s → S.dl[j]? = some s := fun {j s} h q => by
    have q : (S.dl.set i (.own o'))[j]? = some s := q
    rw [List.getElem?_set_ne (Ne.symm h)] at q; exact q
  have at_i : ∀ {s : Slot}, ({ S with dl := S.dl.set i (.own o') } : SS).dl[i]? = some s → s = .own o' := fun {s} q => by
    have q : (S.dl.set i (.own o'))[i]? = some s := q
    rw [List.getElem?_set_self hl] at q; cases q; rfl
  have ow : ∀ {j : Nat} {b : Addr}, Owns { S with dl := S.dl.set i (.own o') } σ j b → Owns S σ j b := fun {j b} ⟨⟨o2, q⟩, q2⟩ => by
    by_cases hj : j = i
    · subst hj; exact ⟨⟨o, e⟩, q2⟩
    · exact ⟨⟨o2, old hj q⟩, q2⟩
  obtain ⟨u0, hu0⟩ := w.there
  have nt0 : ∀ ps, u0 ≠ .tbl ps := ObAt.nt (o := o) (R := R) (a := a) (by obtain ⟨_, _, _, w4⟩ := w; exact w4) hu0
  have nref : ∀ k, R.sp k ≠ some a := fun k q => si.rno k a q i ⟨⟨o, e⟩, ea⟩
  refine { len := by simpa using si.len, sub0 := fun b o2 q => ?_, lkz := si.lkz, l0 := si.l0, nfz := si.nfz, z0 := si.z0, new := si.new, ntb := si.ntb, tb := ⟨fun b ps q => ?_, fun p hp => (si.tb.2 p hp).mono (fun ps z => by rw [upd_ne (fun y => by rw [y, hu0] at z; cases z; exact nt0 _ rfl)]; exact z) fun _ _ z => z⟩, keep := fun b o2 q n t => ?_, dom := fun b q => ?_, oldd := si.oldd, val := fun j d q => ?_, own := fun j o2 q => ?_, disj := fun j k b h1 h2 => si.disj j k b (ow h1) (ow h2), ref := fun k o2 q => ?_, rlt := si.rlt, rfr := si.rfr, rs0 := si.rs0, rno := fun k b q j h => si.rno k b q j (ow h), rinj := si.rinj, lbl := si.lbl }
  · rw [upd_ne (fun z => by rw [z, w.2.2.1] at q; cases q)]; exact si.sub0 b o2 q
  · obtain ⟨m, q2⟩ := si.tb.1 b ps q
    exact ⟨m, by rw [upd_ne (fun z => by rw [z, w.2.1] at q; cases q)]; exact q2⟩
  · rw [upd_ne (fun z => by rw [z, w.2.1] at q; cases q)]; exact si.keep b o2 q n t
  · by_cases h : b = a
    · subst h; rw [upd_same] at q; cases q
    · rw [upd_ne h] at q; exact si.dom b q
  · have hj : j ≠ i := fun z => by subst z; have := at_i q; cases this
    exact si.val j d (old hj q)
  · by_cases hj : j = i
    · subst hj
      have := at_i q
      cases this
      exact ⟨a, ea, w.1, w.2.1, w.2.2.1, h'⟩
    · obtain ⟨b, e1, w2⟩ := si.own j o2 (old hj q)
      have hb := ap ⟨⟨o2, old hj q⟩, e1⟩ hj
      exact ⟨b, e1, w2.mono (RLe.refl R) w2.2.2.1 (upd_ne hb)⟩
  · obtain ⟨b, e1, w2⟩ := si.ref k o2 q
    have hb : b ≠ a := fun z => nref k (by rw [← z]; exact e1)
    exact ⟨b, e1, w2.mono (RLe.refl R).v w2.1 (upd_ne hb)⟩
/-- a shared object written anew -/
theorem SI.setRef (si : SI R S σ H) {k : Nat} (e : S.om[k]? = some o) (ea : R.sp k = some a) {u : HO} {o' : Ob} (h' : ObAt R (upd H a u) o' a) : SI R { S with om := S.om.set k o' } σ (upd H a u) := by
  obtain ⟨a', e1, w⟩ := si.ref k o e
  rw [ea] at e1; cases e1
  have hl : k < S.om.length := si.rlt k a ea
  obtain ⟨u0, hu0⟩ := w.there
  have nown : ∀ {j : Nat} {b : Addr}, Owns S σ j b → b ≠ a := fun {j b} ow z => si.rno k a ea j (by rw [← z]; exact ow)
  have nt0 : ∀ ps, u0 ≠ .tbl ps := ObAt.nt (o := o) (R := R) (a := a) w.2 hu0
  have ow : ∀ {j : Nat} {b : Addr}, Owns { S with om := S.om.set k o' } σ j b → Owns S σ j b := fun h => h
  refine { len := si.len, sub0 := fun b o2 q => ?_, lkz := si.lkz, l0 := si.l0, nfz := si.nfz, z0 := si.z0, new := si.new, ntb := si.ntb, tb := ⟨fun b ps q => ?_, fun p hp => (si.tb.2 p hp).mono (fun ps z => by rw [upd_ne (fun y => by rw [y, hu0] at z; cases z; exact nt0 _ rfl)]; exact z) fun _ _ z => z⟩, keep := fun b o2 q n t => ?_, dom := fun b q => ?_, oldd := si.oldd, val := si.val, own := fun j o2 q => ?_, disj := si.disj, ref := fun j o2 q => ?_, rlt := fun j b q => by show j < (S.om.set k o').length; rw [List.length_set]; exact si.rlt j b q, rfr := si.rfr, rs0 := si.rs0, rno := si.rno, rinj := si.rinj, lbl := si.lbl }
  · rw [upd_ne (fun z => by rw [z, w.1] at q; cases q)]; exact si.sub0 b o2 q
  · obtain ⟨m, q2⟩ := si.tb.1 b ps q
    refine ⟨m, ?_⟩
    rw [upd_ne (fun z => by
      rw [z, hu0] at q2; cases q2; exact nt0 _ rfl)]; exact q2
  · have hb : b ≠ a := fun z => by
      rcases si.rfr k a ea with h1 | h1
      · exact n k (by rw [z]; exact h1)
      · rw [z, h1] at q; cases q
    rw [upd_ne hb]; exact si.keep b o2 q n t
  · by_cases h : b = a
    · subst h; rw [upd_same] at q; cases q
    · rw [upd_ne h] at q; exact si.dom b q
  · obtain ⟨b, e1, w2⟩ := si.own j o2 q
    have hb := nown ⟨⟨o2, q⟩, e1⟩
    exact ⟨b, e1, w2.mono (RLe.refl R) w2.2.2.1 (upd_ne hb)⟩
  · have q : (S.om.set k o')[j]? = some o2 := q
    by_cases hj : j = k
    · subst hj
      rw [List.getElem?_set_self hl] at q; cases q
      exact ⟨a, ea, w.1, h'⟩
    · rw [List.getElem?_set_ne (Ne.symm hj)] at q
      obtain ⟨b, e1, w2⟩ := si.ref j o2 q
      have hb : b ≠ a := fun z => hj (si.rinj j k a (by rw [← z]; exact e1) ea)
      exact ⟨b, e1, w2.mono (RLe.refl R).v w2.1 (upd_ne hb)⟩
theorem SI.mut (si : SI R S σ H) (e : mget S i = some o) : ∃ a, σ[i]? = some (some (.ref a)) ∧ ObAt R H o a ∧ ∀ {u : HO} {o' : Ob}, ObAt R (upd H a u) o' a → SI R (mput S i o') σ (upd H a u) := by
  unfold mget at e
  split at e
  · rename_i o2 es
    cases e
    obtain ⟨a, ea, w⟩ := si.own i _ es
    refine ⟨a, ea, by obtain ⟨_, _, _, w4⟩ := w; exact w4, fun {u o'} h' => ?_⟩
    unfold mput
    rw [es]
    exact si.setOwn es ea h'
  · rename_i k es
    obtain ⟨v, ev, rv⟩ := si.val i _ es
    rw [RV] at rv
    obtain ⟨a, ea, ek⟩ := rv
    subst ea
    obtain ⟨a', ea', w⟩ := si.ref k _ e
    rw [ek] at ea'; cases ea'
    refine ⟨a, ev, w.2, fun {u o'} h' => ?_⟩
    unfold mput
    rw [es]
    exact si.setRef e ek h'
  · cases e
end
/-! ### methods of lists -/
def onLst (S : SS) (i : Nat) : Bool :=
  match mget S i with
  | some (.lst _) => true
  | _ => false
/-- x.name(args), x's list changed by f -/
def fMth (i : Nat) (f : List D → List D → Option (D × List D)) (g : SS → Out (List D)) : SS → Out Res := fun S => if onLst S i = true then (g S).bind fun as S1 => match mget S1 i with
  | some (.lst xs) => match f xs as with
    | some (d, ys) => .ok (.val d) (mput S1 i (.lst ys))
    | none => .no
  | _ => .no else .no
def MthR (K : PySem.W.Frag) (f : List D → List D → Option (D × List D)) (r : V → List V → Hp → VK → Prop) : Prop := ∀ (H : Hp) (R : RC) (a : Addr) (xs : List D) (vs : List V) (as : List D) (ws : List V) (d : D) (ys : List D) (Q : VK), R.K = K → Sub R.Hz H → H a = some (.lst vs) → RVs R xs vs → RVs R as ws → f xs as = some (d, ys) →
  (∀ x vs', RV R .new d x → RVs R ys vs' → Q x (upd H a (.lst vs'))) → r (.ref a) ws H Q
section
variable {X : Cx} {C : EC} {i : Nat} {x : Str} {np apos cpos : Pos} {name : Str} {id : String} {e : Expr} {es : List Expr} {f : List D → List D → Option (D × List D)} {r : V → List V → Hp → VK → Prop} {g : SS → Out (List D)}
theorem mth_mid (hK : X.K = C.G.K) (hr : MthR X.K f r) {σ : L2.St} {H : Hp} {Q : VK} (h : tE C (fMth i f g) σ H Q) : ∃ a, σ[i]? = some (some (.ref a)) ∧ (∃ vs, H a = some (.lst vs)) ∧ tA C g σ H fun ws H1 => r (.ref a) ws H1 Q := by
  obtain ⟨R, S, b, si, p⟩ := h
  unfold fMth at p
  split at p
  case isFalse => exact p.elim
  rename_i hon
  unfold onLst at hon
  split at hon
  case h_2 => cases hon
  rename_i xs0 e0
  obtain ⟨a, ea, ⟨vs0, hv0, _⟩, _⟩ := si.mut e0
  refine ⟨a, ea, ⟨vs0, hv0⟩, ?_⟩
  refine (seqT (rel := rVs) b si p).mono fun ws H1 ⟨R1, S1, as, l, b1, s1, ras, p1⟩ => ?_
  split at p1
  case h_2 => exact p1.elim
  rename_i xs e1
  obtain ⟨a', ea', ⟨vs, hv, rx⟩, put⟩ := s1.mut e1
  rw [ea] at ea'; cases ea'
  split at p1
  case h_2 => exact p1.elim
  rename_i d ys ef
  exact hr H1 R1 a xs vs as ws d ys Q (b1.K.trans hK.symm) s1.sub hv rx ras ef fun x vs' rv rvs => p1 R1 _ x (RLe.refl R1) (put ⟨vs', upd_same, rvs⟩) rv
theorem pe_fMth0 (hK : X.K = C.G.K) (slot : PySem.Slot "list" name id) (hty : typeOf (.builtin id) = pure (.type "method_descriptor")) (hm : MtR X id r) (hr : MthR X.K f r) (hN : X.N[i]? = some x) (hv : Vis X.env.scope x) (hd : (x == ("__debug__" : Str)) = false) (hcd : (x == ("__classdict__" : Str)) = false)
    (hbase : attributeBase (.Name x np) name X.env (eval (.Name x np) X.env) = eval (.Name x np) X.env) (hline : (apos.endLine == cpos.line) = true) : PE X (.Call (.Attribute (.Name x np) name apos) [] [] cpos) (tE C (fMth i f fNil)) := by
  refine pe_mono (pe_bm0 PySem.F.plainAttrs_list slot hty hm (pe_var hN hv hd hcd) hbase hline) fun σ H Q h => ?_
  obtain ⟨a, ea, ⟨vs, hvs⟩, R, S, b, si, p⟩ := mth_mid hK hr h
  exact ⟨.ref a, ea, .inl ⟨rfl, vs, SqL.of hvs⟩, p R H [] (RLe.refl R) si (by show RVs _ _ _; rw [RVs])⟩
theorem pe_fMth (hK : X.K = C.G.K) (slot : PySem.Slot "list" name id) (hty : typeOf (.builtin id) = pure (.type "method_descriptor")) (hm : MtR X id r) (hr : MthR X.K f r) (hN : X.N[i]? = some x) (hv : Vis X.env.scope x) (hd : (x == ("__debug__" : Str)) = false) (hcd : (x == ("__classdict__" : Str)) = false) (ha : PA X (e :: es) (tA C g))
    (hbase : attributeBase (.Name x np) name X.env (eval (.Name x np) X.env) = eval (.Name x np) X.env)
    (hfew : ((backTo cpos (starEach (e :: es) X.env)).all (fun x => !x.1) && (backToKw cpos (keywordEach [] X.env)).all (fun x => x.1.isSome)
      && decide ((e :: es).length + ([] : List Keyword).length + (if ([] : List Keyword).isEmpty then 0 else 1) < 30)) = true)
    (hline : (apos.endLine == cpos.line) = true) (hp : plainArg e = true) (hplain : (backTo cpos (starEach es X.env)).any (·.1) = false) :
    PE X (.Call (.Attribute (.Name x np) name apos) (e :: es) [] cpos) (tE C (fMth i f g)) := by
  refine pe_mono (pe_bm PySem.F.plainAttrs_list slot hty hm (pe_var hN hv hd hcd) ha hbase hfew hline (starEach_plain hp) hplain) fun σ H Q h => ?_
  obtain ⟨a, ea, ⟨vs, hvs⟩, h⟩ := mth_mid hK hr h
  exact ⟨.ref a, ea, .inl ⟨rfl, vs, SqL.of hvs⟩, h⟩
end
def mAppend : List D → List D → Option (D × List D)
  | xs, [d] => if xs.length < sizeLine then some (.non, xs ++ [d]) else none
  | _, _ => none
theorem mth_append {K : PySem.W.Frag} : MthR K mAppend rAppend := by
  intro H R a xs vs as ws d ys Q eK hs hv rx ra e q
  unfold mAppend at e
  split at e
  · rename_i d'
    split at e
    · rename_i hl
      cases e
      obtain ⟨y, ey, ry⟩ := ra.one
      subst ey
      exact ⟨a, vs, y, rfl, rfl, hv, by rw [rx.length]; exact hl, q _ _ (by rw [RV]) (rx.append (by rw [RVs]; exact ⟨y, [], rfl, ry, by rw [RVs]⟩))⟩
    · cases e
  · cases e
theorem RVs.dropLast {R : RC} : ∀ {ds : List D} {vs : List V}, RVs R ds vs → RVs R ds.dropLast vs.dropLast
  | [], vs, h => by rw [RVs] at h; rw [h]; simp [RVs]
  | [d], vs, h => by obtain ⟨v, e, _⟩ := h.one; rw [e]; simp [RVs]
  | d :: d2 :: ds, vs, h => by
    rw [RVs] at h
    obtain ⟨v, r, e, p, q⟩ := h
    have q' := RVs.dropLast q
    rw [RVs] at q
    obtain ⟨v2, r2, e2, _, _⟩ := q
    subst e e2
    rw [List.dropLast_cons₂, List.dropLast_cons₂, RVs]
    exact ⟨v, _, rfl, p, q'⟩
theorem RVs.erase {R : RC} : ∀ {ds : List D} {vs : List V} (k : Nat), RVs R ds vs → RVs R (ds.eraseIdx k) (vs.eraseIdx k)
  | [], vs, k, h => by rw [RVs] at h; rw [h]; simp [RVs]
  | d :: ds, vs, 0, h => by rw [RVs] at h; obtain ⟨v, r, e, p, q⟩ := h; subst e; exact q
  | d :: ds, vs, k + 1, h => by
    rw [RVs] at h
    obtain ⟨v, r, e, p, q⟩ := h
    subst e
    rw [List.eraseIdx_cons_succ, List.eraseIdx_cons_succ, RVs]
    exact ⟨v, _, rfl, p, RVs.erase k q⟩
def mPop : List D → List D → Option (D × List D)
  | xs, [] => match xs[xs.length - 1]? with
    | some d => some (d, xs.dropLast)
    | none => none
  | _, _ => none
theorem mth_pop {K : PySem.W.Frag} : MthR K mPop rPop := by
  intro H R a xs vs as ws d ys Q eK hs hv rx ra e q
  unfold mPop at e
  split at e
  · split at e
    · rename_i d' ed
      cases e
      rw [RVs] at ra
      subst ra
      obtain ⟨y, ey, ry⟩ := rx.getD ed
      exact ⟨a, vs, y, rfl, rfl, hv, by rw [rx.length]; exact ey, q _ _ ry rx.dropLast⟩
    · cases e
  · cases e
def mPopAt : List D → List D → Option (D × List D)
  | xs, [d] => match d.view with
    | .int i => if 0 ≤ i ∧ i < xs.length ∧ xs.length < 2 ^ 62 then match xs[i.toNat]? with
        | some d => some (d, xs.eraseIdx i.toNat)
        | none => none
      else none
    | _ => none
  | _, _ => none
theorem mth_popAt {K : PySem.W.Frag} : MthR K mPopAt rPopAt := by
  intro H R a xs vs as ws d ys Q eK hs hv rx ra e q
  unfold mPopAt at e
  split at e
  · rename_i d'
    split at e
    · rename_i i ei
      split at e
      · rename_i hi
        split at e
        · rename_i d2 ed
          cases e
          obtain ⟨y, ey, ry⟩ := ra.one
          subst ey
          have := ry.int_ ei
          subst this
          obtain ⟨z, ez, rz⟩ := rx.getD ed
          have hl := rx.length
          exact ⟨a, vs, i, i.toNat, z, rfl, rfl, hv, by omega, by omega, seqIndex_of hi.1 (by rw [hl]; exact hi.2.1), ez, q _ _ rz (rx.erase _)⟩
        · cases e
      · cases e
    · cases e
  · cases e
def mReverse : List D → List D → Option (D × List D)
  | xs, [] => some (.non, xs.reverse)
  | _, _ => none
theorem mth_reverse {K : PySem.W.Frag} : MthR K mReverse rReverse := by
  intro H R a xs vs as ws d ys Q eK hs hv rx ra e q
  unfold mReverse at e
  split at e
  · cases e
    rw [RVs] at ra
    subst ra
    exact ⟨a, vs, rfl, rfl, hv, q _ _ (by rw [RV]) rx.reverse⟩
  · cases e
def mExtend : List D → List D → Option (D × List D)
  | xs, [d] => if d.isRo = true then none else match d.view with
    | .lst zs => if xs.length + zs.length ≤ sizeLine then some (.non, xs ++ zs) else none
    | _ => none
  | _, _ => none
theorem mth_extend {K : PySem.W.Frag} : MthR K mExtend rExtend := by
  intro H R a xs vs as ws d ys Q eK hs hv rx ra e q
  unfold mExtend at e
  split at e
  · rename_i d'
    split at e
    · cases e
    · rename_i hr
      split at e
      · rename_i zs ez
        split at e
        · rename_i hl
          cases e
          obtain ⟨y, ey, ry⟩ := ra.one
          subst ey
          obtain ⟨b, ws', eb, hb, rz⟩ := ry.lstO ((D.lview_of (by simpa using hr)).trans ez)
          subst eb
          exact ⟨a, b, vs, ws', rfl, rfl, hv, hs.at hb, by rw [rx.length, rz.length]; exact hl, q _ _ (by rw [RV]) (rx.append rz)⟩
        · cases e
      · cases e
  · cases e
end Ev
namespace Ev
open PySem PySem.Spec PyProof.Rows L2
/-! ## 23. stores -/
def dput (kvs : List (DK × D)) (k : DK) (d : D) : List (DK × D) :=
  if (kvs.any fun kv => decide (kv.1 = k)) = true then kvs.map (fun kv => if kv.1 = k then (kv.1, d) else kv) else kvs ++ [(k, d)]
section
variable {R : RC}
theorem RVk.any {x : Key} : ∀ {kvs : List (DK × D)} {l : List (Key × V)}, RVk R kvs l → (kvs.any fun kv => decide (kv.1 = .k x)) = l.any fun kv => decide (kv.1 = x)
  | [], l, h => by rw [RVk] at h; rw [h]; rfl
  | (k, d) :: kvs, l, h => by
    rw [RVk] at h
    obtain ⟨v, y, r, e1, ⟨e2, _⟩, p, q⟩ := h
    subst e1 e2
    rw [List.any_cons, List.any_cons, RVk.any q]
    congr 1
    simp
theorem RVk.map {x : Key} {d : D} {v : V} (rv : RV R .new d v) : ∀ {kvs : List (DK × D)} {l : List (Key × V)}, RVk R kvs l → RVk R (kvs.map fun kv => if kv.1 = .k x then (kv.1, d) else kv) (l.map fun kv => if kv.1 = x then (kv.1, v) else kv)
  | [], l, h => by rw [RVk] at h; rw [h]; simp [RVk]
  | (k, d') :: kvs, l, h => by
    rw [RVk] at h
    obtain ⟨v', y, r, e1, ⟨e2, hx⟩, p, q⟩ := h
    subst e1 e2
    rw [List.map_cons, List.map_cons]
    have ih := RVk.map (x := x) rv q
    by_cases h : y = x
    · subst h
      rw [if_pos rfl, if_pos rfl, RVk]
      exact ⟨v, y, _, rfl, ⟨rfl, hx⟩, rv, ih⟩
    · rw [if_neg (by simpa using h), if_neg h, RVk]
      exact ⟨v', y, _, rfl, ⟨rfl, hx⟩, p, ih⟩
theorem RVk.snoc {x : Key} {d : D} {v : V} (rv : RV R .new d v) (hx : kOk x) : ∀ {kvs : List (DK × D)} {l : List (Key × V)}, RVk R kvs l → RVk R (kvs ++ [(.k x, d)]) (l ++ [(x, v)])
  | [], l, h => by rw [RVk] at h; rw [h, List.nil_append, List.nil_append, RVk]; exact ⟨v, x, [], rfl, ⟨rfl, hx⟩, rv, by rw [RVk]⟩
  | (k, d') :: kvs, l, h => by
    rw [RVk] at h
    obtain ⟨v', y, r, e1, ⟨e2, hy⟩, p, q⟩ := h
    subst e1 e2
    rw [List.cons_append, List.cons_append, RVk]
    exact ⟨v', y, _, rfl, ⟨rfl, hy⟩, p, RVk.snoc rv hx q⟩
theorem RVk.put {x : Key} {d : D} {v : V} (rv : RV R .new d v) (hx : kOk x) {kvs : List (DK × D)} {l : List (Key × V)} (h : RVk R kvs l) : RVk R (dput kvs (.k x) d) (putK l x v) := by
  unfold dput putK
  rw [h.any]
  split
  · exact h.map rv
  · exact h.snoc rv hx
theorem RVt.any {x : List Key} : ∀ {kvs : List (DK × D)} {l : List (List Key × V)}, RVt R kvs l → (kvs.any fun kv => decide (kv.1 = .t x)) = l.any fun kv => decide (kv.1 = x)
  | [], l, h => by rw [RVt] at h; rw [h]; rfl
  | (k, d) :: kvs, l, h => by
    rw [RVt] at h
    obtain ⟨v, y, r, e1, e2, p, q⟩ := h
    subst e1 e2
    rw [List.any_cons, List.any_cons, RVt.any q]
    congr 1
    simp
theorem RVt.map {x : List Key} {d : D} {v : V} (rv : RV R .new d v) : ∀ {kvs : List (DK × D)} {l : List (List Key × V)}, RVt R kvs l → RVt R (kvs.map fun kv => if kv.1 = .t x then (kv.1, d) else kv) (l.map fun kv => if kv.1 = x then (kv.1, v) else kv)
  | [], l, h => by rw [RVt] at h; rw [h]; simp [RVt]
  | (k, d') :: kvs, l, h => by
    rw [RVt] at h
    obtain ⟨v', y, r, e1, e2, p, q⟩ := h
    subst e1 e2
    rw [List.map_cons, List.map_cons]
    have ih := RVt.map (x := x) rv q
    by_cases h : y = x
    · subst h
      rw [if_pos rfl, if_pos rfl, RVt]
      exact ⟨v, y, _, rfl, rfl, rv, ih⟩
    · rw [if_neg (by simpa using h), if_neg h, RVt]
      exact ⟨v', y, _, rfl, rfl, p, ih⟩
theorem RVt.snoc {x : List Key} {d : D} {v : V} (rv : RV R .new d v) : ∀ {kvs : List (DK × D)} {l : List (List Key × V)}, RVt R kvs l → RVt R (kvs ++ [(.t x, d)]) (l ++ [(x, v)])
  | [], l, h => by rw [RVt] at h; rw [h, List.nil_append, List.nil_append, RVt]; exact ⟨v, x, [], rfl, rfl, rv, by rw [RVt]⟩
  | (k, d') :: kvs, l, h => by
    rw [RVt] at h
    obtain ⟨v', y, r, e1, e2, p, q⟩ := h
    subst e1 e2
    rw [List.cons_append, List.cons_append, RVt]
    exact ⟨v', y, _, rfl, rfl, p, RVt.snoc rv q⟩
theorem RVt.put {x : List Key} {d : D} {v : V} (rv : RV R .new d v) {kvs : List (DK × D)} {l : List (List Key × V)} (h : RVt R kvs l) : RVt R (dput kvs (.t x) d) (putK l x v) := by
  unfold dput putK
  rw [h.any]
  split
  · exact h.map rv
  · exact h.snoc rv
theorem key_ok {d : D} {v : V} {x : Key} (h : RV R .new d v) (e : d.key = some (.k x)) : kOk x := by
  unfold D.key at e
  split at e
  · cases e; exact True.intro
  · rename_i s es; cases e; exact (h.str_ es).2
  · split at e
    · cases e
    · rename_i xs _ _
      cases q : atoms xs with
      | none => rw [q] at e; cases e
      | some ks => rw [q] at e; cases e
  · cases e
end
/-- a store into a dict, of either kind while it is empty -/
def rSetDD : TSet := fun o i v H Q => ∃ a, o = .ref a ∧ ((∃ H', DPut H a i v H' ∧ Q H') ∨ (H a = some (.dK []) ∧ ∃ H', DPut (upd H a (.dT [])) a i v H' ∧ Q H') ∨ (H a = some (.dT []) ∧ ∃ H', DPut (upd H a (.dK [])) a i v H' ∧ Q H'))
theorem set_dd {X : Cx} (hu : X.A.units + 1 < cLine) : PSet X rSetDD := by
  intro pins s σ H o i v ov iv u Q I ro ri rv h
  obtain ⟨a, eo, h⟩ := h
  subst eo
  cases (show ov = Value.ref a from ro)
  rcases h with ⟨H', g, q⟩ | ⟨e, H', g, q⟩ | ⟨e, H', g, q⟩
  · exact d_setItem hu I g ri rv fun s' I' => ⟨H', I', q⟩
  · exact d_setItem hu (inv_dT0 I e) g ri rv fun s' I' => ⟨H', I', q⟩
  · exact d_setItem hu (inv_dK0 I e) g ri rv fun s' I' => ⟨H', I', q⟩
def rSet : TSet := fun o i v H Q => rSetL o i v H Q ∨ rSetDD o i v H Q
theorem set_any {X : Cx} (hu : X.A.units + 1 < cLine) : PSet X rSet := fun pins s σ H o i v ov iv u Q I ro ri rv h => h.elim (set_list pins s σ H o i v ov iv u Q I ro ri rv) (set_dd hu pins s σ H o i v ov iv u Q I ro ri rv)
/-- the object with v at k -/
def obSet (o : Ob) (k v : D) : Option Ob :=
  match o with
  | .lst xs => match k.view with
    | .int i => match ixN xs.length i with
      | some n => some (.lst (xs.set n v))
      | none => none
    | _ => none
  | .dct kvs => match k.key with
    | some key => if alike kvs key = true ∧ kvs.length < sizeLine then some (.dct (dput kvs key v)) else none
    | none => none
theorem RVs.set {R : RC} {d : D} {v : V} (rv : RV R .new d v) : ∀ {ds : List D} {vs : List V} (n : Nat), RVs R ds vs → RVs R (ds.set n d) (vs.set n v)
  | [], vs, n, h => by rw [RVs] at h; rw [h]; simp [RVs]
  | d' :: ds, vs, 0, h => by
    rw [RVs] at h
    obtain ⟨w, r, e, p, q⟩ := h
    subst e
    rw [List.set_cons_zero, List.set_cons_zero, RVs]
    exact ⟨v, r, rfl, rv, q⟩
  | d' :: ds, vs, n + 1, h => by
    rw [RVs] at h
    obtain ⟨w, r, e, p, q⟩ := h
    subst e
    rw [List.set_cons_succ, List.set_cons_succ, RVs]
    exact ⟨w, _, rfl, p, RVs.set rv n q⟩
theorem obSet_rule {R : RC} {H : Hp} {a : Addr} {o o' : Ob} {k v : D} {kv vv : V} {Q : Hp → Prop} (hs : Sub R.Hz H) (na : R.Hz a = none) (h : ObAt R H o a) (rk : RV R .new k kv) (rv : RV R .new v vv) (e : obSet o k v = some o') (q : ∀ u, ObAt R (upd H a u) o' a → Q (upd H a u)) : rSet (.ref a) kv vv H Q := by
  unfold obSet at e
  cases o with
  | lst xs =>
    obtain ⟨vs, hv, rx⟩ := h
    dsimp only at e
    split at e
    · rename_i i ei
      split at e
      · rename_i n en
        cases e
        have := rk.int_ ei
        subst this
        exact .inl ⟨a, vs, i, n, rfl, rfl, hv, by rw [rx.length]; exact en, q _ ⟨_, upd_same, rx.set rv n⟩⟩
      · cases e
    · cases e
  | dct kvs =>
    dsimp only at e
    cases ek : k.key with
    | none => rw [ek] at e; cases e
    | some key =>
      rw [ek] at e
      dsimp only at e
      split at e
      · rename_i hl
        cases e
        refine .inr ⟨a, rfl, ?_⟩
        have ky := key_rv rk ek
        cases key with
        | k x =>
          have ky : kv = kV x := ky
          subst ky
          have hx := key_ok rk ek
          rcases h with ⟨l, hv, rr⟩ | ⟨l, hv, rr⟩
          · exact .inl ⟨_, DPut.k hv (by rw [rr.length]; exact hl.2), q _ (.inl ⟨_, upd_same, rr.put rv hx⟩)⟩
          · obtain ⟨z1, z2⟩ := rr.alike_k hl.1
            subst z1 z2
            refine .inr (.inr ⟨hv, _, DPut.k (kvs := []) upd_same (by rw [sizeLine_eq]; exact (by decide : (0 : Nat) < 16777216)), ?_⟩)
            have e2 : ∀ u w, upd (upd H a u) a w = upd H a w := fun u w => by
              funext b
              by_cases hb : b = a
              · subst hb; rw [upd_same, upd_same]
              · rw [upd_ne hb, upd_ne hb, upd_ne hb]
            rw [e2]
            exact q _ (.inl ⟨_, upd_same, RVk.put (kvs := []) (l := []) rv hx (by rw [RVk])⟩)
        | t xs =>
          obtain ⟨b, eb, hb⟩ := ky
          subst eb
          have hba : b ≠ a := fun z => by rw [z, na] at hb; cases hb
          rcases h with ⟨l, hv, rr⟩ | ⟨l, hv, rr⟩
          · obtain ⟨z1, z2⟩ := rr.alike_t hl.1
            subst z1 z2
            refine .inr (.inl ⟨hv, _, DPut.t (kvs := []) upd_same (by rw [upd_ne hba]; exact hs.at hb) (by rw [sizeLine_eq]; exact (by decide : (0 : Nat) < 16777216)), ?_⟩)
            have e2 : ∀ u w, upd (upd H a u) a w = upd H a w := fun u w => by
              funext b
              by_cases hb : b = a
              · subst hb; rw [upd_same, upd_same]
              · rw [upd_ne hb, upd_ne hb, upd_ne hb]
            rw [e2]
            exact q _ (.inr ⟨_, upd_same, RVt.put (kvs := []) (l := []) rv (by rw [RVt])⟩)
          · exact .inl ⟨_, DPut.t hv (hs.at hb) (by rw [rr.length]; exact hl.2), q _ (.inr ⟨_, upd_same, rr.put rv⟩)⟩
      · cases e
/-- x[k] = v -/
def fStore (i : Nat) (fk fv : SS → Out D) : SS → Out Fl := fun S => (fv S).bind fun v S1 => if (mget S1 i).isSome = true then (fk S1).bind fun k S2 => match mget S2 i with
  | some o => match obSet o k v with
    | some o' => .ok .nx (mput S2 i o')
    | none => .no
  | none => .no else .no
theorem SI.mutZ {R : RC} {S : SS} {σ : L2.St} {H : Hp} {i : Nat} {o : Ob} (si : SI R S σ H) (e : mget S i = some o) : ∃ a, σ[i]? = some (some (.ref a)) ∧ R.Hz a = none ∧ ObAt R H o a ∧ ∀ {u : HO} {o' : Ob}, ObAt R (upd H a u) o' a → SI R (mput S i o') σ (upd H a u) := by
  obtain ⟨a, ea, ho, put⟩ := si.mut e
  refine ⟨a, ea, ?_, ho, put⟩
  unfold mget at e
  split at e
  · rename_i o2 es
    obtain ⟨a', ea', w⟩ := si.own i _ es
    rw [ea] at ea'; cases ea'
    exact w.2.2.1
  · rename_i k es
    obtain ⟨v, ev, rv⟩ := si.val i _ es
    rw [RV] at rv
    obtain ⟨a', e1, ek⟩ := rv
    rw [ea, e1] at ev; cases ev
    obtain ⟨a2, e2, w⟩ := si.ref k _ e
    rw [ek] at e2; cases e2
    exact w.1
  · cases e
section
variable {X : Cx} {C : EC} {i : Nat} {x : Str} {np tp pos : Pos} {k e : Expr} {fk fv : SS → Out D}
theorem ps_fStore (hu : X.A.units + 1 < cLine) (hN : X.N[i]? = some x) (hv : Vis X.env.scope x) (hd : (x == ("__debug__" : Str)) = false) (hcd : (x == ("__classdict__" : Str)) = false) (hk : PE X k (tD C fk)) (he : PE X e (tD C fv))
    (ha : ∀ v, assign (.Subscript (.Name x np) k tp) X.env v = (do
      let ov ← holding [v] (eval (.Name x np) X.env)
      let iv ← holding [v, ov] (eval k X.env)
      standAt tp
      holding [v, ov, iv] (setItem ov iv v)
      release [v, ov, iv] []))
    (hs : swapsWithSole [.Subscript (.Name x np) k tp] e pos.line X.env = pure false) (hw : swappedStores [.Subscript (.Name x np) k tp] e X.env = pure none) (h1 : (assignEach [.Subscript (.Name x np) k tp] X.env).map (·.2) = [assign (.Subscript (.Name x np) k tp) X.env]) :
    PS X (.Assign [.Subscript (.Name x np) k tp] e pos) (tS C (fStore i fk fv)) := by
  refine ps_mono (ps_asg he (pg_sub (pe_var hN hv hd hcd) hk (set_any hu) ha) hs hw h1) fun D σ H h => ?_
  refine (seqTS' (rel := rV) h).mono fun vv H1 ⟨R, S, v, b, si, rv, p⟩ => ?_
  have rv : RV R .new v vv := rv
  try dsimp only at p
  split at p
  case isFalse => exact p.elim
  rename_i hi
  obtain ⟨o0, e0⟩ := Option.isSome_iff_exists.mp hi
  obtain ⟨a, ea, _, _⟩ := si.mut e0
  refine ⟨.ref a, ea, ?_⟩
  refine (seqTS (rel := rV) b si p).mono fun kv H2 ⟨R2, S2, k', l, b2, s2, rk, p2⟩ => ?_
  have rk : RV R2 .new k' kv := rk
  try dsimp only at p2
  cases e2 : mget S2 i with
  | none => rw [e2] at p2; exact p2.elim
  | some o =>
    rw [e2] at p2
    dsimp only at p2
    cases e3 : obSet o k' v with
    | none => rw [e3] at p2; exact p2.elim
    | some o' =>
      rw [e3] at p2
      obtain ⟨a', ea', na, ho, put⟩ := s2.mutZ e2
      rw [ea] at ea'; cases ea'
      exact obSet_rule s2.sub na ho rk (rv.mono l) e3 fun u hu => p2 R2 σ _ (RLe.refl R2) (put hu)
end
/-! ### x[k] op= e, x op= e: ints -/
theorem pget_list {X : Cx} : PGet X (rIxL X.K) := by
  intro pins s σ H o i ov iv Q I ro ri h
  obtain ⟨p, xs, k, v, e1, e2, hq, he, q⟩ := h
  subst e1 e2
  cases (show ov = Value.ref p from ro)
  obtain ⟨t, rfl⟩ := ri
  obtain ⟨its, r, pl, hz⟩ := I.list hq
  obtain ⟨j, h1, h2, h3, h4, h5⟩ := atI_get he
  obtain ⟨w, ew, rw'⟩ := r.get h2
  have hl := r.length
  have hn := line63
  have fin : EP X pins σ Q w s := ⟨v, H, I, rw', q⟩
  by_cases h0 : 0 ≤ k
  · have hj : k.toNat = j := by
      rw [seqIndex_of h0 h5] at h1
      exact Option.some.inj h1
    exact wpAny_getItem_list pl.isList h0 (by omega) (by rw [hj]; simpa using ew) fin
  · have hj : (k + (its.toArray.size : Int)).toNat = j := by
      rw [seqIndex_neg (by omega) h4] at h1
      rw [List.size_toArray, ← hl]
      exact Option.some.inj h1
    exact wpAny_getItem_list_neg pl.isList (by omega) (by rw [List.size_toArray] <;> omega) (by omega) (by rw [hj]; simpa using ew) fin
theorem pget_dict {X : Cx} (hu : X.A.units + 1 < cLine) : PGet X (fun o i H Q => ∃ a v, o = .ref a ∧ DGet H a i (some v) ∧ Q v H) := by
  intro pins s σ H o i ov iv Q I ro ri h
  obtain ⟨a, v, e1, g, q⟩ := h
  subst e1
  cases (show ov = Value.ref a from ro)
  exact d_getItem hu I g ri fun w' s' I' rw' => ⟨v, H, I', rw', q⟩
def rGet (K : PySem.W.Frag) : V → V → Hp → VK → Prop := fun o i H Q => rIxL K o i H Q ∨ ∃ a v, o = .ref a ∧ DGet H a i (some v) ∧ Q v H
theorem pget_any {X : Cx} (hu : X.A.units + 1 < cLine) : PGet X (rGet X.K) := fun pins s σ H o i ov iv Q I ro ri h => h.elim (pget_list pins s σ H o i ov iv Q I ro ri) (pget_dict hu pins s σ H o i ov iv Q I ro ri)
def obGet (o : Ob) (k : D) : Option D :=
  match o with
  | .lst xs => match k.view with
    | .int i => atI xs i
    | _ => none
  | .dct kvs => match k.key with
    | some key => if alike kvs key = true then dlook kvs key else none
    | none => none
theorem obGet_rule {R : RC} {H : Hp} {K : PySem.W.Frag} {a : Addr} {o : Ob} {k d : D} {kv : V} {Q : VK} (hs : Sub R.Hz H) (h : ObAt R H o a) (rk : RV R .new k kv) (e : obGet o k = some d) (q : ∀ v, RV R .new d v → Q v H) : rGet K (.ref a) kv H Q := by
  unfold obGet at e
  cases o with
  | lst xs =>
    obtain ⟨vs, hv, rx⟩ := h
    dsimp only at e
    split at e
    · rename_i i ei
      have := rk.int_ ei
      subst this
      unfold atI at e
      cases en : ixN xs.length i with
      | none => rw [en] at e; cases e
      | some n =>
        rw [en] at e
        obtain ⟨v, ev, rv⟩ := rx.getD (show xs[n]? = some d from e)
        exact .inl ⟨a, vs, i, v, rfl, rfl, SqL.of hv, by unfold atI; rw [rx.length, en]; exact ev, q v rv⟩
    · cases e
  | dct kvs =>
    dsimp only at e
    cases ek : k.key with
    | none => rw [ek] at e; cases e
    | some key =>
      rw [ek] at e
      dsimp only at e
      split at e
      · rename_i hl
        have ky := key_rv rk ek
        right
        cases key with
        | k x =>
          have ky : kv = kV x := ky
          subst ky
          rcases h with ⟨l, hv, rr⟩ | ⟨l, hv, rr⟩
          · have := rr.look x
            rw [e] at this
            obtain ⟨v, ev, rv⟩ := this
            exact ⟨a, v, rfl, by rw [← ev]; exact DGet.k hv, q v rv⟩
          · obtain ⟨z1, z2⟩ := rr.alike_k hl
            subst z1; cases e
        | t xs =>
          obtain ⟨b, eb, hb⟩ := ky
          subst eb
          rcases h with ⟨l, hv, rr⟩ | ⟨l, hv, rr⟩
          · obtain ⟨z1, z2⟩ := rr.alike_t hl
            subst z1; cases e
          · have := rr.look xs
            rw [e] at this
            obtain ⟨v, ev, rv⟩ := this
            exact ⟨a, v, rfl, by rw [← ev]; exact DGet.t hv (hs.at hb), q v rv⟩
      · cases e
def D.toInt? (d : D) : Option Int :=
  match d.view with
  | .int i => some i
  | _ => none
/-- x[k] op= e, of ints -/
def fAugI (op : Int → Int → Int) (i : Nat) (fk fe : SS → Out D) : SS → Out Fl := fun S => if (mget S i).isSome = true then (fk S).bind fun k S1 => match (mget S1 i).bind fun o => (obGet o k).bind D.toInt? with
  | some old => (fe S1).bind fun e S2 => match e.toInt?, mget S2 i with
    | some n, some o => match obSet o k (.int (op old n)) with
      | some o' => .ok .nx (mput S2 i o')
      | none => .no
    | _, _ => .no
  | none => .no else .no
/-- x op= e, of ints -/
def fAugN (op : Int → Int → Int) (i : Nat) (fe : SS → Out D) : SS → Out Fl := fun S => match (dval S i).bind D.toInt? with
  | some old => (fe S).bind fun e S1 => match e.toInt? with
    | some n => .ok .nx (S1.put i (.val (.int (op old n))))
    | none => .no
  | none => .no
section
variable {X : Cx} {C : EC} {i : Nat} {x : Str} {np tp pos : Pos} {k e : Expr} {fk fe : SS → Out D} {op : Operator} {f : Int → Int → Int}
theorem toInt_rv {R : RC} {d : D} {v : V} {n : Int} {c : Md} (h : RV R c d v) (e : d.toInt? = some n) : v = .int n := by
  unfold D.toInt? at e
  split at e
  · rename_i i ei; cases e; exact h.int_ ei
  · cases e
theorem ps_fAugI (hu : X.A.units + 1 < cLine) (hop : PIp X op (ipI f)) (hN : X.N[i]? = some x) (hv : Vis X.env.scope x) (hd : (x == ("__debug__" : Str)) = false) (hcd : (x == ("__classdict__" : Str)) = false) (hk : PE X k (tD C fk)) (he : PE X e (tD C fe))
    (ha : ∀ ov iv new, augStore k ov iv new = (do holding [new, ov, iv] (setItem ov iv new); release [new, ov, iv] []; pure .next)) :
    PS X (.AugAssign (.Subscript (.Name x np) k tp) op e pos) (tS C (fAugI f i fk fe)) := by
  refine ps_mono (ps_augS (pe_var hN hv hd hcd) hk (pget_any hu) he hop (set_any hu) ha) fun D σ H h => ?_
  obtain ⟨R, S, b, si, p⟩ := h
  unfold fAugI at p
  split at p
  case isFalse => exact p.elim
  rename_i hi
  obtain ⟨o0, e0⟩ := Option.isSome_iff_exists.mp hi
  obtain ⟨a, ea, _, _⟩ := si.mut e0
  refine ⟨.ref a, ea, ?_⟩
  refine (seqTS (rel := rV) b si p).mono fun kv H1 ⟨R1, S1, k', l1, b1, s1, rk, p1⟩ => ?_
  have rk : RV R1 .new k' kv := rk
  split at p1
  case h_2 => exact p1.elim
  rename_i old e1
  obtain ⟨o, eo, e1⟩ := Option.bind_eq_some_iff.mp e1
  obtain ⟨d, ed, e1⟩ := Option.bind_eq_some_iff.mp e1
  obtain ⟨a', ea', ho, _⟩ := s1.mut eo
  rw [ea] at ea'; cases ea'
  refine obGet_rule s1.sub ho rk ed fun v0 rv0 => ?_
  have := toInt_rv rv0 e1
  subst this
  refine (seqTS (rel := rV) b1 s1 p1).mono fun ev H2 ⟨R2, S2, e', l2, b2, s2, re, p2⟩ => ?_
  have re : RV R2 .new e' ev := re
  split at p2
  case h_2 => exact p2.elim
  rename_i n o2 en eo2
  have := toInt_rv re en
  subst this
  refine ⟨old, n, rfl, rfl, ?_⟩
  cases e3 : obSet o2 k' (.int (f old n)) with
  | none => rw [e3] at p2; exact p2.elim
  | some o' =>
    rw [e3] at p2
    obtain ⟨a', ea', na, ho2, put⟩ := s2.mutZ eo2
    rw [ea] at ea'; cases ea'
    exact obSet_rule s2.sub na ho2 (rk.mono l2) (by rw [RV]) e3 fun u hu => p2 R2 σ _ (RLe.refl R2) (put hu)
theorem ps_fAugN (hop : PIp X op (ipI f)) (hN : X.N.Nodup) (hi : X.N[i]? = some x) (hx : Loc X.env.scope x) (he : PE X e (tD C fe)) (hf : X.fn x = true ∨ X.env.scope.names.lookup x = some .local) : PS X (.AugAssign (.Name x np) op e pos) (tS C (fAugN f i fe)) := by
  refine ps_mono (ps_aug hN hi hx he hop hf) fun D σ H h => ?_
  obtain ⟨R, S, b, si, p⟩ := h
  unfold fAugN at p
  split at p
  case h_2 => exact p.elim
  rename_i old e1
  obtain ⟨d, ed, e1⟩ := Option.bind_eq_some_iff.mp e1
  have hs : ∃ v, σ[i]? = some (some v) ∧ v = .int old := by
    unfold dval at ed
    split at ed
    · rename_i d' es
      cases ed
      obtain ⟨v, ev, rv⟩ := si.val i _ es
      exact ⟨v, ev, toInt_rv rv e1⟩
    · rename_i o es
      cases ed
      cases o with
      | lst xs => cases e1
      | dct xs => cases e1
    · cases ed
  obtain ⟨v, ev, e2⟩ := hs
  subst e2
  refine ⟨.int old, ev, ?_⟩
  refine (seqTS (rel := rV) b si p).mono fun w H1 ⟨R1, S1, e', l1, b1, s1, re, p1⟩ => ?_
  have re : RV R1 .new e' w := re
  split at p1
  case h_2 => exact p1.elim
  rename_i n en
  have := toInt_rv re en
  subst this
  exact ⟨old, n, rfl, rfl, p1 R1 _ H1 (RLe.refl R1) (s1.put (r := .val (.int (f old n))) (by show RV _ _ _ _; rw [RV]))⟩
end
end Ev
namespace Ev
open PySem PySem.Spec PyProof.Rows L2
/-! ## 24. several results at once; unpacking -/
/-- results of which each own one has a place of its own -/
def RRs (R : RC) (S : SS) (σ : L2.St) (H : Hp) : List Res → List V → Prop
  | [], xs => xs = []
  | r :: rs, xs => ∃ x ys, xs = x :: ys ∧ RR R S σ H r x ∧ RRs R S σ H rs ys ∧ ∀ o a, r = .own o → x = .ref a → ∀ (i : Nat) o' y, rs[i]? = some (.own o') → ys[i]? = some y → y ≠ .ref a
def rRs : Rel (List Res) (List V) := RRs
def tAR (C : EC) (h : SS → Out (List Res)) : TA := fun σ H Q => T C rRs h σ H Q
def hNil : SS → Out (List Res) := fun S => .ok [] S
def hCons (f : SS → Out Res) (h : SS → Out (List Res)) : SS → Out (List Res) := fun S => (f S).bind fun r S1 => (h S1).bind fun rs S2 => .ok (r :: rs) S2
section
variable {R R' : RC} {S S' : SS} {σ σ' : L2.St} {H H' : Hp} {a : Addr} {u : HO}
theorem RR.monoS {r : Res} {x : V} (h : RR R S σ H r x) (l : RLe R R') (hv : ∀ d, r = .val d → True) (ho : ∀ o b, r = .own o → x = .ref b → OwnAt R' H' o b ∧ (∀ i, ¬ Owns S' σ' i b) ∧ NoRef R' b) : RR R' S' σ' H' r x := by
  cases r with
  | val d => exact RV.mono l h
  | own o =>
    obtain ⟨b, e, w, n, ns⟩ := h
    obtain ⟨h1, h2, h3⟩ := ho o b rfl e
    exact ⟨b, e, h1, h2, h3⟩
theorem OwnAt.release {o : Ob} {b : Addr} (w : OwnAt R' H' o b) (l : RLe (holdR R a u) R') (h0 : R.H0 a = none) : OwnAt (relR R' R) H' o b ∧ b ≠ a := by
  obtain ⟨w1, w2, w3, w4⟩ := w
  have e0 : R'.H0 = upd R.H0 a u := by rw [l.rs]; rfl
  have hb : b ≠ a := fun z => by rw [z, e0, upd_same] at w2; cases w2
  refine ⟨⟨w1, by rw [e0, upd_ne hb] at w2; exact w2, w3, ?_⟩, hb⟩
  cases o with
  | lst ds => obtain ⟨vs, q, r⟩ := w4; exact ⟨vs, q, RVs.monoV relR_v r⟩
  | dct kvs =>
    rcases w4 with ⟨ll, q, r⟩ | ⟨ll, q, r⟩
    · exact .inl ⟨ll, q, RVk.monoV relR_v r⟩
    · exact .inr ⟨ll, q, RVt.monoV relR_v r⟩
end
section
variable {X : Cx} {C : EC} {e : Expr} {es : List Expr} {f : SS → Out Res} {h : SS → Out (List Res)} {pos : Pos}
theorem pa_hNil : PA X [] (tAR C hNil) := ⟨fun pos pins s σ H Q I q => pa_nil.run pos pins s σ H Q I (by
  obtain ⟨R, S, b, si, p⟩ := q
  exact p R H [] (RLe.refl R) si rfl)⟩
theorem pa_hCons (hp : plainArg e = true) (ha : PE X e (tE C f)) (hr : PA X es (tAR C h)) : PA X (e :: es) (tAR C (hCons f h)) := by
  refine ⟨fun pos pins s σ H Q I q => (pa_cons ha hr (starEach_plain hp)).run pos pins s σ H Q I ?_⟩
  refine (seqT' (rel := rR) q).mono fun x H1 ⟨R, S, r, b, si, rr, p⟩ => ?_
  have rr : RR R S σ H1 r x := rr
  cases r with
  | val d =>
    refine (seqT (rel := rRs) b si p).mono fun xs H2 ⟨R2, S2, rs, l2, b2, s2, rrs, p2⟩ => ?_
    exact p2 R2 H2 (x :: xs) (RLe.refl R2) s2 ⟨x, xs, rfl, RV.mono l2 (show RV R .new d x from rr), rrs, fun o a z => by cases z⟩
  | own o =>
    obtain ⟨a, ex, w, n, ns⟩ := rr
    subst ex
    obtain ⟨u, hu, nt, _⟩ := w.frz
    have ap : Apart R S σ a := ⟨w.2.1, w.2.2.1, w.1, n, ns⟩
    have sH := si.hold ap hu nt.1
    have bH : Base C (holdR R a u) := b
    -- the rest runs while the first result is held
    refine ⟨holdR R a u, S, bH, sH, ?_⟩
    cases q2 : h S with
    | no => rw [q2] at p; exact p
    | exc c fs S2 =>
      rw [q2] at p
      intro R' H' d l si' x
      obtain ⟨s3, _, _⟩ := SI.release si ap nt.1 l si'
      obtain ⟨dx, vs, fl, e1, e2, e3, e4⟩ := x
      exact p (relR R' R) H' d (relR_le l) s3 ⟨dx, vs, fl, e1, e2, RVs.monoV relR_v e3, e4⟩
    | ok rs S2 =>
      rw [q2] at p
      intro R' H' xs l si' rrs
      obtain ⟨s3, hu', ap'⟩ := SI.release si ap nt.1 l si'
      have l' := relR_le l
      have key : ∀ {rs : List Res} {xs : List V}, RRs R' S2 σ H' rs xs → RRs (relR R' R) S2 σ H' rs xs ∧ ∀ (i : Nat) o' y, rs[i]? = some (.own o') → xs[i]? = some y → y ≠ .ref a := by
        intro rs
        induction rs with
        | nil => intro xs h; exact ⟨h, fun i o' y z => by cases z⟩
        | cons r rs ih =>
          intro xs h
          obtain ⟨x, ys, ex, h1, h2, h3⟩ := h
          obtain ⟨k1, k2⟩ := ih h2
          have hr : RR (relR R' R) S2 σ H' r x ∧ (∀ o', r = .own o' → x ≠ .ref a) := by
            cases r with
            | val d => exact ⟨RV.monoV relR_v h1, fun o' z => by cases z⟩
            | own o' =>
              obtain ⟨b', eb, w', n', ns'⟩ := h1
              obtain ⟨w2, hb⟩ := w'.release l ap.h0
              exact ⟨⟨b', eb, w2, n', ns'⟩, fun o2 _ z => by rw [eb] at z; cases z; exact hb rfl⟩
          refine ⟨⟨x, ys, ex, hr.1, k1, h3⟩, fun i o' y z1 z2 => ?_⟩
          subst ex
          cases i with
          | zero => simp at z1 z2; subst z1 z2; exact hr.2 o' rfl
          | succ i => simp at z1 z2; exact k2 i o' y z1 z2
      obtain ⟨k1, k2⟩ := key rrs
      have hw : OwnAt (relR R' R) H' o a := by
        obtain ⟨w1, w2, w3, w4⟩ := w
        refine ⟨ap'.old, ap'.h0, ap'.hz, ?_⟩
        cases o with
        | lst ds =>
          obtain ⟨vs, q, r⟩ := w4
          rw [hu] at q; cases q
          exact ⟨vs, hu', RVs.mono l' r⟩
        | dct kvs =>
          rcases w4 with ⟨ll, q, r⟩ | ⟨ll, q, r⟩
          · rw [hu] at q; cases q
            exact .inl ⟨ll, hu', RVk.mono l' r⟩
          · rw [hu] at q; cases q
            exact .inr ⟨ll, hu', RVt.mono l' r⟩
      exact p (relR R' R) H' (.ref a :: xs) l' s3 ⟨.ref a, xs, rfl, ⟨a, rfl, hw, ap'.own, ap'.ref⟩, k1, fun o2 a2 _ ea i o' y z1 z2 => by cases ea; exact k2 i o' y z1 z2⟩
end
/-- results stored one after another -/
def putRs : List Nat → List Res → SS → SS
  | i :: is, r :: rs, S => putRs is rs (S.put i r)
  | _, _, S => S
def setVs : List Nat → List V → L2.St → L2.St
  | i :: is, x :: xs, σ => setVs is xs (σ.set i (some x))
  | _, _, σ => σ
theorem SI.putRs {R : RC} {H : Hp} : ∀ {is : List Nat} {rs : List Res} {xs : List V} {S : SS} {σ : L2.St}, SI R S σ H → RRs R S σ H rs xs → SI R (putRs is rs S) (setVs is xs σ) H
  | [], rs, xs, S, σ, si, _ => by unfold Ev.putRs setVs; exact si
  | i :: is, [], xs, S, σ, si, h => by rw [show xs = [] from h]; exact si
  | i :: is, r :: rs, xs, S, σ, si, ⟨x, ys, ex, h1, h2, h3⟩ => by
    subst ex
    have s1 := si.put (i := i) h1
    refine SI.putRs (is := is) (rs := rs) (xs := ys) s1 ?_
    -- the others are not what was just stored
    have key : ∀ {rs : List Res} {ys : List V}, RRs R S σ H rs ys → (∀ o a, r = .own o → x = .ref a → ∀ (j : Nat) o' y, rs[j]? = some (.own o') → ys[j]? = some y → y ≠ .ref a) → RRs R (S.put i r) (σ.set i (some x)) H rs ys := by
      intro rs
      induction rs with
      | nil => intro ys h _; exact h
      | cons r' rs ih =>
        intro ys h hd
        obtain ⟨x', zs, ez, k1, k2, k3⟩ := h
        subst ez
        refine ⟨x', zs, rfl, ?_, ih k2 fun o a e1 e2 j o' y z1 z2 => hd o a e1 e2 (j + 1) o' y (by simpa using z1) (by simpa using z2), k3⟩
        cases r' with
        | val d => exact k1
        | own o' =>
          obtain ⟨b, eb, w, n, ns⟩ := k1
          refine ⟨b, eb, w, fun j ow => ?_, ns⟩
          by_cases hj : j = i
          · subst hj
            obtain ⟨⟨o2, q1⟩, q2⟩ := ow
            have q1 : (S.dl.set j r.slot)[j]? = some (Slot.own o2) := q1
            have hl : j < S.dl.length := by
              by_cases q : j < S.dl.length
              · exact q
              · rw [List.getElem?_eq_none (by simpa using q)] at q1; cases q1
            rw [List.getElem?_set_self hl] at q1
            rw [List.getElem?_set_self (by rw [← si.len]; exact hl)] at q2
            cases r with
            | val d => cases q1
            | own o3 =>
              have ex : x = .ref b := by cases q2; rfl
              exact hd o3 b rfl ex 0 o' x' rfl rfl eb
          · exact n j (Owns.of_set_other ow hj)
    exact key h2 h3
def fPar (is : List Nat) (h : SS → Out (List Res)) : SS → Out Fl := fun S => (h S).bind fun rs S1 => if rs.length = is.length then .ok .nx (putRs is rs S1) else .no
/-- (a, b, ..) = e -/
def fUnp (t : Tg) (f : SS → Out D) : SS → Out Fl := fun S => (f S).bind fun d S1 => match t.put d S1 with
  | some S2 => .ok .nx S2
  | none => .no
theorem RRs.length {R : RC} {S : SS} {σ : L2.St} {H : Hp} : ∀ {rs : List Res} {xs : List V}, RRs R S σ H rs xs → xs.length = rs.length
  | [], xs, h => by rw [show xs = [] from h]; rfl
  | r :: rs, xs, ⟨x, ys, e, _, h, _⟩ => by rw [e]; simp [RRs.length h]
section
variable {X : Cx} {C : EC} {i j l : Nat} {x y z : Str} {a b c e tg : Expr} {h : SS → Out (List Res)} {px py pz pt pos pt2 : Pos} {kt k2 : Nat} {t : Tg} {f : SS → Out D}
theorem ps_fPar2 (hc : X.calm = true) (hN : X.N.Nodup) (hi : X.N[i]? = some x) (hj : X.N[j]? = some y) (hij : i ≠ j) (hx : X.env.scope.names.lookup x = some .local) (hy : X.env.scope.names.lookup y = some .local) (ha : PA X [a, b] (tAR C h))
    (hw : swappedStores [.Tuple [.Name x px, .Name y py] kt pt] (.Tuple [a, b] k2 pt2) X.env = pure (some [x, y])) (hs : swapsWithSole [.Tuple [.Name x px, .Name y py] kt pt] (.Tuple [a, b] k2 pt2) pos.line X.env = pure false) :
    PS X (.Assign [.Tuple [.Name x px, .Name y py] kt pt] (.Tuple [a, b] k2 pt2) pos) (tS C (fPar [i, j] h)) := by
  refine ps_mono (ps_par hc hN hi hj hij hx hy ha hw hs) fun D σ H q => ?_
  refine (seqTS' (rel := rRs) q).mono fun vs H1 ⟨R, S, rs, b, si, rr, p⟩ => ?_
  have rr : RRs R S σ H1 rs vs := rr
  try dsimp only at p
  split at p
  case isFalse => exact p.elim
  rename_i hl
  have hl2 := rr.length
  match vs, hl2, hl with
  | [v, w], _, _ => exact ⟨v, w, rfl, p R _ H1 (RLe.refl R) (SI.putRs (is := [i, j]) si rr)⟩
  | [], hl2, hl => simp at hl hl2; omega
  | [v], hl2, hl => simp at hl hl2; omega
  | v :: w :: u :: r, hl2, hl => simp at hl hl2; omega
theorem ps_fPar3 (hc : X.calm = true) (hN : X.N.Nodup) (hi : X.N[i]? = some x) (hj : X.N[j]? = some y) (hl : X.N[l]? = some z) (hij : i ≠ j) (hil : i ≠ l) (hjl : j ≠ l)
    (hx : X.env.scope.names.lookup x = some .local) (hy : X.env.scope.names.lookup y = some .local) (hz : X.env.scope.names.lookup z = some .local) (ha : PA X [a, b, c] (tAR C h))
    (hw : swappedStores [.Tuple [.Name x px, .Name y py, .Name z pz] kt pt] (.Tuple [a, b, c] k2 pt2) X.env = pure (some [x, y, z])) (hs : swapsWithSole [.Tuple [.Name x px, .Name y py, .Name z pz] kt pt] (.Tuple [a, b, c] k2 pt2) pos.line X.env = pure false) :
    PS X (.Assign [.Tuple [.Name x px, .Name y py, .Name z pz] kt pt] (.Tuple [a, b, c] k2 pt2) pos) (tS C (fPar [i, j, l] h)) := by
  refine ps_mono (ps_par3 hc hN hi hj hl hij hil hjl hx hy hz ha hw hs) fun D σ H q => ?_
  refine (seqTS' (rel := rRs) q).mono fun vs H1 ⟨R, S, rs, b, si, rr, p⟩ => ?_
  have rr : RRs R S σ H1 rs vs := rr
  try dsimp only at p
  split at p
  case isFalse => exact p.elim
  rename_i hl
  have hl2 := rr.length
  match vs, hl2, hl with
  | [v, w, u], _, _ => exact ⟨v, w, u, rfl, p R _ H1 (RLe.refl R) (SI.putRs (is := [i, j, l]) si rr)⟩
  | [], hl2, hl => simp at hl hl2; omega
  | [v], hl2, hl => simp at hl hl2; omega
  | [v, w], hl2, hl => simp at hl hl2; omega
  | v :: w :: u :: u2 :: r, hl2, hl => simp at hl hl2; omega
theorem ps_fUnp (he : PE X e (tD C f)) (hg : L2.PG X tg (tG C t)) (hs : swapsWithSole [tg] e pos.line X.env = pure false) (hw : swappedStores [tg] e X.env = pure none) (h1 : (assignEach [tg] X.env).map (·.2) = [assign tg X.env]) :
    PS X (.Assign [tg] e pos) (tS C (fUnp t f)) := by
  refine ps_mono (ps_asg he hg hs hw h1) fun D σ H q => ?_
  refine (seqTS' (rel := rV) q).mono fun v H1 ⟨R, S, d, b, si, rv, p⟩ => ?_
  try dsimp only at p
  cases e2 : t.put d S with
  | none => rw [e2] at p; exact p.elim
  | some S2 =>
    rw [e2] at p
    exact ⟨R, S, d, S2, b, si, rv, e2, fun R' σ' l si' _ => p R' σ' H1 l si'⟩
end
end Ev
namespace Ev
open PySem PySem.Spec PyProof.Rows L2
/-! ## 25. own error classes: __init__ with super().__init__(text), then stores -/
section
variable {prog : Program} {w : World} {A : Around} {E : Value → Shared → Prop} {s : Shared}
variable {nm q : Str} {C N : Addr} {bs bm : List Value} {hdct : Bool} {sn : List Str} {sub : List Value} {ab : Bool} {col : Option Bool} {dd : Option Addr} {k0 k1 k2 k3 k5 : Option Value}
open PySem.W in
/-- the bound ValueError.__init__, called -/
theorem mw_call {u e t0 : Addr} {rest : List Value} {Q : Value → Shared → Prop}
    (hC : s.heap.get? C = some (excClassObj nm q C N bs bm hdct sn sub ab col dd k0 k1 k2 k3 k5 "ValueError.__new__")) (he : s.heap.get? e = some (HandSPX.excO C t0)) (hu : s.heap.get? u = some (PySem.W.kxs_mw "ValueError.__init__" e)) (hrest : rest.length ≤ sizeLine)
    (hq : ∀ h' t1, (∀ b o, b ≠ e → s.heap.get? b = some o → h'.get? b = some o) → h'.get? e = some (HandSPX.excO C t1) → Q .none { s with heap := h' }) :
    wpAny (model prog w) A (call (.ref u) rest) Q E s := by
  obtain ⟨hh, g, d, t, os⟩ := s
  refine wpAny_call (codeAny_of_tree ?_)
  show wpAny _ A.in1 (callAny (.ref u) ⟨rest, []⟩) _ _ _
  simp only [callAny]
  refine wpAny_bind (wpAny_load hu ?_)
  simp only [PySem.W.kxs_mw, show (Value.type "method-wrapper" == Value.type "method" || Value.type "method-wrapper" == Value.type "builtin_function_or_method" || Value.type "method-wrapper" == Value.type "method-wrapper") = true by decide, if_true]
  refine KFB.if_so (by decide) ?_
  refine wpAny_bind (check_bound_init F.excBase_ValueError.toExcCallFacts hC he rfl ?_)
  refine wpAny_bind (wpAny_pure (wpAny_pure ?_))
  refine ⟨plainId_quiet F.excBase_ValueError.init.plain _, codeAny_builtin F.excBase_ValueError.initEntry ?_⟩
  rw [Around.under_plainId F.excBase_ValueError.init.plain _]
  wp_walk
  refine hq _ hh.objs.size (fun b o hb ho => ?_) ?_
  · rw [Heap.get?_update_other _ _ (Ne.symm hb)]
    exact Heap.get?_push_of_some _ ho
  · rw [Heap.get?_update_self _ (Heap.get?_push_of_some _ he) rfl]
    rfl
end
end Ev
namespace Ev
open PySem PySem.Spec PyProof.Rows L2
/-! ## 26. __init__ of an own error class -/
/-- self.f = f, .. -/
inductive Stores : List Stmt → List Str → Prop
  | nil : Stores [] []
  | cons {f : Str} {p1 p2 p3 p4 : Pos} {sts : List Stmt} {fs : List Str} (h : Stores sts fs) : Stores (.Assign [.Attribute (.Name "self" p1) f p2] (.Name f p3) p4 :: sts) (f :: fs)
def tSts (C : Addr) (k : Nat) (fs : List Str) : TS := fun D σ H => ∃ a ys, σ[0]? = some (some (V.ref a)) ∧ ys.length = fs.length ∧ (∀ (j : Nat) y, ys[j]? = some y → σ[k + j]? = some (some y)) ∧
  ((fs ≠ [] ∧ fs.length ≤ 900 ∧ H a = some (exo a C none) ∧ ∀ dx H2, H dx = none → dx ≠ a → H2 a = some (exo a C (some dx)) → H2 dx = some (exd dx ((fs.zip ys).reverse)) → (∀ b, b ≠ a → b ≠ dx → H2 b = H b) → D.nx σ H2) ∨
   ∃ dx l, dx ≠ a ∧ H a = some (exo a C (some dx)) ∧ H dx = some (exd dx l) ∧ l.length + fs.length ≤ 900 ∧ ∀ H2, H2 a = some (exo a C (some dx)) → H2 dx = some (exd dx ((fs.zip ys).reverse ++ l)) → (∀ b, b ≠ a → b ≠ dx → H2 b = H b) → D.nx σ H2)
theorem stores_ok {X : Cx} {C : Addr} (T : OexC X.K C) (h0 : X.N[0]? = some ("self" : Str)) (v0 : Vis X.env.scope "self") : ∀ {sts : List Stmt} {fs : List Str} {k : Nat}, Stores sts fs → (∀ (j : Nat) f, fs[j]? = some f → X.N[k + j]? = some f) →
    (∀ f ∈ fs, Vis X.env.scope f ∧ (f == ("__debug__" : Str)) = false ∧ (f == ("__classdict__" : Str)) = false ∧ PySem.W.findIn X.K (.ref C) f = some none) → PSs X sts (tSts C k fs)
  | _, _, k, .nil, hN, hf => by
    refine pss_mono pss_nil fun D σ H h => ?_
    obtain ⟨a, ys, e0, hl, hy, h⟩ := h
    rcases h with ⟨z, _⟩ | ⟨dx, l, hne, ha, hd, _, q⟩
    · exact absurd rfl z
    · exact q H ha (by rw [hd]; simp) fun _ _ _ => rfl
  | _, _, k, @Stores.cons f p1 p2 p3 p4 sts fs h, hN, hf => by
    have hf0 := hf f List.mem_cons_self
    have ih := stores_ok T h0 v0 (k := k + 1) h (fun j f' e => by rw [show k + 1 + j = k + (j + 1) by omega]; exact hN (j + 1) f' (by simpa using e)) fun f' m => hf f' (List.mem_cons_of_mem _ m)
    refine pss_mono (pss_cons (ps_ost (pe_var h0 v0 (by decide) (by decide)) (pe_var (hN 0 f rfl) hf0.1 hf0.2.1 hf0.2.2.1) rfl) ih) fun D σ H hh => ?_
    obtain ⟨a, ys, e0, hl, hy, hh⟩ := hh
    cases ys with
    | nil => simp at hl
    | cons y ys =>
      have hl : ys.length = fs.length := by simpa using hl
      refine ⟨y, hy 0 y rfl, .ref a, e0, a, C, rfl, T, hf0.2.2.2, ?_⟩
      have hy' : ∀ (j : Nat) z, ys[j]? = some z → σ[k + 1 + j]? = some (some z) := fun j z e => by rw [show k + 1 + j = k + (j + 1) by omega]; exact hy (j + 1) z (by simpa using e)
      rcases hh with ⟨_, h900, ha, q⟩ | ⟨dx, l, hne, ha, hd, hlen, q⟩
      · refine .inl ⟨ha, fun dx hdx hne => ⟨a, ys, e0, hl, hy', .inr ⟨dx, [(f, y)], hne, upd_same, by rw [upd_ne hne, upd_same], by simp at h900 ⊢; omega, fun H2 h1 h2 h3 => ?_⟩⟩⟩
        refine q dx H2 hdx hne h1 (by rw [h2]; simp) fun b hb1 hb2 => ?_
        rw [h3 b hb1 hb2, upd_ne hb1, upd_ne hb2]
      · refine .inr ⟨dx, l, ha, hd, by simp at hlen; omega, a, ys, e0, hl, hy', .inr ⟨dx, (f, y) :: l, hne, by rw [upd_ne (Ne.symm hne)]; exact ha, upd_same, by simp at hlen ⊢; omega, fun H2 h1 h2 h3 => ?_⟩⟩
        refine q H2 h1 (by rw [h2]; simp) fun b hb1 hb2 => ?_
        rw [h3 b hb1 hb2, upd_ne hb2]
/-- what the written part says of the class and of its __init__ -/
structure ExI (P : Program) (K : PySem.W.Frag) (mg : Str → Option Value) (C fI cc cda : Addr) (fs : List Str) (scope : Scope) (sts : List Stmt) (qual : Str) (fd : FuncData) : Prop where
  T : OexC K C
  iC : PySem.W.findIn K (.ref C) "__init__" = some (some (.ref fI))
  tI : PySem.W.typeIn K (.ref fI) = some (.type "function")
  fn : ∃ (params : Arguments) (doc pm ct oc : Value) (an od : Option Addr) (osl : Array (Option Value)) (p0 p1 p2 p3 p4 p5 : Pos) (m : Str) (j : Nat), fd = PySem.W.ksFn "__init__" qual params (.Expr (.Call (.Attribute (.Call (.Name "super" p0) [] [] p1) "__init__" p2) [.Constant (.str m) j p3] [] p4) p5 :: sts) scope .none .none doc pm an (.ref cda) ct cc ∧
    K.lookup fI = some ⟨oc, od, .func fd, osl⟩ ∧ (p2.endLine == p4.line) = true ∧ (∃ ar, (params.posonlyargs ++ params.args).head? = some ar ∧ ar.arg = ("self" : Str))
  code : PySem.W.codeIn K (.ref cda) qual = true
  file : ∃ (vs : Array Value) (f : Str) (tf : Tok) (ccl : Value) (cdd : Option Addr) (ccs : Array (Option Value)), K.lookup cda = some ⟨ccl, cdd, .fields vs, ccs⟩ ∧ vs[2]? = some (.str f tf) ∧ ((P.main.file : Str) == f) = true
  cell : ∃ (cl : Value) (cld : Option Addr) (csl : Array (Option Value)), K.lookup cc = some ⟨cl, cld, .cell (some (.ref C)), csl⟩
  cls : ∃ cd, PySem.W.clsIn K C = some cd
  sub : PySem.W.mroIn K C (.ref C) = some true
  sup : PySem.W.ks_superIn K C C "__init__" = some (some (.builtin "ValueError.__init__"))
  opq : PySem.W.nsIn K cStatics "thirdparty.any" = some none
  ve : PySem.W.subIn K (.ref C) (.type "ValueError") = some true
  mgs : mg "super" = none
  top : (P.main.scope.names.lookup ("super" : Str)).isSome = false
  sks : scope.names.lookup ("super" : Str) = some .globalImplicit
  skc : scope.names.lookup ("__class__" : Str) = some .free
  bind : ∀ us : List Value, us.length = (("self" : Str) :: fs).length → bindArgs fd ⟨us, []⟩ = pure ((("self" : Str) :: fs).zip us)
  loc : ∀ x ∈ (("self" : Str) :: fs), scope.names.lookup x = some .local
  kind : scope.kind = .function
  co : scope.isCoroutine = false
  gen : scope.isGenerator = false
  ncell : ∀ x ∈ scope.names, x.2 ≠ .cell
  onefree : ∀ x ∈ scope.names, x.2 = .free → x.1 = ("__class__" : Str)
  nd : (("self" : Str) :: fs).Nodup
  sts : Stores sts fs
  ne : fs ≠ []
  short : fs.length ≤ 900
  flds : ∀ f ∈ fs, (f == ("__debug__" : Str)) = false ∧ (f == ("__classdict__" : Str)) = false ∧ PySem.W.findIn K (.ref C) f = some none
/-- __init__'s promise -/
def spI (C : Addr) (fs : List Str) : Sp := fun vs H Q E => ∃ a ys, vs = .ref a :: ys ∧ ys.length = fs.length ∧ H a = some (exo a C none) ∧
  ∀ dx H2, H dx = none → dx ≠ a → H2 a = some (exo a C (some dx)) → H2 dx = some (exd dx ((fs.zip ys).reverse)) → (∀ b, b ≠ a → b ≠ dx → H2 b = H b) → Q .non H2
/-- the context of its body -/
def iniCx (P : Program) (w : World) (K : PySem.W.Frag) (mg : Str → Option Value) (base : Heap) (N : List Str) (qual : Str) (scope : Scope) (f cda cc : Addr) (A : Around) (outer : List Env) (s : Shared) (H : Hp) : Cx where
  prog := P
  w := w
  K := K
  mg := mg
  base := base
  A := A.deeper (PySem.W.ksEnv qual scope s.heap.objs.size f (.ref cda) cc)
  N := N
  s_0 := s
  H_0 := H
  env := PySem.W.ksEnv qual scope s.heap.objs.size f (.ref cda) cc
  outer := outer
  stack := PySem.W.ksEnv qual scope s.heap.objs.size f (.ref cda) cc :: outer
  ex := []
  calm := true
  fn := fun y => !(y == ("__class__" : Str))
  pn := []
  xe := fun _ _ => False
section
variable {P : Program} {w : World} {K : PySem.W.Frag} {mg : Str → Option Value} {base : Heap} {C fI cc cda : Addr} {fs : List Str} {scope : Scope} {sts : List Stmt} {qual : Str} {fd : FuncData} {A : Around} {outer : List Env} {s : Shared} {H : Hp}
theorem ini_start (x : ExI P K mg C fI cc cda fs scope sts qual fd) (hd : A.handled = none) (e0 : Env0 P w K mg base A outer s H) {us : List Value} {vs : List V} (hl : vs.length = (("self" : Str) :: fs).length) (r : Vals vs us) {h1 : Heap} {tk : Nat}
    (hns : h1.Ns s.heap.objs.size fun y => ((("self" : Str) :: fs).zip us).reverse.lookup y) (kp : ∀ b o, s.heap.get? b = some o → h1.get? b = some o) :
    Inv (iniCx P w K mg base (("self" : Str) :: fs) qual scope fI cda cc A outer s H) [] (L2.start (("self" : Str) :: fs) vs) H { s with heap := h1, toks := tk } := by
  obtain ⟨cl, cld, csl, hcell⟩ := x.cell
  have inB : ∀ {a o}, K.lookup a = some o → base.get? a = some o := fun {a o} e => e0.mod.kin a o e
  have hcs : s.heap.get? cc = some ⟨cl, cld, .cell (some (.ref C)), csl⟩ := (e0.bs _ _ (inB hcell)).1
  have clk : ∀ {y c}, ([(("__class__" : Str), cc)] : List (Str × Addr)).lookup y = some c → y = ("__class__" : Str) ∧ c = cc := fun {y c} e => by
    rw [List.lookup_cons] at e
    cases hb : y == ("__class__" : Str) with
    | true => rw [hb] at e; cases e; exact ⟨by simpa using hb, rfl⟩
    | false => rw [hb] at e; cases e
  have noA : ∀ b : Addr, b ∉ ([] : List Addr) := fun b z => nomatch z
  refine ⟨⟨e0.mod, x.kind, rfl, rfl, Nat.le_refl _, fun y z c e1 e2 => ?_, fun y hy => ?_, fun y c hf e => ?_, fun _ => hd, Around.frames_deeper e0.frames, .inr ⟨rfl, rfl⟩, fun b z => absurd z (noA b), e0.bs, e0.bsz, fun b _ _ => noA b, fun b z => absurd z (noA b), e0.funs, e0.frf⟩,
    rfl, e0.bare, Un.kept kp, ⟨_, hns, fun i y v e1 e2 e3 => ?_⟩, fun y c e => ?_, e0.hok.fresh (Nat.le_refl _), fun y c e => ?_, fun p hp => absurd (show p ∈ ([] : List (Addr × Obj)) from hp) (by simp), e0.hok.kept kp, ?_⟩
  · exact (clk e1).1.trans (clk e2).1.symm
  · have hy : scope.names.lookup y = some .cell ∨ scope.names.lookup y = some .free := hy
    rcases hy with hy | hy
    · exact absurd rfl (x.ncell _ (PySem.mem_of_lookup hy))
    · have := x.onefree _ (PySem.mem_of_lookup hy) rfl
      refine ⟨cc, ?_⟩
      show ([(("__class__" : Str), cc)] : List (Str × Addr)).lookup y = some cc
      have e : y = ("__class__" : Str) := this
      rw [e]; rfl
  · have := (clk e).1
    rw [this] at hf
    cases hf
  · have e1 : (("self" : Str) :: fs)[i]? = some y := e1
    have hi : i < vs.length := by
      unfold L2.start at e2
      by_cases hi : i < vs.length
      · exact hi
      · rw [List.getElem?_append_right (by simpa using hi), List.getElem?_replicate] at e2
        split at e2 <;> cases e2
    have ha : vs[i]? = some v := by
      unfold L2.start at e2
      rw [List.getElem?_append_left (by simpa using hi), List.getElem?_map] at e2
      cases e : vs[i]? with
      | none => rw [e] at e2; cases e2
      | some a => rw [e] at e2; cases e2; rfl
    obtain ⟨u, hu, rv⟩ := r.get ha
    refine ⟨u, rv, .inl ⟨x.loc y (List.mem_of_getElem? e1), ?_⟩⟩
    -- the binding of the i-th name
    have key : ∀ {P : List Str} {us : List Value} {i : Nat}, P.Nodup → P[i]? = some y → us[i]? = some u → (P.zip us).reverse.lookup y = some u := by
      intro P
      induction P with
      | nil => intro us i _ h _; simp at h
      | cons p P ih =>
        intro us i nd h1 h2
        cases us with
        | nil => simp at h2
        | cons w us =>
          have nd := List.nodup_cons.mp nd
          rw [List.zip_cons_cons, List.reverse_cons, List.lookup_append]
          cases i with
          | zero =>
            simp at h1 h2
            subst h1 h2
            have hn : ((P.zip us).reverse.lookup p) = none := by
              rw [List.lookup_eq_none_iff]
              intro q hq
              have := List.mem_reverse.mp hq
              have h3 := (List.of_mem_zip (show (q.1, q.2) ∈ P.zip us from this)).1
              by_cases hp : p = q.1
              · rw [hp] at nd; exact absurd h3 nd.1
              · simpa using hp
            rw [hn]
            simp
          | succ i =>
            simp at h1 h2
            rw [ih nd.2 h1 h2]; rfl
    exact key x.nd e1 hu
  · obtain ⟨_, e2⟩ := clk e
    subst e2
    exact ⟨_, _, kp _ _ hcs, rfl⟩
  · obtain ⟨_, e2⟩ := clk e
    subst e2
    exact (e0.bs _ _ (inB hcell)).2
  · unfold L2.start
    show _ = (("self" : Str) :: fs).length
    simp only [List.length_append, List.length_map, List.length_replicate]
    omega
end
end Ev
namespace Ev
open PySem PySem.Spec PyProof.Rows L2
/-! ## 27. __init__ of an own error class, run -/
section
variable {P : Program} {w : World} {K : PySem.W.Frag} {mg : Str → Option Value} {base : Heap} {C fI cc cda : Addr} {fs : List Str} {scope : Scope} {sts : List Stmt} {qual : Str} {fd : FuncData}
theorem init_fn (x : ExI P K mg C fI cc cda fs scope sts qual fd) (k : Nat) : FnOk P w K mg base (L2.CX P w) (k + 1) fI fd (("self" : Str) :: fs) (spI C fs) := by
  refine ⟨fun vs H Q E h => ?_, fun A outer s H args us vs Q E hr e0 hb r h => ?_⟩
  · obtain ⟨a, ys, e, hl, _⟩ := h
    rw [e]; simp [hl]
  obtain ⟨params, doc, pm, ct, oc, an, od, osl, p0, p1, p2, p3, p4, p5, m, j, efd, lk, hline, ar, har, hself⟩ := x.fn
  obtain ⟨a, ys, evs, hyl, ha, hq⟩ := h
  subst evs
  have hl : (V.ref a :: ys).length = (("self" : Str) :: fs).length := by simp [hyl]
  have kin : K.In s.heap := e0.mod.kin.keeps fun b o e => (e0.bs b o e).1
  have nl : s.heap.NoLimit := e0.mod.nolimit.keeps fun b o e => (e0.bs b o e).1
  subst efd
  refine ks_codeAny_call_defAt (binds := (("self" : Str) :: fs).zip us) hr.depth (kin _ _ lk) rfl nl (PySem.W.codeRec_of kin x.code) rfl hb x.ncell (fun y hy => ?_) (fun h₁ hns kp => ?_) x.co x.gen x.kind
  · exact x.loc y.1 (List.of_mem_zip (show (y.1, y.2) ∈ _ from hy)).1
  have I0 := ini_start (tk := s.toks + ((("self" : Str) :: fs).zip us).length) x hr.hd e0 hl r hns kp
  generalize hs1 : ({ s with heap := h₁, toks := s.toks + ((("self" : Str) :: fs).zip us).length } : Shared) = s1 at I0 ⊢
  have hns1 : s1.heap.Ns s.heap.objs.size fun y => ((("self" : Str) :: fs).zip us).reverse.lookup y := by rw [← hs1]; exact hns
  have henv : PySem.W.ksEnv qual scope s.heap.objs.size fI (.ref cda) cc = (iniCx P w K mg base (("self" : Str) :: fs) qual scope fI cda cc A outer s H).env := rfl
  obtain ⟨vsF, fl, tf, ccl, cdd, ccs, hcode, hvs, hfile⟩ := x.file
  obtain ⟨cl, cld, csl, hcell⟩ := x.cell
  obtain ⟨cd, hcd⟩ := x.cls
  obtain ⟨mb, hmb1, hmb2⟩ := e0.mod.blt
  have k1 : K.In s1.heap := I0.kIn
  obtain ⟨oD, hD1, hD2⟩ : ∃ oD, s1.heap.get? C = some oD ∧ oD.data = .cls cd := by
    have hcd' := hcd
    unfold PySem.W.clsIn at hcd'
    split at hcd'
    · rename_i c d cd' sl ho
      cases hcd'
      exact ⟨_, k1 _ _ ho, rfl⟩
    · cases hcd'
  obtain ⟨t1, hx1⟩ := exo_at I0.hok ha
  cases r with
  | @cons _ ua _ us' ra rus =>
  obtain rfl : ua = Value.ref a := ra
  have hself1 : (((("self" : Str) :: fs).zip (Value.ref a :: us')).reverse.lookup ar.arg) = some (.ref a) := by
    rw [hself]
    rw [List.zip_cons_cons, List.reverse_cons, List.lookup_append]
    have hn : ((fs.zip us').reverse.lookup ("self" : Str)) = none := by
      rw [List.lookup_eq_none_iff]
      intro q hq
      have := List.mem_reverse.mp hq
      have h3 := (List.of_mem_zip (show (q.1, q.2) ∈ fs.zip us' from this)).1
      by_cases hp : ("self" : Str) = q.1
      · exact absurd (hp ▸ h3) (List.nodup_cons.mp x.nd).1
      · simpa using hp
    rw [hn]
    rfl
  -- what follows the first statement
  have rest : ∀ (s2 : Shared), Inv (iniCx P w K mg base (("self" : Str) :: fs) qual scope fI cda cc A outer s H) [] (L2.start (("self" : Str) :: fs) (V.ref a :: ys)) H s2 →
      wpAny (model P w) (A.deeper (PySem.W.ksEnv qual scope s.heap.objs.size fI (.ref cda) cc)) (execs sts (PySem.W.ksEnv qual scope s.heap.objs.size fI (.ref cda) cc))
        (fun f s' => CR (L2.CX P w) outer P w H s Q E (.ok (.ret (match f with | .ret v => v | _ => .none))) s') (fun _ _ => False) s2 := by
    intro s2 I2
    have hst : ∀ (i : Nat) v, (V.ref a :: ys)[i]? = some v → (L2.start (("self" : Str) :: fs) (V.ref a :: ys))[i]? = some (some v) := fun i v e => by
      unfold L2.start
      have hi : i < (V.ref a :: ys).length := by
        by_cases q : i < (V.ref a :: ys).length
        · exact q
        · rw [List.getElem?_eq_none (by simpa using q)] at e; cases e
      rw [List.getElem?_append_left (by simpa using hi), List.getElem?_map, e]; rfl
    have pss := stores_ok (X := iniCx P w K mg base (("self" : Str) :: fs) qual scope fI cda cc A outer s H) (C := C) (k := 1) x.T rfl (.inl (x.loc "self" List.mem_cons_self)) x.sts (fun j f e => by
      show (("self" : Str) :: fs)[1 + j]? = some f
      rw [Nat.add_comm, List.getElem?_cons_succ]; exact e) fun f hf => ⟨.inl (x.loc f (List.mem_cons_of_mem _ hf)), x.flds f hf⟩
    refine wpAny_mono (pss.run [] s2 _ H { nx := fun _ H' => Q .non H', rt := Q } I2 ⟨a, ys, hst 0 _ rfl, hyl, fun j y e => hst (1 + j) y (by rw [Nat.add_comm, List.getElem?_cons_succ]; exact e), .inl ⟨x.ne, x.short, ha, hq⟩⟩) (fun f s' hs => ?_) fun _ _ z => z
    cases f with
    | ret u =>
      obtain ⟨v, σ', H', J, rv, q⟩ := hs
      exact ⟨v, H', J.os, J.bare, J.base, J.hok, rv, q⟩
    | next =>
      obtain ⟨σ', H', J, q⟩ := hs
      exact ⟨V.non, H', J.os, J.bare, J.base, J.hok, rfl, q⟩
    | brk => obtain ⟨_, _, _, q⟩ := hs; exact q.elim
    | cont => obtain ⟨_, _, _, q⟩ := hs; exact q.elim
  refine ks_wpAt_execs_cons (ks_wpAt_Expr_any ?_ (by unfold interactive; show (scope.kind == .module && _) = false; rw [x.kind]; rfl) rfl)
  refine ks_wpAt_MethodCall (pl := do return (← importBound (.Call (.Name "super" p0) [] [] p1) (PySem.W.ksEnv qual scope s.heap.objs.size fI (.ref cda) cc)).getD true) ?_ (by
    rw [arm_eval_Call]
    unfold methodCall calleeOf methodCallPos
    have hf : methodCallForm ([Expr.Constant (Const.str m) j p3].length + ([] : List Keyword).length) (backTo p4 (starEach [Expr.Constant (Const.str m) j p3] (PySem.W.ksEnv qual scope s.heap.objs.size fI (.ref cda) cc))) (backToKw p4 (keywordEach [] (PySem.W.ksEnv qual scope s.heap.objs.size fI (.ref cda) cc))) = true := rfl
    simp only [hf, hline, if_true, Bool.not_true, Bool.or_true]
    rfl)
  refine ks_wpAt_super_base (f := fI) (cc := cda) x.sks x.skc rfl rfl (k1 _ _ lk) rfl har rfl (k1 _ _ hcode) rfl hvs hfile x.top ?_
  refine PySem.W.ks_loadName_global x.kind x.sks (Calls.loadGlobal_builtin (I0.ok.mod.glob.keeps I0.bk) x.mgs (hmb1.keeps I0.bk) ((hmb2 "super" (by decide)).trans PyProof.Rows.Boot.«super») ⟨rfl, ?_⟩)
  refine wpAny_loadName_free x.kind x.skc rfl ⟨_, k1 _ _ hcell, rfl⟩ ?_
  refine wpAny_loadName_local x.kind (by show scope.names.lookup ar.arg = _; rw [hself]; exact x.loc "self" List.mem_cons_self) hns1 hself1 ?_
  obtain ⟨hh, g, d, tk, os⟩ := s1
  refine ks_wpAny_isType_cls hD1 hD2 ⟨rfl, ?_⟩
  refine ks_wpAny_call_super (C := C) hD1 hD2 hx1 rfl (fun c z => by cases z) (PySem.W.looks_mroIn k1 x.sub) fun h2 hso hk2 => ?_
  have I2 : Inv (iniCx P w K mg base (("self" : Str) :: fs) qual scope fI cda cc A outer s H) [] (L2.start (("self" : Str) :: fs) (V.ref a :: ys)) H ⟨h2, g, d, tk, os⟩ := I0.kept (t' := tk) hk2
  have k2 : K.In h2 := I2.kIn
  obtain ⟨t2, hx2⟩ := exo_at I2.hok ha
  have iA : PySem.W.InstAt h2 a { cls := .ref C, dict := none, data := .fields #[.ref t2, .none, .none, .none, .bool false, .none] } C none := ⟨hx2, rfl, rfl, trivial⟩
  have hsup := x.sup
  unfold PySem.W.ks_superIn at hsup
  rw [hcd] at hsup
  refine PySem.W.kxs_getMethod PySem.W.kxs_ValueError hso (PySem.W.looks_opaque k2 x.opq) (l₀ := cd.mro) ?_ rfl k2 hsup (iA.type.andThen (PySem.W.looks_subIn k2 x.ve)) (PySem.W.ks_ne k2 iA hcd) rfl ?_
  · exact fun A Q E s k q => wpAny_bind ((PySem.W.looks_clsIn k2 hcd) A _ E s k (wpAny_pure q))
  have I3 : Inv (iniCx P w K mg base (("self" : Str) :: fs) qual scope fI cda cc A outer s H) [] (L2.start (("self" : Str) :: fs) (V.ref a :: ys)) H ⟨h2.push (PySem.W.kxs_mw "ValueError.__init__" a), g, d, tk + 1, os⟩ := I2.kept (t' := tk + 1) fun b o e => Heap.get?_push_of_some _ e
  have hu3 : (h2.push (PySem.W.kxs_mw "ValueError.__init__" a)).get? h2.objs.size = some (PySem.W.kxs_mw "ValueError.__init__" a) := Heap.get?_push_size _ rfl
  show wpAny _ _ (_root_.PySem.callWith p4 (.ref h2.objs.size) [] [(false, eval (.Constant (.str m) j p3) (PySem.W.ksEnv qual scope s.heap.objs.size fI (.ref cda) cc))] []) _ _ _
  refine PySem.W.kxs_callWith (i := "ValueError.__init__") (x := a) rfl (Calls.evalArgs_plain (Calls.spliced_cons (Calls.Constant_str (Calls.spliced_nil ⟨hu3, ?_⟩))))
  obtain ⟨nm, q, N, bs, bm, sn, sub, ab, col, dd, k0, k01, k02, k3, k5, hC, hbm⟩ := x.T.cls
  obtain ⟨t3, hx3⟩ := exo_at I3.hok ha
  refine mw_call (C := C) (t0 := t3) (I3.kIn _ _ hC) hx3 hu3 (by show 1 ≤ sizeLine; rw [sizeLine_eq]; exact (by decide : (1 : Nat) ≤ 16777216)) fun h4 t4 kp4 hx4 => ?_
  have I4 : Inv (iniCx P w K mg base (("self" : Str) :: fs) qual scope fI cda cc A outer s H) [] (L2.start (("self" : Str) :: fs) (V.ref a :: ys)) H ⟨h4, g, d, tk + 1 + 1, os⟩ := by
    have J := I3.write (t' := tk + 1 + 1) (x := a) (e := a) (o := exo a C none) (by rw [ha]; exact True.intro) (.inl rfl) (fun b u hb q => kp4 b u hb q) ⟨_, hx4⟩ (exo_ok hx4)
    have eu : upd H a (exo a C none) = H := by
      funext b
      by_cases hb : b = a
      · rw [hb, upd_same, ha]
      · rw [upd_ne hb]
    rw [eu] at J
    exact J
  refine wpAt_of_wpAny (wpAny_mono (rest _ I4) (fun _ _ z => z) fun _ _ z => z.elim)
end
end Ev
namespace Ev
open PySem PySem.Spec PyProof.Rows L2
/-! ## 28. raise, try -/
/-! ### several except clauses, with names (after HandS's rules for one with a name, for many without) -/
abbrev Hd := Value × Option Nat × (Addr → Value → Option Addr → TS)
def ends (D : Ends) : Option Nat → Ends
  | some i => { nx := fun σ' H' => D.nx (σ'.set i none) H', rt := D.rt, bk := fun σ' H' => D.bk (σ'.set i none) H', ct := fun σ' H' => D.ct (σ'.set i none) H' }
  | none => D
def withName (σ : L2.St) (a : Addr) : Option Nat → L2.St
  | some i => σ.set i (some (.ref a))
  | none => σ
def wAll (K : PySem.W.Frag) (Wout : WX) (D : Ends) : List Hd → WX
  | [] => Wout
  | (c, i, ts) :: r => fun cls d σ H => ∃ b, PySem.W.exmOne K cls c = some b ∧ (b = true → ∀ a, H a = none → ts a cls d (ends D i) (withName σ a i) H) ∧ (b = false → wAll K Wout D r cls d σ H)
inductive HdsA (X : Cx) : List ExceptHandler → List Hd → Prop
  | nil : HdsA X [] []
  | named {x n : Str} {c : Value} {i : Nat} {ts : Addr → Value → Option Addr → TS} {b₀ : Stmt} {suite : List Stmt} {np pos' : Pos} {hds : List ExceptHandler} {l : List Hd} (hc : Names X x c) (hi : X.N[i]? = some n) (hln : X.env.kindOf n = some .local)
      (hsu : ∀ (a : Addr) (oe : Obj) (cls : Value) (d : Option Addr) (pn : List (Addr × Obj)), Zc cls d oe → (∃ vs, oe.data = .fields vs) → PSs (X.suite a ((a, oe) :: pn)) (b₀ :: suite) (ts a cls d)) (r : HdsA X hds l) :
      HdsA X (.ExceptHandler (some (.Name x np)) (some n) (b₀ :: suite) pos' :: hds) ((c, some i, ts) :: l)
  | plain {x : Str} {c : Value} {ts : Addr → Value → Option Addr → TS} {b₀ : Stmt} {suite : List Stmt} {np pos' : Pos} {hds : List ExceptHandler} {l : List Hd} (hc : Names X x c)
      (hsu : ∀ (a : Addr) (oe : Obj) (cls : Value) (d : Option Addr) (pn : List (Addr × Obj)), Zc cls d oe → (∃ vs, oe.data = .fields vs) → PSs (X.suite a ((a, oe) :: pn)) (b₀ :: suite) (ts a cls d)) (r : HdsA X hds l) :
      HdsA X (.ExceptHandler (some (.Name x np)) none (b₀ :: suite) pos' :: hds) ((c, none, ts) :: l)
section
variable {X : Cx} {body : List Stmt} {h₀ : ExceptHandler} {hds : List ExceptHandler} {l : List Hd} {pos : Pos} {tb : WX → TS} {Wout : WX}
theorem ps_try_all (hs : X.stack = X.env :: X.outer) (hf : X.env.frame = some X.env.locals) (hN : X.N.Nodup) (tk : Takes X Wout)
    (hb : ∀ (W : WX) (pn : List (Addr × Obj)) (xe : Value → Shared → Prop), Takes (X.tr pn xe) W → PassesOwn (model X.prog X.w) X.A X.env xe → PSs (X.tr pn xe) body (tb W))
    (hh : HdsA X (h₀ :: hds) l) : PS X (.Try body (h₀ :: hds) [] [] pos) (fun D σ H => tb (wAll X.K Wout D l) D σ H) := by
  refine ⟨fun pins s σ H D I h => ?_⟩
  have ok := I.ok
  have hfr : X.A.frames = some (X.env :: X.outer) := by rw [ok.frames, hs]
  refine wpAny_Try_except ?_
  refine wpAny_mono ((hb (wAll X.K Wout D l) (X.pn ++ pins) (fun e s₁ => wpAny (model X.prog X.w) X.A (noteFrame e X.env) (fun _ s₂ => wpAny (model X.prog X.w) X.A (setFlight e none) (fun _ s₃ =>
    wpAny (model X.prog X.w) X.A (handleBy e X.env (h₀ :: hds)) (SP X pins D) X.xe s₃) X.xe s₂) X.xe s₁) (fun u s' xx => ?_) PassesOwn.looking).run [] s σ H D (I.toTry _) h) (fun f s1 hsp => ?_) (fun e s1 he => he)
  · obtain ⟨a, B, sI, pins', σ', H', cls, d, rfl, J', nb, up, sky, na, os, ag, w⟩ := xx
    have J : Inv X pins σ' H' sI := J'.ofTry ok
    have sky' : Sky B (X.env :: X.outer) a (Zc cls d) X.env.locals s'.heap := by rw [← hs]; exact sky
    show wpAny (model X.prog X.w) X.A (noteFrame (.ref a) X.env) _ _ _
    refine Sky.land Zc.steady hfr hf sky' fun h3 fl3 up3 => ?_
    have J3 : Inv X pins σ' H' { s' with heap := h3 } := J.landed nb fl3.1 (up.trans up3) os ag
    obtain ⟨oe3, vs3, he3, hz3, hd3⟩ := fl3.there
    have notFr : ∀ {h : Heap} {o : Obj} {vs : Array Value}, h.FunFrames B (X.env :: X.outer) → h.get? a = some o → o.data = .fields vs → a ∉ frs (X.env :: X.outer) := fun {h o vs} ff e dd hm => by
      obtain ⟨_, o', e', hnf⟩ := ff.mem hm
      rw [e] at e'; cases e'
      exact hnf _ dd
    have nfr := notFr fl3.2.2.1 he3 hd3
    have nL : a ≠ X.env.locals := fun z => nfr (List.mem_filterMap.mpr ⟨X.env, List.mem_cons_self, by rw [hf, z]⟩)
    have nF : a ∉ X.fs := fun hm => by
      obtain ⟨e, he, q⟩ := List.mem_filterMap.mp hm
      exact nfr (List.mem_filterMap.mpr ⟨e, List.mem_cons_of_mem _ he, q⟩)
    have S3 := J3.suite he3 hd3 na nL nF
    have LT : PySem.W.Looks (model X.prog X.w) h3 (typeOf (.ref a)) cls := fun A Q E s k q => wpAny_typeOf_ref (k _ _ he3) (by rw [hz3.1]; exact q)
    have test : ∀ {x : Str} {c : Value} {np : Pos} {Q : Value → Shared → Prop} {E : Value → Shared → Prop}, Names X x c → Q c { s' with heap := h3 } → wpAny (model X.prog X.w) (X.A.mark (some (.ref a))) (eval (.Name x np) X.env) Q E { s' with heap := h3 } := fun {x c np Q E} hc q => by
      obtain ⟨hg, hdbg, hm | ⟨hm, hv, hnn⟩⟩ := hc
      · exact ld_glob (X := X.suite a ((a, oe3) :: (X.pn ++ pins))) S3 hg hm q hdbg
      · exact ld_blt (X := X.suite a ((a, oe3) :: (X.pn ++ pins))) S3 hg hm hv q hnn hdbg
    have go : ∀ {hds' : List ExceptHandler} {l' : List Hd}, HdsA X hds' l' → wAll X.K Wout D l' cls d σ' H' → wpAny (model X.prog X.w) X.A (handleBy (.ref a) X.env hds') (SP X pins D) X.xe { s' with heap := h3 } := by
      intro hds' l' hk
      induction hk with
      | nil =>
        intro w
        refine wpAny_handleBy_nil ?_
        obtain ⟨k1, k2, k3, oe, vs, T, oT, ts', he, hz, hd, h1, hr⟩ := id fl3
        unfold PySem.passOn
        refine wpAny_bind (wpAny_field he hd h1 ?_)
        rw [if_neg (show ¬ ((Value.ref T == Value.none) = true) from by simp)]
        have fin : wpAny (model X.prog X.w) X.A (setFlight (.ref a) X.env.frame) (fun _ s4 => wpAny (model X.prog X.w) X.A (throw (.ref a) : Sem Flow) (SP X pins D) X.xe s4) X.xe { s' with heap := h3 } := by
          rw [hf]
          refine HandSPX.setFlight_upZ fl3 fun h4 hh4 up4 => wpAny_throw (tk _ _ ?_)
          exact ⟨a, B, sI, pins, σ', H', cls, d, rfl, J, nb, (up.trans up3).trans up4, .inr (.inr (by rw [hs]; exact hh4)), na, os, ag, w⟩
        first
          | exact wpAny_bind (wpAny_pure (wpAny_bind fin))
          | exact wpAny_bind fin
      | @named x n c i ts b₀ suite np pos' hds2 l2 hc hi hln hsu r ih =>
        intro w
        obtain ⟨b, hb1, hyes, hno⟩ := w
        refine wpAny_handleBy_cons (codeAny_handlers_test ?_) (by intro q; cases q)
        refine test hc ((PySem.W.exm_one (M := model X.prog X.w) (J3.kIn) LT hb1).here ?_)
        cases b with
        | false => exact ih (hno rfl)
        | true =>
          refine codeAny_handlers_suite_as ?_
          refine HandSPX.lands_againZ fl3 fun h4 fl4 up4 => ?_
          have J4 : Inv X pins σ' H' { s' with heap := h4 } := J.landed nb fl4.1 ((up.trans up3).trans up4) os ag
          obtain ⟨oe4, vs4, he4, hz4, hd4⟩ := fl4.there
          have S4 := J4.suite he4 hd4 na nL nF
          refine store_ok (X := X.suite a ((a, oe4) :: (X.pn ++ pins))) (v := .ref a) S4 hN hi (.inl hln) rfl (fun s5 S5 => ?_) (.inr hln)
          refine wpAny_mono ((hsu a oe4 cls d (X.pn ++ pins) hz4 ⟨_, hd4⟩).run [] s5 _ H' _ S5 (hyes rfl a na)) (fun f s6 hsp => ?_) (fun _ _ z => False.elim z)
          have end_ : ∀ {σ6 : L2.St} {H6 : Hp} {Q : Shared → Prop}, Inv (X.suite a ((a, oe4) :: (X.pn ++ pins))) [] σ6 H6 s6 → (∀ s7, Inv X pins (σ6.set i none) H6 s7 → Q s7) →
              wpAny (model X.prog X.w) X.A (do bindName X.env n .none; unbindBehindTheSuite X.env n pos') (fun _ s7 => Q s7) X.xe s6 := fun {σ6 H6 Q} S6 hq => gone_ok (S6.unsuite ok) hN hi hln hq
          cases f with
          | next => obtain ⟨σ6, H6, S6, q6⟩ := hsp; exact end_ S6 fun s7 J7 => ⟨_, _, J7, q6⟩
          | brk => obtain ⟨σ6, H6, S6, q6⟩ := hsp; exact end_ S6 fun s7 J7 => ⟨_, _, J7, q6⟩
          | cont => obtain ⟨σ6, H6, S6, q6⟩ := hsp; exact end_ S6 fun s7 J7 => ⟨_, _, J7, q6⟩
          | ret u => obtain ⟨v6, σ6, H6, S6, r6, q6⟩ := hsp; exact end_ S6 fun s7 J7 => ⟨_, _, _, J7, r6, q6⟩
      | @plain x c ts b₀ suite np pos' hds2 l2 hc hsu r ih =>
        intro w
        obtain ⟨b, hb1, hyes, hno⟩ := w
        refine wpAny_handleBy_cons (codeAny_handlers_test ?_) (by intro q; cases q)
        refine test hc ((PySem.W.exm_one (M := model X.prog X.w) (J3.kIn) LT hb1).here ?_)
        cases b with
        | false => exact ih (hno rfl)
        | true =>
          refine codeAny_handlers_suite ?_
          refine HandSPX.lands_againZ fl3 fun h4 fl4 up4 => ?_
          have J4 : Inv X pins σ' H' { s' with heap := h4 } := J.landed nb fl4.1 ((up.trans up3).trans up4) os ag
          obtain ⟨oe4, vs4, he4, hz4, hd4⟩ := fl4.there
          have S4 := J4.suite he4 hd4 na nL nF
          refine wpAny_mono ((hsu a oe4 cls d (X.pn ++ pins) hz4 ⟨_, hd4⟩).run [] _ _ H' _ S4 (hyes rfl a na)) (fun f s6 hsp => ?_) (fun _ _ z => False.elim z)
          cases f with
          | next => obtain ⟨σ6, H6, S6, q6⟩ := hsp; exact ⟨_, _, S6.unsuite ok, q6⟩
          | brk => obtain ⟨σ6, H6, S6, q6⟩ := hsp; exact ⟨_, _, S6.unsuite ok, q6⟩
          | cont => obtain ⟨σ6, H6, S6, q6⟩ := hsp; exact ⟨_, _, S6.unsuite ok, q6⟩
          | ret u => obtain ⟨v6, σ6, H6, S6, r6, q6⟩ := hsp; exact ⟨_, _, _, S6.unsuite ok, r6, q6⟩
    exact go hh w
  · cases f with
    | next => obtain ⟨σ', H', J', q⟩ := hsp; exact wpAny_execs_nil ⟨σ', H', J'.ofTry ok, q⟩
    | brk => obtain ⟨σ', H', J', q⟩ := hsp; exact ⟨σ', H', J'.ofTry ok, q⟩
    | cont => obtain ⟨σ', H', J', q⟩ := hsp; exact ⟨σ', H', J'.ofTry ok, q⟩
    | ret u => obtain ⟨v, σ', H', J', r, q⟩ := hsp; exact ⟨v, σ', H', J'.ofTry ok, r, q⟩
end
/-! ### raise C(e, ..) -/
def fRaise (c n : Nat) (g : SS → Out (List D)) : SS → Out Fl := fun S => (g S).bind fun ds S1 => if ds.length = n ∧ n ≤ 1000 then .exc c ds S1 else .no
theorem zip_look {f : Str} {v : V} : ∀ {fs : List Str} {ys : List V} {i : Nat}, fs.Nodup → fs[i]? = some f → ys[i]? = some v → ((fs.zip ys).reverse).lookup f = some v
  | [], _, _, _, h, _ => by simp at h
  | _ :: _, [], _, _, _, h => by simp at h
  | p :: P, w :: us, i, nd, h1, h2 => by
    have nd := List.nodup_cons.mp nd
    rw [List.zip_cons_cons, List.reverse_cons, List.lookup_append]
    cases i with
    | zero =>
      simp at h1 h2
      subst h1 h2
      have hn : ((P.zip us).reverse.lookup p) = none := by
        rw [List.lookup_eq_none_iff]
        intro q hq
        have := List.mem_reverse.mp hq
        have h3 := (List.of_mem_zip (show (q.1, q.2) ∈ P.zip us from this)).1
        by_cases hp : p = q.1
        · rw [hp] at nd; exact absurd h3 nd.1
        · simpa using hp
      rw [hn]
      simp
    | succ i =>
      simp at h1 h2
      rw [zip_look nd.2 h1 h2]; rfl
section
variable {X : Cx} {C : EC} {x : Str} {p pos rpos : Pos} {e : Expr} {es : List Expr} {g : SS → Out (List D)} {cid : Nat} {fI cc cda : Addr} {fs : List Str} {scope : Scope} {sts : List Stmt} {qual : Str} {fd : FuncData} {k : Nat}
theorem ps_fRaise (hc : X.calm = true) (hK : X.K = C.G.K) (tk : Takes X C.W) (cl : ExI X.prog X.K X.mg (C.G.ca cid) fI cc cda fs scope sts qual fd) (hxf : C.G.xf cid = fs) (hr : Rm (k + 2) X.A) (hg : Gl X x) (hm : X.mg x = some (.ref (C.G.ca cid))) (ha : PA X (e :: es) (tA C g))
    (hdb : (x == ("__debug__" : Str)) = false) (hp : plainArg e = true) (hpl : (backTo pos (starEach es X.env)).any (·.1) = false) : PS X (.Raise (some (.Call (.Name x p) (e :: es) [] pos)) none rpos) (tS C (fRaise cid fs.length g)) := by
  refine ps_mono (ps_raise hc tk (pmk_oex cl.T cl.iC cl.tI (init_fn cl k) (hr.toRoom.mono (by omega)) (.all cl.bind) .nil (fun pins σ H s e s' I c => ?_) hg hm ha hdb (starEach_plain hp) hpl)) fun D σ H h => ?_
  · obtain ⟨_, _, _, _, _, _, _, _, _, _, _, _, z⟩ := c
    exact z.elim
  refine (seqTS' (rel := rVs) h).mono fun vs H1 ⟨R, S, ds, b, si, rv, p⟩ => ?_
  have rv : RVs R ds vs := rv
  try dsimp only at p
  split at p
  case isFalse => exact p.elim
  rename_i hl
  obtain ⟨hl, h1000⟩ := hl
  have hlen := rv.length
  refine ⟨by omega, fun a ha => ?_⟩
  rw [List.append_nil]
  refine ⟨a, vs, rfl, by omega, upd_same, fun dx H2 hdx hne h1 h2 h3 => ⟨rfl, dx, _, h1, h2, ?_, ?_⟩⟩
  · rw [upd_ne hne] at hdx; exact hdx
  · have hdx' : H1 dx = none := by rw [upd_ne hne] at hdx; exact hdx
    have eH : upd (del H2 a) dx (.xd ((fs.zip vs).reverse)) = upd H1 dx (.xd ((fs.zip vs).reverse)) := by
      funext b
      by_cases hb : b = dx
      · rw [hb, upd_same, upd_same]
      · rw [upd_ne hb, upd_ne hb]
        by_cases hb2 : b = a
        · rw [hb2, del_same, ha]
        · rw [del_ne hb2, h3 b hb2 hb, upd_ne hb2]
    rw [eH]
    have eca : R.ca = C.G.ca := by rw [b.1]
    have exf : R.xf cid = fs := by rw [show R.xf = C.G.xf by rw [b.1], hxf]
    have q := p R σ _ (some dx) (RLe.refl R) (si.alloc hdx') ⟨dx, vs, _, rfl, upd_same, rv, fun i f v e1 e2 => by rw [exf] at e1; exact zip_look (List.nodup_cons.mp cl.nd).2 e1 e2⟩
    rw [eca] at q
    exact q
end
end Ev
namespace Ev
open PySem PySem.Spec PyProof.Rows L2
/-! ## 29. try: body / except C as e: return [..] .. -/
/-- an item of what a clause returns: a text, None, the exception's k-th field -/
inductive HEl where
  | s (x : Str) | n | f (k : Nat)
def helD (fs : List D) : HEl → Option D
  | .s x => some (.str x)
  | .n => some .non
  | .f k => fs[k]?
def helsD (fs : List D) : List HEl → Option (List D)
  | [] => some []
  | h :: hs => match helD fs h, helsD fs hs with
    | some d, some ds => some (d :: ds)
    | _, _ => none
/-- a clause: the class, the name's slot, what it returns -/
abbrev Cl := Nat × Option Nat × List HEl
def fTry (nC : Nat) (F : SS → Out Fl) (cls : List Cl) : SS → Out Fl := fun S => match F S with
  | .exc c fs S1 => if c < nC then match cls.find? fun h => h.1 == c with
      | some h => match helsD fs h.2.2 with
        | some ds => if ds.length ≤ sizeLine ∧ (∀ i, h.2.1 = some i → i < S1.dl.length) then .ok (.rt (.own (.lst ds))) (match h.2.1 with | some i => S1.drop i | none => S1) else .no
        | none => .no
      | none => .exc c fs S1
    else .no
  | o => o
/-- the elements, read in the clause -/
inductive HEls (X : Cx) (Cad : Addr) (xf : List Str) (i : Option Nat) : List Expr → List HEl → Prop
  | nil : HEls X Cad xf i [] []
  | s {x : Str} {j : Nat} {p : Pos} {es : List Expr} {hs : List HEl} (hx : x.length ≤ sizeLine) (h : HEls X Cad xf i es hs) : HEls X Cad xf i (.Constant (.str x) j p :: es) (.s x :: hs)
  | n {j : Nat} {p : Pos} {es : List Expr} {hs : List HEl} (h : HEls X Cad xf i es hs) : HEls X Cad xf i (.Constant .none j p :: es) (.n :: hs)
  | f {nm : Str} {f : Str} {k sl : Nat} {np p : Pos} {es : List Expr} {hs : List HEl} (hi : i = some sl) (hN : X.N[sl]? = some nm) (hv : Vis X.env.scope nm) (hd : (nm == ("__debug__" : Str)) = false) (hcd : (nm == ("__classdict__" : Str)) = false) (T : XfC X.K Cad) (hno : PySem.W.findIn X.K (.ref Cad) f = some none) (hk : xf[k]? = some f)
      (hb : attributeBase (.Name nm np) f X.env (eval (.Name nm np) X.env) = eval (.Name nm np) X.env) (h : HEls X Cad xf i es hs) : HEls X Cad xf i (.Attribute (.Name nm np) f p :: es) (.f k :: hs)
/-- what the clause's list is to bring: values that the fields' list has -/
def tHel (Cad : Addr) (i : Option Nat) (a : Addr) (cls : Value) (d : Option Addr) (xf : List Str) : List HEl → TA
  | [] => fun σ H Q => Q [] H
  | .s x :: hs => fun σ H Q => tHel Cad i a cls d xf hs σ H fun vs H' => Q (.str x :: vs) H'
  | .n :: hs => fun σ H Q => tHel Cad i a cls d xf hs σ H fun vs H' => Q (.non :: vs) H'
  | .f k :: hs => fun σ H Q => ∃ sl dd l f v, i = some sl ∧ σ[sl]? = some (some (.ref a)) ∧ cls = .ref Cad ∧ d = some dd ∧ H dd = some (.xd l) ∧ xf[k]? = some f ∧ l.lookup f = some v ∧ tHel Cad i a cls d xf hs σ H fun vs H' => Q (v :: vs) H'
theorem pa_hel {X : Cx} {Cad : Addr} {xf : List Str} {i : Option Nat} {a : Addr} {oe : Obj} {cls : Value} {d : Option Addr} {pn : List (Addr × Obj)} (hz : Zc cls d oe) (hf : ∃ vs, oe.data = .fields vs) : ∀ {es : List Expr} {hs : List HEl}, HEls X Cad xf i es hs → PA (X.suite a ((a, oe) :: pn)) es (tHel Cad i a cls d xf hs) := by
  intro es hs h
  induction h with
  | nil => exact ⟨fun pos pins s σ H Q I q => pa_nil.run pos pins s σ H Q I q⟩
  | s hx _ ih => exact ⟨fun pos pins s σ H Q I q => (pa_cons pe_str ih (starEach_plain rfl)).run pos pins s σ H Q I q⟩
  | n _ ih => exact ⟨fun pos pins s σ H Q I q => (pa_cons pe_non ih (starEach_plain rfl)).run pos pins s σ H Q I q⟩
  | f hi hN hv hd hcd T hno hk hb _ ih =>
    refine ⟨fun pos pins s σ H Q I q => ?_⟩
    obtain ⟨sl', dd, l, f', v, e1, e2, e3, e4, e5, e6, e7, q⟩ := q
    rw [hi] at e1; cases e1
    rw [hk] at e6; cases e6
    exact (pa_cons (pe_xf (X := X) (a := a) (pn := pn) T hno hz hf (pe_var (X := X.suite a ((a, oe) :: pn)) hN hv hd hcd) hb) ih (starEach_plain rfl)).run pos pins s σ H Q I ⟨.ref a, e2, rfl, e3, dd, l, v, e4, e5, e7, q⟩
theorem hel_run {R : RC} {Cad : Addr} {i : Option Nat} {a dx : Addr} {xf : List Str} {fs : List D} {vs : List V} {l : List (Str × V)} {σ : L2.St} {H : Hp} (hs0 : ∀ sl, i = some sl → σ[sl]? = some (some (.ref a))) (hl : H dx = some (.xd l)) (rv : RVs R fs vs) (lk : ∀ (k : Nat) f v, xf[k]? = some f → vs[k]? = some v → l.lookup f = some v) :
    ∀ {hs : List HEl} {ds : List D} {Q : List V → Hp → Prop}, (∀ k, .f k ∈ hs → i.isSome = true ∧ k < xf.length) → (∀ x, .s x ∈ hs → x.length ≤ sizeLine) → helsD fs hs = some ds → (∀ ws, RVs R ds ws → Q ws H) → tHel Cad i a (.ref Cad) (some dx) xf hs σ H Q
  | [], ds, Q, _, _, e, q => by rw [helsD] at e; cases e; exact q [] (by rw [RVs])
  | h :: hs, ds, Q, hk, hx, e, q => by
    rw [helsD] at e
    cases e1 : helD fs h with
    | none => rw [e1] at e; cases e
    | some d1 =>
      cases e2 : helsD fs hs with
      | none => rw [e1, e2] at e; cases e
      | some ds1 =>
        rw [e1, e2] at e
        cases e
        have ih := fun {Q} => hel_run (Cad := Cad) (i := i) (a := a) hs0 hl rv lk (hs := hs) (ds := ds1) (Q := Q) (fun k m => hk k (List.mem_cons_of_mem _ m)) (fun x m => hx x (List.mem_cons_of_mem _ m)) e2
        cases h with
        | s x => cases e1; exact ih fun ws rw' => q _ (by rw [RVs]; exact ⟨.str x, ws, rfl, by rw [RV]; exact ⟨rfl, hx x List.mem_cons_self⟩, rw'⟩)
        | n => cases e1; exact ih fun ws rw' => q _ (by rw [RVs]; exact ⟨.non, ws, rfl, by rw [RV], rw'⟩)
        | f k =>
          have e1 : fs[k]? = some d1 := e1
          obtain ⟨v, ev, rd⟩ := rv.getD e1
          obtain ⟨h1, h2⟩ := hk k List.mem_cons_self
          obtain ⟨sl, esl⟩ := Option.isSome_iff_exists.mp h1
          have ef := List.getElem?_eq_getElem h2
          exact ⟨sl, dx, l, _, v, esl, hs0 sl esl, rfl, rfl, hl, ef, lk k _ v ef ev, ih fun ws rw' => q _ (by rw [RVs]; exact ⟨v, ws, rfl, rd, rw'⟩)⟩
theorem hels_mem {X : Cx} {Cad : Addr} {xf : List Str} {i : Option Nat} : ∀ {es : List Expr} {hs : List HEl}, HEls X Cad xf i es hs → (∀ k, .f k ∈ hs → i.isSome = true ∧ k < xf.length) ∧ ∀ x, .s x ∈ hs → x.length ≤ sizeLine := by
  intro es hs h
  induction h with
  | nil => exact ⟨(fun k m => by cases m), (fun x m => by cases m)⟩
  | s hx _ ih =>
    refine ⟨fun k m => ?_, fun x m => ?_⟩
    · rcases List.mem_cons.mp m with z | z
      · cases z
      · exact ih.1 k z
    · rcases List.mem_cons.mp m with z | z
      · cases z; exact hx
      · exact ih.2 x z
  | n _ ih =>
    refine ⟨fun k m => ?_, fun x m => ?_⟩
    · rcases List.mem_cons.mp m with z | z
      · cases z
      · exact ih.1 k z
    · rcases List.mem_cons.mp m with z | z
      · cases z
      · exact ih.2 x z
  | f hi hN hv hd hcd T hno hk hb _ ih =>
    refine ⟨fun k m => ?_, fun x m => (List.mem_cons.mp m).elim (fun z => by cases z) (ih.2 x)⟩
    rcases List.mem_cons.mp m with z | z
    · cases z
      exact ⟨by rw [hi]; rfl, (List.getElem?_eq_some_iff.mp hk).1⟩
    · exact ih.1 k z
/-- the clauses -/
inductive Cls (X : Cx) (C : EC) (nC : Nat) : List ExceptHandler → List Cl → List Hd → Prop
  | nil : Cls X C nC [] [] []
  | named {x n : Str} {c i : Nat} {es : List Expr} {hs : List HEl} {np pos' lp rp : Pos} {hds : List ExceptHandler} {cls : List Cl} {l : List Hd} (hc : Names X x (.ref (C.G.ca c))) (hi : X.N[i]? = some n) (hln : X.env.kindOf n = some .local) (hx : ∀ k, k < nC → PySem.W.exmOne X.K (.ref (C.G.ca k)) (.ref (C.G.ca c)) = some (c == k))
      (h : HEls X (C.G.ca c) (C.G.xf c) (some i) es hs) (r : Cls X C nC hds cls l) : Cls X C nC (.ExceptHandler (some (.Name x np)) (some n) [.Return (some (.List es lp)) rp] pos' :: hds) ((c, some i, hs) :: cls) ((.ref (C.G.ca c), some i, fun a cl d => tRet (tLst (tHel (C.G.ca c) (some i) a cl d (C.G.xf c) hs))) :: l)
  | plain {x : Str} {c : Nat} {es : List Expr} {hs : List HEl} {np pos' lp rp : Pos} {hds : List ExceptHandler} {cls : List Cl} {l : List Hd} (hc : Names X x (.ref (C.G.ca c))) (hx : ∀ k, k < nC → PySem.W.exmOne X.K (.ref (C.G.ca k)) (.ref (C.G.ca c)) = some (c == k))
      (h : HEls X (C.G.ca c) (C.G.xf c) none es hs) (r : Cls X C nC hds cls l) : Cls X C nC (.ExceptHandler (some (.Name x np)) none [.Return (some (.List es lp)) rp] pos' :: hds) ((c, none, hs) :: cls) ((.ref (C.G.ca c), none, fun a cl d => tRet (tLst (tHel (C.G.ca c) none a cl d (C.G.xf c) hs))) :: l)
theorem Cls.hds {X : Cx} {C : EC} {nC : Nat} : ∀ {hds : List ExceptHandler} {cls : List Cl} {l : List Hd}, Cls X C nC hds cls l → HdsA X hds l := by
  intro hds cls l h
  induction h with
  | nil => exact .nil
  | named hc hi hln hx h r ih => exact .named hc hi hln (fun a oe cls d pn hz hf => pss_one (ps_ret (pe_lst (pa_hel hz hf h)))) ih
  | plain hc hx h r ih => exact .plain hc (fun a oe cls d pn hz hf => pss_one (ps_ret (pe_lst (pa_hel hz hf h)))) ih
theorem SI.dropAny {R : RC} {S : SS} {σ : L2.St} {H : Hp} (si : SI R S σ H) (i : Nat) (x : Option V) : SI R (S.drop i) (σ.set i x) H := by
  have sd := si.drop i
  have nn : ∀ {j : Nat} {sl : Slot}, (S.drop i).dl[j]? = some sl → sl ≠ .none → j ≠ i := fun {j sl} e h z => by
    subst z
    have e : (S.dl.set j Slot.none)[j]? = some sl := e
    by_cases hl : j < S.dl.length
    · rw [List.getElem?_set_self hl] at e; cases e; exact h rfl
    · rw [List.getElem?_eq_none (by simpa using hl)] at e; cases e
  have ow : ∀ {j : Nat} {a : Addr}, Owns (S.drop i) (σ.set i x) j a → Owns (S.drop i) σ j a := fun {j a} ⟨⟨o, e⟩, e2⟩ => ⟨⟨o, e⟩, by
    rw [List.getElem?_set_ne (Ne.symm (nn e (by simp)))] at e2; exact e2⟩
  refine { sd with len := by simpa using sd.len, val := fun j d e => ?_, own := fun j o e => ?_, disj := fun j k a h1 h2 => sd.disj j k a (ow h1) (ow h2), rno := fun k a e j h => sd.rno k a e j (ow h) }
  · obtain ⟨v, e1, r⟩ := sd.val j d e
    exact ⟨v, by rw [List.getElem?_set_ne (Ne.symm (nn e (by simp)))]; exact e1, r⟩
  · obtain ⟨a, e1, r⟩ := sd.own j o e
    exact ⟨a, by rw [List.getElem?_set_ne (Ne.symm (nn e (by simp)))]; exact e1, r⟩
theorem cls_catch {X : Cx} {C : EC} {nC : Nat} {D : Ends} (hK : X.K = C.G.K) {R : RC} {S1 : SS} {c : Nat} {fs : List Ev.D} (hc : c < nC) : ∀ {hds : List ExceptHandler} {cls : List Cl} {l : List Hd}, Cls X C nC hds cls l →
    PoS C D R (match cls.find? fun h => h.1 == c with
      | some h => match helsD fs h.2.2 with
        | some ds => if ds.length ≤ sizeLine ∧ (∀ i, h.2.1 = some i → i < S1.dl.length) then .ok (.rt (.own (.lst ds))) (match h.2.1 with | some i => S1.drop i | none => S1) else .no
        | none => .no
      | none => .exc c fs S1) →
    ∀ R' σ' H' d, RLe R R' → SI R' S1 σ' H' → R'.xf = C.G.xf → R.ca = C.G.ca → XR R' H' c fs d → wAll X.K C.W D l (.ref (C.G.ca c)) d σ' H' := by
  intro hds cls l h
  induction h with
  | nil => exact fun p R' σ' H' d le si hxf hca x => by have q := p R' σ' H' d le si x; rw [hca] at q; exact q
  | @named x n c2 i es hs np pos' lp rp hds cls l hn hi hln hx h r ih =>
    intro p R' σ' H' d le si hxf hca xr
    refine ⟨c2 == c, hx c hc, fun e => ?_, fun e => ?_⟩
    · have e : c2 = c := by simpa using e
      subst e
      rw [List.find?_cons_of_pos (by simp)] at p
      dsimp only at p
      intro a ha
      obtain ⟨dx, vs, fl, e1, e2, e3, e4⟩ := xr
      subst e1
      cases eh : helsD fs hs with
      | none => rw [eh] at p; exact p.elim
      | some ds =>
        rw [eh] at p
        dsimp only at p
        split at p
        case isFalse => exact p.elim
        rename_i hsz
        obtain ⟨hsz, hsl⟩ := hsz
        obtain ⟨m1, m2⟩ := hels_mem h
        have sl0 : (withName σ' a (some i))[i]? = some (some (.ref a)) := List.getElem?_set_self (by rw [← si.len]; exact hsl i rfl)
        have sd := si.dropAny i (some (.ref a))
        refine hel_run (R := R') (fun sl e => by cases e; exact sl0) e2 e3 (fun k f v h1 h2 => e4 k f v (by rw [hxf]; exact h1) h2) m1 m2 eh fun ws rw' => ⟨by rw [rw'.length]; exact hsz, fun L hL => ?_⟩
        obtain ⟨s1, s2⟩ := sd.own_lst hL rw'
        exact p R' _ _ (.ref L) le s1 s2
    · have e : c2 ≠ c := by simpa using e
      rw [List.find?_cons_of_neg (by simpa using e)] at p
      exact ih p R' σ' H' d le si hxf hca xr
  | @plain x c2 es hs np pos' lp rp hds cls l hn hx h r ih =>
    intro p R' σ' H' d le si hxf hca xr
    refine ⟨c2 == c, hx c hc, fun e => ?_, fun e => ?_⟩
    · have e : c2 = c := by simpa using e
      subst e
      rw [List.find?_cons_of_pos (by simp)] at p
      dsimp only at p
      intro a ha
      obtain ⟨dx, vs, fl, e1, e2, e3, e4⟩ := xr
      subst e1
      cases eh : helsD fs hs with
      | none => rw [eh] at p; exact p.elim
      | some ds =>
        rw [eh] at p
        dsimp only at p
        split at p
        case isFalse => exact p.elim
        rename_i hsz
        obtain ⟨hsz, hsl⟩ := hsz
        obtain ⟨m1, m2⟩ := hels_mem h
        refine hel_run (R := R') (fun sl e => by cases e) e2 e3 (fun k f v h1 h2 => e4 k f v (by rw [hxf]; exact h1) h2) m1 m2 eh fun ws rw' => ⟨by rw [rw'.length]; exact hsz, fun L hL => ?_⟩
        obtain ⟨s1, s2⟩ := si.own_lst hL rw'
        exact p R' _ _ (.ref L) le s1 s2
    · have e : c2 ≠ c := by simpa using e
      rw [List.find?_cons_of_neg (by simpa using e)] at p
      exact ih p R' σ' H' d le si hxf hca xr
section
variable {X : Cx} {C : EC} {nC : Nat} {body : List Stmt} {h₀ : ExceptHandler} {hds : List ExceptHandler} {cls : List Cl} {l : List Hd} {pos : Pos} {F : SS → Out Fl}
theorem ps_fTry (hs : X.stack = X.env :: X.outer) (hf : X.env.frame = some X.env.locals) (hN : X.N.Nodup) (hK : X.K = C.G.K) (tk : Takes X C.W)
    (hb : ∀ (W : WX) (pn : List (Addr × Obj)) (xe : Value → Shared → Prop), Takes (X.tr pn xe) W → PassesOwn (model X.prog X.w) X.A X.env xe → PSs (X.tr pn xe) body (tS { C with W := W } F))
    (hh : Cls X C nC (h₀ :: hds) cls l) : PS X (.Try body (h₀ :: hds) [] [] pos) (tS C (fTry nC F cls)) := by
  refine ⟨fun pins s σ H D I h => (ps_try_all hs hf hN tk hb hh.hds).run pins s σ H D I ?_⟩
  obtain ⟨R, S, b, si, p⟩ := h
  refine ⟨R, S, b, si, ?_⟩
  unfold fTry at p
  cases q : F S with
  | no => rw [q] at p; exact p
  | ok fl S1 => rw [q] at p; cases fl <;> exact p
  | exc c fs S1 =>
    rw [q] at p
    dsimp only at p
    split at p
    case isFalse => exact p.elim
    rename_i hc
    intro R' σ' H' d le si' x
    have eca : R.ca = C.G.ca := by rw [b.1]
    have exf : R'.xf = C.G.xf := by rw [(b.le le).1]
    have r := cls_catch hK hc hh p R' σ' H' d le si' exf eca x
    rw [← eca] at r
    exact r
end
end Ev
namespace Ev
open PySem PySem.Spec PyProof.Rows L2
/-! ## 30. lambdas: their making -/
section
variable {X : Cx} {pins : List (Addr × Obj)} {σ : L2.St} {H : Hp} {s : Shared}
theorem inv_lam {l : LamD} {cl : List (Str × Addr)} {dV doc pm ctv : Value} {c' : Addr} {t' : Nat} {o : Obj} (I : Inv X pins σ H s) (ho : o = { cls := .type "function", data := .func (PySem.W.kdv_fn "<lambda>" l.qual l.params (.expr l.body) l.scope cl dV doc pm (.ref c') ctv) }) :
    Inv X pins σ (upd H s.heap.objs.size (LamO s.heap.objs.size c' l cl dV)) { s with heap := s.heap.push o, toks := t' } := by
  subst ho
  refine I.laid (a := s.heap.objs.size) (fun b u e => Heap.get?_push_of_some _ e) (Nat.le_refl _) ?_
  have e : (s.heap.push ({ cls := .type "function", data := .func (PySem.W.kdv_fn "<lambda>" l.qual l.params (.expr l.body) l.scope cl dV doc pm (.ref c') ctv) } : Obj)).get? s.heap.objs.size = some _ := Heap.get?_push_size _ rfl
  exact ⟨⟨_, _, doc, pm, ctv, e⟩, ⟨_, e⟩, fun h1 h2 ⟨od, sl, d, p, t, z⟩ st => ⟨od, sl, d, p, t, st _ z⟩⟩
theorem lam_tail {c P : Addr} {ps : Array Value} {pos : Pos} {dV : Value} {l : LamD} {E : Value → Shared → Prop} {Q : Value → Shared → Prop} (I : Inv X pins σ H s) (TB : LamX.TabB X.base X.mg c P) (hcode : X.env.code = .ref c)
    (hP : H P = some (.tbl ps)) (ht : TriplesOk ps.toList) (ha : ∀ (pos : Pos) (cv : Value), codeAmong pos ps.toList = some cv → ∃ c, cv = .ref c ∧ H c = some (LamX.CodeO c l.qual))
    (hfree : ∀ y ∈ l.scope.names, y.2 = .free → ∃ c, X.env.cells.lookup y.1 = some c)
    (h1 : ∀ f c' s', H c' = none → upd (upd H P (.tbl (ps ++ #[rawInt pos.line, rawInt pos.col, .ref c']))) c' (LamX.CodeO c' l.qual) f = none →
      Inv X pins σ (upd (upd (upd H P (.tbl (ps ++ #[rawInt pos.line, rawInt pos.col, .ref c']))) c' (LamX.CodeO c' l.qual)) f (LamO f c' l (cloFrom X.env.cells l.scope.names []) dV)) s' → Q (.ref f) s')
    (h2 : ∀ f c' s', codeAmong pos ps.toList = some (.ref c') → H f = none → Inv X pins σ (upd H f (LamO f c' l (cloFrom X.env.cells l.scope.names []) dV)) s' → Q (.ref f) s') :
    wpAny (model X.prog X.w) X.A (makeTail "<lambda>" l.qual l.params (.expr l.body) l.scope X.env dV .none none pos pos.line) Q E s := by
  have bP : s.heap.BuiltinsAt X.mg P := TB.bm.keeps I.bk
  have hP' : s.heap.get? P = some { cls := .none, data := .fields ps } := I.hok P _ hP
  cases hc : codeAmong pos ps.toList with
  | none =>
    refine PySem.W.kdv_makeTail (mg := X.mg) (c := c) (P := P) (ps := ps) (closure_ok hfree) I.ok.glob (I.mod.glob.keeps I.bk) hcode (TB.code.keeps I.bk) hP' ht hc TB.gP bP fun c' ctv doc h' tk hx hge hlt hrec htb => ?_
    obtain ⟨c2, oc, vs, t, e2, hoc, hd, hv⟩ := hrec
    cases e2
    have nC : H c' = none := I.hok.fresh hge
    have I1 := LamX.inv_table (t' := tk) (more := #[rawInt pos.line, rawInt pos.col, .ref c']) (h' := h') I hP (fun b o hb e => hx b o hb e) htb hge ⟨oc, vs, t, hoc, hd, hv⟩
    exact h1 _ c' _ nC (I1.hok.fresh (Nat.le_refl _)) (inv_lam I1 rfl)
  | some cv =>
    obtain ⟨c', e, hco⟩ := ha pos cv hc
    subst e
    refine PySem.W.kdv_makeTailHit (mg := X.mg) (c := c) (P := P) (ps := ps) (closure_ok hfree) I.ok.glob (I.mod.glob.keeps I.bk) hcode (TB.code.keeps I.bk) hP' ht hc bP fun ctv doc h' tk hx hsz => ?_
    have I1 : Inv X pins σ H { s with heap := h', toks := tk } := I.kept hx
    exact h2 _ c' _ hc (I1.hok.fresh (Nat.le_refl _)) (inv_lam I1 rfl)
end
section
variable {R : RC} {S : SS} {σ : L2.St} {H : Hp}
theorem SI.noTbl (si : SI R S σ H) {P : Addr} {ps : Array Value} (hP : H P = some (.tbl ps)) : R.Hz P = none ∧ (∀ i, ¬ Owns S σ i P) ∧ NoRef R P ∧ ∀ ps0, R.H0 P = some ps0 → ∃ q, ps0 = .tbl q := by
  have hz : R.Hz P = none := by
    cases e : R.Hz P with
    | none => rfl
    | some o =>
      have q := si.sub0 P o e
      rw [hP] at q
      unfold lkd at q
      cases h : R.lk P with
      | none => rw [h] at q; cases q; exact (si.ntb P ps e).elim
      | some od => rw [h] at q; cases q
  refine ⟨hz, fun i ow => ?_, fun k e => ?_, fun u e => ?_⟩
  · obtain ⟨⟨o, e⟩, e2⟩ := ow
    obtain ⟨a, e3, w⟩ := si.own i o e
    rw [e2] at e3; cases e3
    obtain ⟨_, _, _, w4⟩ := w
    cases o with
    | lst ds => obtain ⟨vs, q, _⟩ := w4; rw [hP] at q; cases q
    | dct kvs => rcases w4 with ⟨ll, q, _⟩ | ⟨ll, q, _⟩ <;> (rw [hP] at q; cases q)
  · obtain ⟨o, _, w⟩ := si.refOf e
    obtain ⟨_, w4⟩ := w
    cases o with
    | lst ds => obtain ⟨vs, q, _⟩ := w4; rw [hP] at q; cases q
    | dct kvs => rcases w4 with ⟨ll, q, _⟩ | ⟨ll, q, _⟩ <;> (rw [hP] at q; cases q)
  · by_cases ht : ∃ q, u = .tbl q
    · exact ht
    · exfalso
      by_cases hn : NoRef0 R P
      · have q := si.keep P u e hn fun ps z => ht ⟨ps, z⟩
        rw [hP] at q
        cases h : R.L0 P with
        | some x => rw [h] at q; cases q; exact ht ⟨_, rfl⟩
        | none =>
          rw [h] at q
          dsimp only at q
          unfold lkd at q
          cases h2 : R.lk P with
          | some x => rw [h2] at q; cases q
          | none => rw [h2] at q; cases q; exact ht ⟨_, rfl⟩
      · unfold NoRef0 at hn
        obtain ⟨k, hk⟩ := Classical.not_forall.mp hn
        have hk := Classical.not_not.mp hk
        obtain ⟨o, _, w⟩ := si.refOf (si.rs0 k P hk)
        obtain ⟨_, w4⟩ := w
        cases o with
        | lst ds => obtain ⟨vs, q, _⟩ := w4; rw [hP] at q; cases q
        | dct kvs => rcases w4 with ⟨ll, q, _⟩ | ⟨ll, q, _⟩ <;> (rw [hP] at q; cases q)
/-- the table grows by a new code object -/
theorem SI.growTab (si : SI R S σ H) {p : Addr × Str} (hp : p ∈ R.tabs) (hu : ∀ q ∈ R.tabs, q.1 = p.1 → q.2 = p.2) {ps : Array Value} {pos : Pos} {c' : Addr} (hP : H p.1 = some (.tbl ps)) (hc : H c' = none) :
    let H1 := upd (upd H p.1 (.tbl (ps ++ #[rawInt pos.line, rawInt pos.col, .ref c']))) c' (LamX.CodeO c' p.2)
    SI (frzR R c' (LamX.CodeO c' p.2)) S σ H1 := by
  intro H1
  obtain ⟨hz, no, nr, h0⟩ := si.noTbl hP
  obtain ⟨c1, c2, c3⟩ := si.fresh hc
  have ne : p.1 ≠ c' := ne_of_none hP hc
  have at_ : ∀ b, b ≠ p.1 → b ≠ c' → H1 b = H b := fun b x y => by show upd _ c' _ b = _; rw [upd_ne y, upd_ne x]
  have old : ∀ b u, H b = some u → b ≠ p.1 → H1 b = some u := fun b u e x => by rw [at_ b x (fun z => by rw [z, hc] at e; cases e)]; exact e
  have atP : H1 p.1 = some (.tbl (ps ++ #[rawInt pos.line, rawInt pos.col, .ref c'])) := by show upd _ c' _ p.1 = _; rw [upd_ne ne, upd_same]
  have atC : H1 c' = some (LamX.CodeO c' p.2) := upd_same
  have le := frzR_le (u := LamX.CodeO c' p.2) c3
  have zP : ∀ {a o}, R.Hz a = some o → a ≠ p.1 := fun {a o} e z => by rw [z, hz] at e; cases e
  have tabz : ∀ q ∈ R.tabs, TabZ (frzR R c' (LamX.CodeO c' p.2)) H1 q := fun q hq => by
    obtain ⟨ps', e1, e2, e3⟩ := si.tb.2 q hq
    by_cases hb : q.1 = p.1
    · rw [hb, hP] at e1; cases e1
      have eL : (ps ++ #[rawInt pos.line, rawInt pos.col, .ref c']).toList = ps.toList ++ [rawInt pos.line, rawInt pos.col, .ref c'] := by simp
      refine ⟨_, by rw [hb]; exact atP, by rw [eL]; exact PySem.TriplesOk_snoc _ _ _ _ e2, fun p' cv hcv => ?_⟩
      rw [eL] at hcv
      rcases LamX.among_app _ e2 hcv with z | z
      · obtain ⟨c0, q1, q2⟩ := e3 p' cv z
        exact ⟨c0, q1, le.hz _ _ q2⟩
      · exact ⟨c', z, by rw [hu q hq hb]; exact upd_same⟩
    · refine ⟨ps', old _ _ e1 hb, e2, fun p' cv hcv => ?_⟩
      obtain ⟨c0, q1, q2⟩ := e3 p' cv hcv
      exact ⟨c0, q1, le.hz _ _ q2⟩
  refine { len := si.len, sub0 := fun b o e => ?_, lkz := fun b od e => ?_, l0 := si.l0, nfz := trivial, z0 := fun b o e => le.hz _ _ (si.z0 b o e), new := fun b o e => ?_, ntb := fun b qs e => ?_, tb := ⟨fun b qs e => ?_, tabz⟩, keep := fun b o e n t => ?_, dom := fun b e => ?_, oldd := si.oldd, val := fun i d e => ?_, own := fun i o e => ?_, disj := si.disj, ref := fun k o e => ?_, rlt := si.rlt, rfr := si.rfr, rs0 := si.rs0, rno := si.rno, rinj := si.rinj, lbl := si.lbl }
  · have e : upd R.Hz c' _ b = some o := e
    by_cases h : b = c'
    · subst h; rw [upd_same] at e; cases e
      rw [atC]
      show _ = some (lkd R b _)
      unfold lkd; rw [si.lkN c3]
    · rw [upd_ne h] at e
      exact old _ _ (si.sub0 b o e) (zP e)
  · have e : R.lk b = some od := e
    obtain ⟨x, y, q⟩ := si.lkz b od e
    exact ⟨x, y, le.hz _ _ q⟩
  · have e : upd R.Hz c' _ b = some o := e
    by_cases h : b = c'
    · subst h; exact .inr c2
    · rw [upd_ne h] at e; exact si.new b o e
  · have e : upd R.Hz c' _ b = some _ := e
    by_cases h : b = c'
    · subst h; rw [upd_same] at e; cases e
    · rw [upd_ne h] at e; exact si.ntb b qs e
  · have e : R.H0 b = some (.tbl qs) := e
    obtain ⟨m, q⟩ := si.tb.1 b qs e
    by_cases h : b = p.1
    · rw [h, hP] at q; cases q
      exact ⟨m ++ #[rawInt pos.line, rawInt pos.col, .ref c'], by rw [h, atP, Array.append_assoc]⟩
    · exact ⟨m, old _ _ q h⟩
  · have e : R.H0 b = some o := e
    have hb : b ≠ p.1 := fun z => by
      rw [z] at e
      obtain ⟨q, hq⟩ := h0 _ e
      exact t q hq
    exact old _ _ (si.keep b o e n t) hb
  · have hb : b ≠ p.1 := fun z => by rw [z, atP] at e; cases e
    have hb2 : b ≠ c' := fun z => by rw [z, atC] at e; cases e
    rw [at_ b hb hb2] at e
    exact si.dom b e
  · obtain ⟨v, e1, r⟩ := si.val i d e
    exact ⟨v, e1, RV.mono le r⟩
  · obtain ⟨b, e1, w⟩ := si.own i o e
    obtain ⟨u, hu'⟩ := w.there
    have hb : b ≠ p.1 := fun z => no i ⟨⟨o, e⟩, by rw [← z]; exact e1⟩
    have hb2 : b ≠ c' := fun z => by rw [z, hc] at hu'; cases hu'
    exact ⟨b, e1, w.mono le (by show upd R.Hz c' _ b = none; rw [upd_ne hb2]; exact w.2.2.1) (at_ b hb hb2)⟩
  · obtain ⟨b, e1, w⟩ := si.ref k o e
    obtain ⟨u, hu'⟩ := w.there
    have hb : b ≠ p.1 := fun z => nr k (by rw [← z]; exact e1)
    have hb2 : b ≠ c' := fun z => by rw [z, hc] at hu'; cases hu'
    exact ⟨b, e1, w.mono le.v (by show upd R.Hz c' _ b = none; rw [upd_ne hb2]; exact w.1) (at_ b hb hb2)⟩
/-- a new object of no slot, frozen at once -/
theorem SI.lay (si : SI R S σ H) {p : Addr} {u : HO} (hp : H p = none) (nt : (∀ ps, u ≠ .tbl ps) ∧ ∀ od o, u ≠ .frz od o) : RLe R (frzR R p u) ∧ SI (frzR R p u) S σ (upd H p u) ∧ (frzR R p u).Hz p = some u := by
  obtain ⟨h1, h2, h3⟩ := si.fresh hp
  exact ⟨frzR_le h3, (si.alloc hp).freeze h2 h3 upd_same nt (fun i ow => si.notOwned hp i ow) (si.notRef hp), upd_same⟩
end
/-! ### the expression -/
def fLam (k : Nat) : SS → Out Res := fun S => .ok (.val (.clm k)) S
/-- one that captures nothing -/
def fLam0 (k : Nat) : SS → Out Res := fun S => .ok (.val (.clo k [])) S
/-- where a lambda stands: its def's code object c, table P -/
structure LamIn (X : Cx) (C : EC) (l : LamD) (c P : Addr) : Prop where
  TB : LamX.TabB X.base X.mg c P
  code : X.env.code = .ref c
  mem : (P, l.qual) ∈ C.G.tabs
  uniq : ∀ q ∈ C.G.tabs, q.1 = P → q.2 = l.qual
  qual : l.qual = X.env.qual ++ "<lambda>"
  free : ∀ y ∈ l.scope.names, y.2 = .free → X.env.scope.names.lookup y.1 = some .cell ∨ X.env.scope.names.lookup y.1 = some .free
  cells : X.env.cells = C.cl
  kwd : l.params.kw_defaults = []
section
variable {X : Cx} {C : EC} {l : LamD} {c P : Addr}
theorem lam_make {dV : Value} {pos : Pos} {pins : List (Addr × Obj)} {σ : L2.St} {H : Hp} {s : Shared} {R : RC} {S : SS} {E : Value → Shared → Prop} {Q : Value → Shared → Prop} (L : LamIn X C l c P) (b : Base C R) (si : SI R S σ H) (I : Inv X pins σ H s)
    (hdv : match l.dv with | none => dV = .none | some n => ∃ t, dV = .ref t ∧ R.Hz t = some (.tup [.int n]))
    (h : ∀ R' H' f s', RLe R R' → SI R' S σ H' → Inv X pins σ H' s' → LamAt R' f l (cloFrom C.cl l.scope.names []) → Q (.ref f) s') :
    wpAny (model X.prog X.w) X.A (makeTail "<lambda>" l.qual l.params (.expr l.body) l.scope X.env dV .none none pos pos.line) Q E s := by
  have hm : (P, l.qual) ∈ R.tabs := by rw [show R.tabs = C.G.tabs by rw [b.1]]; exact L.mem
  have hu : ∀ q ∈ R.tabs, q.1 = P → q.2 = l.qual := by rw [show R.tabs = C.G.tabs by rw [b.1]]; exact L.uniq
  obtain ⟨ps, hP, ht, ha⟩ := si.tb.2 _ hm
  have hfr : ∀ y ∈ l.scope.names, y.2 = .free → ∃ c, X.env.cells.lookup y.1 = some c := fun y hy e => (L.free y hy e).elim (fun z => I.ok.has _ (.inl z)) fun z => I.ok.has _ (.inr z)
  have dvm : ∀ {R' : RC}, RLe R R' → match l.dv with | none => dV = .none | some n => ∃ t, dV = .ref t ∧ R'.Hz t = some (.tup [.int n]) := fun {R'} le => by
    cases e : l.dv with
    | none => rw [e] at hdv; exact hdv
    | some n => rw [e] at hdv; obtain ⟨t, z1, z2⟩ := hdv; exact ⟨t, z1, le.hz _ _ z2⟩
  have ext : ∀ {f c' : Addr} {cl : List (Str × Addr)}, (∀ ps, LamO f c' l cl dV ≠ .tbl ps) ∧ ∀ od o, LamO f c' l cl dV ≠ .frz od o := fun {f c' cl} => by
    unfold LamO
    exact ⟨(fun _ z => by cases z), (fun _ _ z => by cases z)⟩
  refine lam_tail I L.TB L.code hP ht (fun pos cv e => ?_) hfr (fun f c' s' hc hf I1 => ?_) fun f c' s' hc hf I1 => ?_
  · obtain ⟨c', e1, e2⟩ := ha pos cv e
    exact ⟨c', e1, si.sub.at e2 (by unfold LamX.CodeO; rfl)⟩
  · have s1 := si.growTab (p := (P, l.qual)) hm hu (pos := pos) hP hc
    have z0 := (si.fresh hc).2.2
    obtain ⟨l2, s2, e2⟩ := s1.lay hf (u := LamO f c' l (cloFrom X.env.cells l.scope.names []) dV) ext
    have le : RLe R _ := (frzR_le (u := LamX.CodeO c' l.qual) z0).trans l2
    refine h _ _ f s' le s2 I1 ⟨c', dV, ?_, ?_, dvm le⟩
    · rw [e2, L.cells]
    · exact l2.hz _ _ upd_same
  · obtain ⟨c2, e1, e2⟩ := ha pos _ hc
    cases e1
    obtain ⟨l2, s2, e3⟩ := si.lay hf (u := LamO f c' l (cloFrom X.env.cells l.scope.names []) dV) ext
    refine h _ _ f s' l2 s2 I1 ⟨c', dV, ?_, l2.hz _ _ e2, dvm l2⟩
    rw [e3, L.cells]
theorem pe_lam {k : Nat} {pos : Pos} {F : SS → Out Res} {d : D} (hF : ∀ S, F S = .ok (.val d) S) (hk : C.G.la k = l) (L : LamIn X C l c P)
    (hd : match l.dv with | none => l.params.defaults = [] | some n => ∃ j p, l.params.defaults = [.Constant (.int n) j p])
    (hrv : ∀ R f, Base C R → LamAt R f l (cloFrom C.cl l.scope.names []) → RV R .new d (.ref f)) :
    PE X (.Lambda l.params l.body l.scope pos) (tE C F) := by
  refine ⟨fun pins s σ H Q I h => ?_⟩
  obtain ⟨R, S, b, si, p⟩ := h
  rw [hF] at p
  have fin : ∀ {R' H' f s'}, RLe R R' → SI R' S σ H' → Inv X pins σ H' s' → LamAt R' f l (cloFrom C.cl l.scope.names []) → EP X pins σ Q (.ref f) s' := fun {R' H' f s'} le s1 I1 la =>
    ⟨.ref f, H', I1, rfl, p R' H' (.ref f) le s1 (hrv R' f (b.le le) la)⟩
  cases e : l.dv with
  | none =>
    rw [e] at hd
    have hd : l.params.defaults = [] := hd
    refine PySem.W.kla_eval ?_ ?_
    · rw [defaultsOf_eq, hd, L.kwd]; rfl
    · rw [makeFunction_eq, ← L.qual]
      simp only [List.zip_nil_right, List.filterMap_nil, List.isEmpty_nil, if_true, pure_bind]
      exact lam_make L b si I (by rw [e]) fun R' H' f s' => fin
  | some n =>
    rw [e] at hd
    obtain ⟨j, p', hd⟩ := hd
    refine PySem.W.kdv_lam (by rw [hd]; rfl) L.kwd ?_
    rw [hd]
    refine PySem.W.kdv_all1 (thn (pe_int.run pins s σ H (fun v H' => v = .int n ∧ H' = H) I ⟨rfl, rfl⟩) fun u s1 ⟨v, H1, I1, r1, e1, e2⟩ => PySem.W.kdv_all0 ?_)
    subst e1; subst e2
    rw [makeFunction_eq, ← L.qual]
    simp only [List.zip_nil_right, List.filterMap_nil, List.isEmpty_nil, List.isEmpty_cons, Bool.false_eq_true, if_true, if_false, pure_bind]
    refine wpAny_bind (wpAny_newTextTuple ?_)
    have fr : H1 s1.heap.objs.size = none := I1.hok.fresh (Nat.le_refl _)
    have I2 : Inv X pins σ (upd H1 s1.heap.objs.size (.tup [.int n])) { s1 with heap := s1.heap.push { cls := .type "tuple", data := .seq [u].toArray } } :=
      I1.laid (a := s1.heap.objs.size) (fun b u e => Heap.get?_push_of_some _ e) (Nat.le_refl _) ⟨by show 1 ≤ sizeLine; decide, [u], .cons r1 .nil, _, Heap.get?_push_size _ rfl, rfl, _, rfl⟩
    obtain ⟨l2, s2, e3⟩ := si.lay fr (u := .tup [.int n]) ⟨(fun _ z => by cases z), (fun _ _ z => by cases z)⟩
    exact lam_make L (b.le l2) s2 I2 (by rw [e]; exact ⟨_, rfl, e3⟩) fun R' H' f s' le => fin (l2.trans le)
/-- one that captures names -/
theorem pe_fLam {k : Nat} {pos : Pos} (hk : C.G.la k = l) (L : LamIn X C l c P) (hne : C.cl ≠ []) (hd : match l.dv with | none => l.params.defaults = [] | some n => ∃ j p, l.params.defaults = [.Constant (.int n) j p]) : PE X (.Lambda l.params l.body l.scope pos) (tE C (fLam k)) :=
  pe_lam (F := fLam k) (d := .clm k) (fun S => rfl) hk L hd fun R f b la => by
    have e : R.la k = l := by rw [← hk, ← show R.toPG = C.G from b.1]
    rw [RV, b.2.1, e]
    exact ⟨hne, f, rfl, la⟩
theorem pe_fLam0 {k : Nat} {pos : Pos} (hk : C.G.la k = l) (L : LamIn X C l c P) (hfr : l.fr = []) (hnf : ∀ y ∈ l.scope.names, y.2 ≠ .free) (hd : match l.dv with | none => l.params.defaults = [] | some n => ∃ j p, l.params.defaults = [.Constant (.int n) j p]) : PE X (.Lambda l.params l.body l.scope pos) (tE C (fLam0 k)) :=
  pe_lam (F := fLam0 k) (d := .clo k []) (fun S => rfl) hk L hd fun R f b la => by
    have e : R.la k = l := by rw [← hk, ← show R.toPG = C.G from b.1]
    have no : ∀ y c, (cloFrom C.cl l.scope.names []).lookup y ≠ some c := fun y c e => by
      rcases cloFrom_mem (PySem.mem_of_lookup e) with z | z
      · cases z
      · exact hnf _ z.1 rfl
    rw [RV, e]
    exact ⟨f, _, [], rfl, la, by rw [RVs], ⟨by rw [hfr]; rfl, fun y c e => (no y c e).elim, fun y c e => (no y c e).elim, fun x y c e => (no x c e).elim, fun j y e => by rw [hfr] at e; cases e⟩⟩
end
end Ev
namespace Ev
open PySem PySem.Spec PyProof.Rows L2
/-! ## 31. functions that lambdas made: their promise, their call; the call of a def that is handed such -/
/-- what the context's frame knew at its entry -/
def CeX (C : EC) (X : Cx) : Prop := CeOk C.ce X.outer X.s_0.heap X.H_0
theorem CeX.now {C : EC} {X : Cx} {pins : List (Addr × Obj)} {σ : L2.St} {H : Hp} {s : Shared} (h : CeX C X) (I : Inv X pins σ H s) (hex : X.ex = []) : CeOk C.ce X.stack s.heap H := fun c o e => by
  obtain ⟨e1, e2, e3, e4⟩ := h c o e
  have nx : c ∉ X.ex := by rw [hex]; intro z; cases z
  refine ⟨I.base.keep c o e1 e2 e3 nx, I.base.free c o e1 e2 nx, fun z => ?_, e4⟩
  rcases List.mem_cons.mp (I.stkSub c z) with z | z
  · have h1 := Heap.lt_size e1
    rw [z] at h1
    exact Nat.lt_irrefl _ (Nat.lt_of_lt_of_le h1 I.ok.above)
  · exact e3 z
/-- a def's promise, in whatever cells are known -/
structure FnGC (P : Program) (w : World) (K : PySem.W.Frag) (mg : Str → Option Value) (base : Heap) (k : Nat) (f : Addr) (fd : FuncData) (ps : List Str) (sp : (Addr → Option Obj) → Sp) : Prop where
  len : ∀ ce vs H Q E, sp ce vs H Q E → vs.length = ps.length
  run : ∀ (A : Around) (outer : List Env) (s : Shared) (H : Hp) (args : Args) (us : List Value) (vs : List V) (Q : VK) (E : XK) (ce : Addr → Option Obj), Rm k A → Env0 P w K mg base A outer s H → BindsTo s fd args (ps.zip us) → Vals vs us → CeOk ce outer s.heap H → sp ce vs H Q E →
    codeAny (model P w) A (.call (.ref f) args) (CR (L2.CX P w) outer P w H s Q E) s
theorem FnGC.fng {P : Program} {w : World} {K : PySem.W.Frag} {mg : Str → Option Value} {base : Heap} {k : Nat} {f : Addr} {fd : FuncData} {ps : List Str} {sp : (Addr → Option Obj) → Sp} (F : FnGC P w K mg base k f fd ps sp) : FnG P w K mg base k f fd ps (sp ce0) :=
  ⟨fun vs H Q E => F.len ce0 vs H Q E, fun A outer s H args us vs Q E hr e0 hb r q => F.run A outer s H args us vs Q E ce0 hr e0 hb r ceOk0 q⟩
theorem fngc_of {P : Program} {w : World} {K : PySem.W.Frag} {mg : Str → Option Value} {base : Heap} {k : Nat} {f : Addr} {name qual : Str} {params : Arguments} {body : List Stmt} {scope : Scope} {dV kV doc pm cdv ct oc : Value} {an od : Option Addr}
    {osl : Array (Option Value)} {N ps : List Str} {sp : (Addr → Option Obj) → Sp} (lk : K.lookup f = some ⟨oc, od, .func (PySem.W.fnOf name qual params body scope dV kV doc pm an cdv ct), osl⟩) (hcd : PySem.W.codeIn K cdv qual = true) (S : FnScope N ps scope)
    (len : ∀ ce vs H Q E, sp ce vs H Q E → vs.length = ps.length)
    (hbody : ∀ (A : Around) (outer : List Env) (s : Shared) (H : Hp) (vs : List V) (Q : VK) (E : XK) (ce : Addr → Option Obj), Rm k (A.deeper (envOfC qual scope s.heap.objs.size f cdv)) → CeOk ce outer s.heap H → sp ce vs H Q E →
      ∃ t, PSs (cxOf (L2.CX P w) P w K mg base N qual scope f cdv A outer s H E) body t ∧ t { nx := fun _ H' => Q .non H', rt := Q } (L2.start N vs) H) :
    FnGC P w K mg base (k + 1) f (PySem.W.fnOf name qual params body scope dV kV doc pm an cdv ct) ps sp := by
  refine ⟨len, fun A outer s H args us vs Q E ce hr e0 hb r hce hsp => ?_⟩
  have hl := len _ _ _ _ _ hsp
  have kin : K.In s.heap := e0.mod.kin.keeps fun b o e => (e0.bs b o e).1
  have nl : s.heap.NoLimit := e0.mod.nolimit.keeps fun b o e => (e0.bs b o e).1
  have kinds : ∀ y ∈ ps.zip us, scope.names.lookup y.1 = some .local ∨ (scope.names.lookup y.1 = some .cell ∧ ((cellsFrom (s.heap.objs.size + 1) scope.names []).lookup y.1).isSome = true) := fun y hy => by
    obtain ⟨n, v⟩ := y
    rcases S.par n (List.of_mem_zip hy).1 with q | q
    · exact .inl q
    · exact .inr ⟨q, PySem.W.cellsFrom_some _ _ _ (.inl q)⟩
  refine codeAny_call_function hr.depth (kin _ _ lk) rfl S.co S.gen rfl (PySem.W.codeRec_of kin hcd) (hb _ _ _ _ ?_)
  refine wpAny_newFunctionEnv_cells S.kind kinds fun env he s1 x => ?_
  subst he
  refine ⟨nl.keeps x.toInCall.keep, codeAny_func ?_⟩
  obtain ⟨t, ht, hq⟩ := hbody A outer s H vs Q E ce (hr.deeper _) hce hsp
  refine wpAny_mono (ht.run [] s1 (L2.start N vs) H _ (inv_start S hr.hd e0 hl r x) hq) (fun fl s' hs => ?_) fun e s' hs => hs
  cases fl with
  | ret u =>
    obtain ⟨v, σ', H', J, rv, q⟩ := hs
    exact ⟨v, H', J.os, J.bare, J.base, J.hok, rv, q⟩
  | next =>
    obtain ⟨σ', H', J, q⟩ := hs
    exact ⟨V.non, H', J.os, J.bare, J.base, J.hok, rfl, q⟩
  | brk => obtain ⟨_, _, _, q⟩ := hs; exact q.elim
  | cont => obtain ⟨_, _, _, q⟩ := hs; exact q.elim
/-- a def with cells of its own, or one that is handed functions; x: it has cells -/
theorem fn_fOfC {P : Program} {w : World} {K : PySem.W.Frag} {mg : Str → Option Value} {base : Heap} {k : Nat} {fa : Addr} {name qual : Str} {params : Arguments} {body : List Stmt} {scope : Scope} {dV kV doc pm cdv ct oc : Value} {an od : Option Addr}
    {osl : Array (Option Value)} {N ps : List Str} {G : PG} {x : Bool} {cl : Shared → List (Str × Addr)} {F : SS → Out Fl} (hx : x = false → ∀ s, cl s = []) (lk : K.lookup fa = some ⟨oc, od, .func (PySem.W.fnOf name qual params body scope dV kV doc pm an cdv ct), osl⟩) (hcd : PySem.W.codeIn K cdv qual = true) (Sc : FnScope N ps scope) (hnl : ps.length ≤ N.length)
    (hbody : ∀ (A : Around) (outer : List Env) (s : Shared) (H : Hp) (E : XK) (ce : Addr → Option Obj), Rm k (A.deeper (envOfC qual scope s.heap.objs.size fa cdv)) → CeOk ce outer s.heap H →
      PSs (cxOf (L2.CX P w) P w K mg base N qual scope fa cdv A outer s H E) body (tS ⟨G, cl s, ce, fun cls d _ H => E cls d H⟩ F)) :
    FnGC P w K mg base (k + 1) fa (PySem.W.fnOf name qual params body scope dV kV doc pm an cdv ct) ps (spFc G ps.length (fRunX x N.length F)) :=
  fngc_of lk hcd Sc (fun ce vs H Q E h => h.1) fun A outer s H vs Q E ce hr hce h => ⟨_, hbody A outer s H E ce hr hce, run_core hnl (fun z => hx z s) h⟩
/-! ### the function that a lambda made -/
def fRunE (n : Nat) (body : SS → Out Res) : Fun := fun ds S => match body { dl := ds.map .val ++ List.replicate (n - ds.length) .none, om := S.om, lc := S.lc } with
  | .ok r S' => .ok r (S.back S')
  | .exc c fs S' => .exc c fs (S.back S')
  | .no => .no
theorem run_coreE {G : PG} {n : Nat} {ce : Addr → Option Obj} {N : List Str} {F : SS → Out Res} {vs : List V} {H : Hp} {Q : VK} {E : XK} (hnl : n ≤ N.length) (h : spFc G n (fRunE N.length F) ce vs H Q E) :
    tE ⟨G, [], ce, fun cls d _ H => E cls d H⟩ F (L2.start N vs) H Q := by
  obtain ⟨hn, R, S, ds, hG, ⟨hcl, hce⟩, si, hdl, hH, rv, p⟩ := h
  have s0 := si.start (N := N) rv (by rw [hn]; exact hnl)
  refine ⟨R, _, ⟨hG, hcl, hce⟩, s0, ?_⟩
  unfold fRunE at p
  cases q : F { dl := ds.map .val ++ List.replicate (N.length - ds.length) .none, om := S.om, lc := S.lc } with
  | no => rw [q] at p; exact p
  | exc c fs S' =>
    rw [q] at p
    exact fun R' H' d l si' xr => p R' H' d l (si'.end_ S hdl) xr
  | ok r S' =>
    rw [q] at p
    intro R' H' x l si' rr
    refine p R' H' x l (si'.end_ S hdl) ?_
    cases r with
    | val d => exact rr
    | own o =>
      obtain ⟨a, e, w, n, ns⟩ := rr
      refine ⟨a, e, w, fun i ow => ?_, ns⟩
      obtain ⟨⟨o', e1⟩, _⟩ := ow
      have e1 : S.dl[i]? = _ := e1
      rw [hdl] at e1; cases e1
def LamD.nf (l : LamD) (cl : List (Str × Addr)) (c : Addr) : NdefX.NF := ⟨"<lambda>", l.qual, l.params, [], l.scope, cl, c⟩
def dvs (l : LamD) : List D := match l.dv with
  | none => []
  | some n => [.int n]
/-- what a lambda's function promises: na parameters are handed, then comes the default, then what is captured -/
structure LamG (P : Program) (w : World) (K : PySem.W.Frag) (mg : Str → Option Value) (base : Heap) (k : Nat) (l : LamD) (na : Nat) (sp : (Addr → Option Obj) → Sp) : Prop where
  run : ∀ (A : Around) (outer : List Env) (s : Shared) (H : Hp) (us : List Value) (vs ws dw : List V) (Q : VK) (E : XK) (ce : Addr → Option Obj) (f c : Addr) (cl : List (Str × Addr)) (dV : Value), Rm k A → Env0 P w K mg base A outer s H → CeOk ce outer s.heap H →
    H f = some (LamO f c l cl dV) → H c = some (LamX.CodeO c l.qual) → (match l.dv with | none => dw = [] ∧ dV = .none | some n => dw = [.int n] ∧ ∃ t, dV = .ref t ∧ H t = some (.tup [.int n])) → CellsIn ce cl l.fr ws → us.length = na → Vals vs us → sp ce (vs ++ dw ++ ws) H Q E →
    codeAny (model P w) A (.call (.ref f) ⟨us, []⟩) (CR (L2.CX P w) outer P w H s Q E) s
theorem startF_eq {N : List Str} {vs ws : List V} : NdefX.startF N vs (ws.map some) = L2.start N (vs ++ ws) := by
  unfold NdefX.startF L2.start
  rw [List.map_append, List.append_assoc, List.length_append, List.length_map, Nat.sub_sub]
/-- a lambda by its body -/
theorem lam_fOf {P : Program} {w : World} {K : PySem.W.Frag} {mg : Str → Option Value} {base : Heap} {k na : Nat} {l : LamD} {N ps : List Str} {G : PG} {F : SS → Out Res} (Sc : NdefX.NScope N ps l.fr l.scope)
    (hb : match l.dv with
      | none => ps.length = na ∧ ∀ (q : List (Str × Addr)) (doc pm c ctv : Value) (us : List Value), us.length = na → bindArgs (PySem.W.kdv_fn "<lambda>" l.qual l.params (.expr l.body) l.scope q .none doc pm c ctv) ⟨us, []⟩ = pure (ps.zip us)
      | some _ => na = 0 ∧ ps.length = 1 ∧ ∀ (q : List (Str × Addr)) (dV doc pm c ctv : Value), ∃ kk : Option (Array Value) → Sem (List (Str × Value)), bindArgs (PySem.W.kdv_fn "<lambda>" l.qual l.params (.expr l.body) l.scope q dV doc pm c ctv) ⟨[], []⟩ = seqItems? dV >>= kk ∧ ∀ u, kk (some #[u]) = pure (ps.zip [u]))
    (hbody : ∀ (A : Around) (outer : List Env) (s : Shared) (H : Hp) (E : XK) (ce : Addr → Option Obj) (cl : List (Str × Addr)) (f c : Addr), Rm k (A.deeper (NdefX.envF (l.nf cl c) f s.heap.objs.size)) → CeOk ce outer s.heap H →
      PE (NdefX.ncx (L2.CX P w) P w K mg base N (l.nf cl c) f A outer s H E) l.body (tE ⟨G, [], ce, fun cls d _ H => E cls d H⟩ F)) :
    LamG P w K mg base (k + 1) l na (spFc G (na + (dvs l).length + l.fr.length) (fRunE N.length F)) := by
  have hnl : na + (dvs l).length = ps.length := by
    unfold dvs
    cases e : l.dv with
    | none => rw [e] at hb; rw [hb.1]; rfl
    | some n => rw [e] at hb; rw [hb.1, hb.2.1]; rfl
  rw [hnl]
  refine ⟨fun A outer s H us vs ws dw Q E ce f c cl dV hr e0 hce hf hc hdv hcells hul rv hsp => ?_⟩
  have lim : s.heap.NoLimit := e0.mod.nolimit.keeps fun b o e => (e0.bs b o e).1
  have hpl : ps.length + l.fr.length ≤ N.length := by
    have q := congrArg List.length Sc.pre
    rw [List.length_take, List.length_append] at q
    omega
  obtain ⟨⟨od, sl, doc, pm, ctv, ho⟩, _, _⟩ := e0.hok f _ hf
  -- the parameters
  have key : ∃ us' : List Value, Vals (vs ++ dw) us' ∧ (vs ++ dw).length = ps.length ∧ BindsTo s (PySem.W.kdv_fn "<lambda>" l.qual l.params (.expr l.body) l.scope cl dV doc pm (.ref c) ctv) ⟨us, []⟩ (ps.zip us') := by
    cases e : l.dv with
    | none =>
      rw [e] at hb hdv
      obtain ⟨b1, b2⟩ := hb
      obtain ⟨d1, d2⟩ := hdv
      subst d1; subst d2
      refine ⟨us, by rw [List.append_nil]; exact rv, by rw [List.append_nil, Paired.length rv, hul, b1], .of_eq (b2 _ _ _ _ _ us hul)⟩
    | some n =>
      rw [e] at hb hdv
      obtain ⟨b0, b1, b2⟩ := hb
      obtain ⟨d1, t, d2, d3⟩ := hdv
      subst d1; subst d2; subst b0
      have hu : us = [] := List.length_eq_zero_iff.mp hul
      subst hu
      have hv : vs = [] := List.length_eq_zero_iff.mp (by rw [Paired.length rv]; rfl)
      subst hv
      obtain ⟨_, its, rt, o, ht, _, m, hd⟩ := e0.hok t _ d3
      obtain ⟨u, rfl⟩ : ∃ u, its = [u] := by
        have := Paired.length rt
        match its, this with
        | [u], _ => exact ⟨u, rfl⟩
      obtain ⟨kk, k1, k2⟩ := b2 cl (.ref t) doc pm (.ref c) ctv
      exact ⟨[u], rt, by rw [b1]; rfl, .of_defaults rfl ht hd k1 (k2 u)⟩
  obtain ⟨us', rv', hl', hbind⟩ := key
  refine PySem.W.kla_callFunE hr.depth ho rfl Sc.co Sc.gen rfl (NdefX.codeO_at e0.hok hc) (hbind _ _ _ _ ?_)
  refine wpAny_newFunctionEnv Sc.nocell (fun ⟨n, _⟩ hy => Sc.par n (List.of_mem_zip hy).1) (fun h₁ hns hsb => ⟨lim.fresh _ hsb, ?_⟩) Sc.kind
  show codeAny _ _ (.expr l.body (NdefX.envF (l.nf cl c) f s.heap.objs.size)) _ _
  have kp : ∀ b o, s.heap.get? b = some o → h₁.get? b = some o := fun b o e => hsb.extBut b o (Nat.ne_of_lt (Heap.lt_size e)) (Heap.get?_push_of_some _ e)
  have CA : NdefX.CellsAt (l.nf cl c).cl l.fr (ws.map some) s.heap H := by
    refine ⟨by rw [List.length_map]; exact hcells.len, fun y a e => ?_, hcells.inj, fun i y e => ?_⟩
    · obtain ⟨o, ho⟩ := hcells.all y a e
      obtain ⟨z1, z2, _, v, z3⟩ := hce a o ho
      exact ⟨z2, v, o, z1, z3⟩
    · obtain ⟨a, o, u, v, q1, q2, q3, q4, q5⟩ := hcells.has i y e
      obtain ⟨z1, _, _, _⟩ := hce a o q2
      refine ⟨a, q1, fun v' hv' => ?_⟩
      rw [List.getElem?_map, q4] at hv'
      cases hv'
      exact ⟨u, q5, o, z1, q3⟩
  have I : Inv (NdefX.ncx (L2.CX P w) P w K mg base N (l.nf cl c) f A outer s H E) [] (NdefX.startF N (vs ++ dw) (ws.map some)) H { s with heap := h₁, toks := s.toks + (ps.zip us').length } := NdefX.inv_startN Sc hr.hd e0 hl' rv' CA hns kp
  rw [startF_eq] at I
  refine PySem.W.kla_codeExpr (wpAny_mono ((hbody A outer s H E ce cl f c (hr.deeper _) hce).run [] _ _ H Q I (run_coreE hpl hsp)) (fun v s' hq => ?_) fun e s' hq => hq)
  obtain ⟨w', H', J, rv2, q⟩ := hq
  exact ⟨w', H', J.os, J.bare, J.base, J.hok, rv2, q⟩
end Ev
namespace Ev
open PySem PySem.Spec PyProof.Rows L2
/-! ## 32. calls: of a function that a lambda made; of a def that is handed such -/
/-- the name in slot i holds such a function -/
def fClo (xb : Bool) (lamF : Nat → Fun) (la : Nat → LamD) (na : Nat → Nat) (n : Nat) (i : Nat) (g : SS → Out (List AV)) : SS → Out Res := fun S => match S.dl[i]? with
  | some (.val (.clo k cs)) => (g S).bind fun as S1 => if na k = n ∧ as.length = n then (match resolve S1 as with
    | none => .no
    | some ds => callX xb (lamF k) as (ds ++ dvs (la k) ++ cs) S1) else .no
  | _ => .no
theorem RVs.app {R : RC} : ∀ {ds es : List D} {vs ws : List V}, RVs R ds vs → RVs R es ws → RVs R (ds ++ es) (vs ++ ws)
  | [], es, vs, ws, h, h2 => by rw [RVs] at h; subst h; exact h2
  | d :: ds, es, vs, ws, h, h2 => by
    rw [RVs] at h
    obtain ⟨v, r, e, p, q⟩ := h
    subst e
    show RVs R (d :: (ds ++ es)) (v :: r ++ ws)
    rw [RVs]
    exact ⟨v, r ++ ws, rfl, p, RVs.app q h2⟩
theorem RAV.len {R : RC} {σ : L2.St} : ∀ {as : List AV} {vs : List V}, RAV R σ as vs → vs.length = as.length
  | [], vs, h => by rw [show vs = [] from h]; rfl
  | .sl i :: as, vs, h => by obtain ⟨v, r, e, _, h2⟩ := h; rw [e]; simp [RAV.len h2]
  | .dv d :: as, vs, h => by obtain ⟨v, r, e, _, h2⟩ := h; rw [e]; simp [RAV.len h2]
section
variable {X : Cx} {C : EC} {xb : Bool} {lamF : Nat → Fun} {na : Nat → Nat} {i n : Nat} {a : Str} {g : SS → Out (List AV)} {p pos : Pos} {e : Expr} {es : List Expr}
/-- the function that is in slot i, called at s2 with what was handed -/
theorem clo_run {pins : List (Addr × Obj)} {σ : L2.St} {H2 : Hp} {s2 : Shared} {Q : VK} {k : Nat} {cs : List D} {f : Addr} {us : List Value} {vs : List V} {R2 : RC} {S2 : SS} {as : List AV}
    (hm0 : xb = false → C.cl = []) (hce : CeX C X) (hex : X.ex = []) {m : Nat} (hlam : ∀ k, LamG X.prog X.w X.K X.mg X.base m (C.G.la k) (na k) (spFc C.G (na k + (dvs (C.G.la k)).length + (C.G.la k).fr.length) (lamF k))) (hr : Rm m X.A) (tk : Takes X C.W)
    (b2 : Base C R2) (s2i : SI R2 S2 σ H2) (I2 : Inv X pins σ H2 s2) (rv : RV R2 .new (.clo k cs) (.ref f)) (ra : RAV R2 σ as vs) (rus : Vals vs us)
    (p2 : Po C rR R2 σ (if na k = n ∧ as.length = n then (match resolve S2 as with | none => .no | some ds => callX xb (lamF k) as (ds ++ dvs (C.G.la k) ++ cs) S2) else .no) Q) :
    wpAny (model X.prog X.w) X.A (call (.ref f) us) (EP X pins σ Q) X.xe s2 := by
  split at p2
  case isFalse => exact p2.elim
  rename_i hn
  obtain ⟨hna, hal⟩ := hn
  cases er : resolve S2 as with
  | none => rw [er] at p2; exact p2.elim
  | some ds =>
    rw [er] at p2
    dsimp only at p2
    rw [RV] at rv
    obtain ⟨f', cl, ws, ef, la, rcs, ci⟩ := rv
    cases ef
    rw [show R2.la = C.G.la by rw [b2.1]] at la ci
    obtain ⟨c, dV, l1, l2, l3⟩ := la
    have f2 := s2i.sub.at l1 (by unfold LamO; rfl)
    have c2 := s2i.sub.at l2 (by unfold LamX.CodeO; rfl)
    -- the default
    obtain ⟨dw, hdw, rdw, ndw⟩ : ∃ dw : List V, (match (C.G.la k).dv with | none => dw = [] ∧ dV = .none | some n => dw = [.int n] ∧ ∃ t, dV = .ref t ∧ H2 t = some (.tup [.int n])) ∧ (∀ R' : RC, RVs R' (dvs (C.G.la k)) dw) ∧ noFns (dvs (C.G.la k)) = true := by
      cases ed : (C.G.la k).dv with
      | none =>
        rw [ed] at l3
        exact ⟨[], ⟨rfl, l3⟩, fun R' => by unfold dvs; rw [ed]; dsimp only; rw [RVs], by unfold dvs; rw [ed]; rfl⟩
      | some n =>
        rw [ed] at l3
        obtain ⟨t, t1, t2⟩ := l3
        exact ⟨[.int n], ⟨rfl, t, t1, s2i.sub.at t2⟩, fun R' => by unfold dvs; rw [ed]; dsimp only; rw [RVs]; exact ⟨_, [], rfl, by rw [RV], by rw [RVs]⟩, by unfold dvs; rw [ed]; rfl⟩
    have hlen : (vs ++ dw ++ ws).length = na k + (dvs (C.G.la k)).length + (C.G.la k).fr.length := by
      rw [List.length_append, List.length_append, ci.len, ra.len, hal, ← hna, (rdw R2).length]
    have ecR : R2.ce = C.ce := b2.2.2
    have sp : spFc C.G (na k + (dvs (C.G.la k)).length + (C.G.la k).fr.length) (lamF k) C.ce (vs ++ dw ++ ws) H2 Q (WE C.W σ) := by
      cases xb with
      | false =>
        exact sp_callG (xl := false) b2 s2i ra er hlen (.inl ⟨hm0 rfl, fun _ _ h => h⟩) (fun _ _ _ h => h)
          (fun R1 lR b1 r1 => RVs.monoV (enterR_v (b1.2.1.trans (hm0 rfl)) (by rw [b1.2.2]; exact fun _ _ h => h)) ((r1.app (rdw R1)).app (rcs.mono lR))) p2
      | true =>
        unfold callX at p2
        dsimp only at p2
        split at p2
        case isFalse => exact p2.elim
        rename_i z
        rw [Bool.and_eq_true] at z
        exact sp_callG (xl := false) b2 s2i ra er hlen (.inr z.2) (fun _ _ _ h => h) (fun R1 lR b1 r1 => RVs.monoX enterR_x z.1 ((r1.app (rdw R1)).app (rcs.mono lR))) p2
    have hul : us.length = na k := by rw [← Paired.length rus, ra.len, hal, hna]
    refine wpAny_call (codeAny_mono ((hlam k).run X.A X.stack s2 H2 us vs ws dw Q (WE C.W σ) C.ce f c cl dV hr I2.env0 (hce.now I2 hex) f2 c2 hdw (by rw [← ecR]; exact ci) hul rus sp) fun r s' hq => ?_)
    have hx := passAt tk σ
    cases r with
    | error e => exact hx pins H2 s2 e s' I2 hq
    | ok fl =>
      cases fl with
      | ret u => exact I2.after hq
      | next => exact False.elim hq
      | brk => exact False.elim hq
      | cont => exact False.elim hq
theorem lam_fnAt {R : RC} {S : SS} {pins : List (Addr × Obj)} {σ : L2.St} {H : Hp} {s : Shared} {f : Addr} {l : LamD} {cl : List (Str × Addr)} (si : SI R S σ H) (I : Inv X pins σ H s) (la : LamAt R f l cl) : PySem.W.FnAt f s.heap := by
  obtain ⟨c, dV, l1, _, _⟩ := la
  obtain ⟨⟨od, sl, doc, pm, ctv, ho⟩, _, _⟩ := I.hok f _ (si.sub.at l1 (by unfold LamO; rfl))
  exact ⟨_, od, _, sl, ho⟩
theorem pe_fClo (hm0 : xb = false → C.cl = []) (hce : CeX C X) (hex : X.ex = []) {m : Nat} (hlam : ∀ k, LamG X.prog X.w X.K X.mg X.base m (C.G.la k) (na k) (spFc C.G (na k + (dvs (C.G.la k)).length + (C.G.la k).fr.length) (lamF k))) (hr : Rm m X.A) (tk : Takes X C.W)
    (hN : X.N[i]? = some a) (hv : Vis X.env.scope a) (hd : (a == ("__debug__" : Str)) = false) (hcd : (a == ("__classdict__" : Str)) = false) (ha : PA X (e :: es) (tAV C g)) (he : starEach (e :: es) X.env = (false, eval e X.env) :: starEach es X.env) (hpl : (backTo pos (starEach es X.env)).any (·.1) = false) :
    PE X (.Call (.Name a p) (e :: es) [] pos) (tE C (fClo xb lamF C.G.la na n i g)) := by
  refine ⟨fun pins s σ H Q I h => ?_⟩
  obtain ⟨R, S, b, si, p0⟩ := h
  unfold fClo at p0
  split at p0
  case h_2 => exact p0.elim
  rename_i k cs es1
  obtain ⟨v, ev, rv⟩ := si.val i _ es1
  have rv0 := rv
  rw [RV] at rv0
  obtain ⟨f, cl, ws, ef, la, rcs, ci⟩ := rv0
  subst ef
  refine wpAny_Call_Name_kw (thn ((pe_var (pos := p) hN hv hd hcd).run pins s σ H (fun v H1 => v = .ref f ∧ H1 = H) I ⟨.ref f, ev, rfl, rfl⟩) fun u s1 ⟨v, H1, I1, r1, q1⟩ => ?_)
  obtain ⟨ev', eH⟩ := q1
  subst ev'
  rw [eH] at I1
  obtain rfl : u = Value.ref f := r1
  refine PySem.W.callWith_F (first := []) (lam_fnAt si I1 la) (thn (ha.run pos pins s1 σ H _ I1 (seqT (rel := rAV) b si p0)) fun us s2 ⟨vs, H2, I2, r, R2, S2, as, lR, b2, s2i, ra, p2⟩ => ⟨lam_fnAt s2i I2 (la.mono lR.hz), ?_⟩) he hpl
  show wpAny _ _ (call (.ref f) us) _ _ _
  exact clo_run hm0 hce hex hlam hr tk b2 s2i I2 (rv.mono lR) ra r p2
theorem pe_fClo0 (hm0 : xb = false → C.cl = []) (hce : CeX C X) (hex : X.ex = []) {m : Nat} (hlam : ∀ k, LamG X.prog X.w X.K X.mg X.base m (C.G.la k) (na k) (spFc C.G (na k + (dvs (C.G.la k)).length + (C.G.la k).fr.length) (lamF k))) (hr : Rm m X.A) (tk : Takes X C.W)
    (hN : X.N[i]? = some a) (hv : Vis X.env.scope a) (hd : (a == ("__debug__" : Str)) = false) (hcd : (a == ("__classdict__" : Str)) = false) :
    PE X (.Call (.Name a p) [] [] pos) (tE C (fClo xb lamF C.G.la na n i gNil)) := by
  refine ⟨fun pins s σ H Q I h => ?_⟩
  obtain ⟨R, S, b, si, p0⟩ := h
  unfold fClo at p0
  split at p0
  case h_2 => exact p0.elim
  rename_i k cs es1
  obtain ⟨v, ev, rv⟩ := si.val i _ es1
  have rv0 := rv
  rw [RV] at rv0
  obtain ⟨f, cl, ws, ef, la, rcs, ci⟩ := rv0
  subst ef
  refine wpAny_Call_Name_kw (thn ((pe_var (pos := p) hN hv hd hcd).run pins s σ H (fun v H1 => v = .ref f ∧ H1 = H) I ⟨.ref f, ev, rfl, rfl⟩) fun u s1 ⟨v, H1, I1, r1, q1⟩ => ?_)
  obtain ⟨ev', eH⟩ := q1
  subst ev'
  rw [eH] at I1
  obtain rfl : u = Value.ref f := r1
  refine PySem.W.callWith_F0 (first := []) (lam_fnAt si I1 la) ?_
  show wpAny _ _ (call (.ref f) []) _ _ _
  exact clo_run (vs := []) hm0 hce hex hlam hr tk b si I1 rv (show RAV R σ [] [] from rfl) .nil p0
end
/-! ### functions of the frame's own lambdas are handed to a def: with what their cells hold now -/
def slotsD (S : SS) : List Nat → Option (List D)
  | [] => some []
  | j :: js => match dval S j, slotsD S js with
    | some d, some ds => some (d :: ds)
    | _, _ => none
def lendD (mine : List Nat) (caps : Nat → List Nat) (S : SS) : List D → Option (List D)
  | [] => some []
  | .clm k :: ds => if mine.contains k then (match slotsD S (caps k), lendD mine caps S ds with
    | some cs, some ds' => if noFns cs then some (.clo k cs :: ds') else none
    | _, _ => none) else none
  | d :: ds => if noFn d then (match lendD mine caps S ds with
    | some ds' => some (d :: ds')
    | none => none) else none
def capsOf (caps : Nat → List Nat) : List D → List Nat
  | [] => []
  | .clm k :: ds => caps k ++ capsOf caps ds
  | _ :: ds => capsOf caps ds
def fCallC (mine : List Nat) (caps : Nat → List Nat) (f : Fun) (g : SS → Out (List AV)) : SS → Out Res := fun S => (g S).bind fun as S1 => match resolve S1 as with
  | none => .no
  | some ds => match resolve S1 (as ++ (capsOf caps ds).map .sl), lendD mine caps S1 ds with
    | some _, some ds' => if S1.om.all Ob.noFn then chk true (callWith f (as ++ (capsOf caps ds).map .sl) ds' S1) else .no
    | _, _ => .no
/-- what is known in the callee: what was known, and the frame's own cells -/
noncomputable def ownCe (C : EC) (X : Cx) (h : Heap) : Addr → Option Obj := fun c => by
  classical exact if ∃ y, X.env.cells.lookup y = some c then h.get? c else C.ce c
structure CapOk (X : Cx) (l : LamD) (cap : List Nat) : Prop where
  at_ : cap.map (fun j => X.N[j]?) = l.fr.map some
  free : ∀ y ∈ l.scope.names, y.2 = .free → y.1 ∈ l.fr
  kin : ∀ y ∈ l.fr, X.env.scope.names.lookup y = some .cell
  frk : ∀ y ∈ l.fr, (y, NameKind.free) ∈ l.scope.names
section
variable {X : Cx} {C : EC} {R : RC} {S S1 : SS} {σ : L2.St} {H : Hp} {pins : List (Addr × Obj)} {s : Shared}
theorem ownCe_ok (I : Inv X pins σ H s) (hce : CeX C X) (hex : X.ex = []) (hfn : ∀ y, X.fn y = true) : CeOk (ownCe C X s.heap) X.stack s.heap H := fun c o e => by
  unfold ownCe at e
  split at e
  · rename_i h
    obtain ⟨y, hy⟩ := h
    obtain ⟨v, o', ho, hd⟩ := I.cell y c hy
    rw [ho] at e; cases e
    refine ⟨ho, I.freeC y c hy, fun z => ?_, v, hd⟩
    rcases List.mem_cons.mp (I.stkSub c z) with z | z
    · exact I.cne y c hy z
    · obtain ⟨_, o2, ho2, _⟩ := I.ok.funs.mem z
      exact Nat.lt_irrefl _ (Nat.lt_of_lt_of_le (Heap.lt_size ho2) (I.ok.cab y c (hfn y) hy))
  · exact hce.now I hex c o e
theorem dval_slot (si : SI R S σ H) {j : Nat} {d : D} (e : dval S j = some d) : ∃ v, σ[j]? = some (some v) := by
  unfold dval at e
  cases q : S.dl[j]? with
  | none => rw [q] at e; cases e
  | some sl =>
    rw [q] at e
    cases sl with
    | none => cases e
    | val d' => obtain ⟨v, h, _⟩ := si.val j d' q; exact ⟨v, h⟩
    | own o => obtain ⟨a, h, _⟩ := si.own j o q; exact ⟨_, h⟩
theorem rav_slots (si : SI R S σ H) : ∀ {js : List Nat} {ds : List D}, resolve S (js.map .sl) = some ds → ∃ vs, RAV R σ (js.map .sl) vs
  | [], ds, e => ⟨[], rfl⟩
  | j :: js, ds, e => by
    rw [List.map_cons, resolve] at e
    cases e1 : dval S j with
    | none => rw [e1] at e; cases e
    | some d =>
      cases e2 : resolve S (js.map .sl) with
      | none => rw [e1, e2] at e; cases e
      | some ds' =>
        obtain ⟨v, hv⟩ := dval_slot si e1
        obtain ⟨vs, h⟩ := rav_slots si e2
        exact ⟨v :: vs, v, vs, rfl, hv, h⟩
theorem RAV.app {R : RC} {σ : L2.St} : ∀ {as bs : List AV} {vs ws : List V}, RAV R σ as vs → RAV R σ bs ws → RAV R σ (as ++ bs) (vs ++ ws)
  | [], bs, vs, ws, h, h2 => by rw [show vs = [] from h]; exact h2
  | .sl i :: as, bs, vs, ws, ⟨v, r, e, h1, h⟩, h2 => ⟨v, r ++ ws, by rw [e]; rfl, h1, RAV.app h h2⟩
  | .dv d :: as, bs, vs, ws, ⟨v, r, e, h1, h⟩, h2 => ⟨v, r ++ ws, by rw [e]; rfl, h1, RAV.app h h2⟩
theorem resolve_app (S : SS) : ∀ {as bs : List AV} {ds : List D}, resolve S (as ++ bs) = some ds → ∃ d1 d2, resolve S as = some d1 ∧ resolve S bs = some d2 ∧ ds = d1 ++ d2
  | [], bs, ds, h => ⟨[], ds, rfl, h, rfl⟩
  | .sl i :: as, bs, ds, h => by
    rw [List.cons_append, resolve] at h
    cases e1 : dval S i with
    | none => rw [e1] at h; cases h
    | some d =>
      cases e2 : resolve S (as ++ bs) with
      | none => rw [e1, e2] at h; cases h
      | some ds' =>
        rw [e1, e2] at h; cases h
        obtain ⟨d1, d2, h1, h2, h3⟩ := resolve_app S e2
        exact ⟨d :: d1, d2, by rw [resolve, e1, h1], h2, by rw [h3]; rfl⟩
  | .dv d :: as, bs, ds, h => by
    rw [List.cons_append, resolve] at h
    cases e2 : resolve S (as ++ bs) with
    | none => rw [e2] at h; cases h
    | some ds' =>
      rw [e2] at h; cases h
      obtain ⟨d1, d2, h1, h2, h3⟩ := resolve_app S e2
      exact ⟨d :: d1, d2, by rw [resolve, h1], h2, by rw [h3]; rfl⟩
/-- each slot that was handed, with its value -/
theorem rav_get {R R1 : RC} {σ : L2.St} {S : SS} : ∀ {as : List AV} {vs : List V} {ds : List D}, RAV R σ as vs → resolve S as = some ds → RVs R1 ds vs → ∀ j, AV.sl j ∈ as → ∃ d v, dval S j = some d ∧ σ[j]? = some (some v) ∧ RV R1 .new d v
  | [], vs, ds, _, _, _, j, m => by cases m
  | .sl i :: as, vs, ds, ⟨v, r, e, h1, h⟩, er, rr, j, m => by
    rw [resolve] at er
    cases e1 : dval S i with
    | none => rw [e1] at er; cases er
    | some d =>
      cases e2 : resolve S as with
      | none => rw [e1, e2] at er; cases er
      | some ds' =>
        rw [e1, e2] at er; cases er
        rw [RVs] at rr
        obtain ⟨v', r', e', p, q⟩ := rr
        rw [e] at e'; cases e'
        rcases List.mem_cons.mp m with z | z
        · cases z; exact ⟨d, v, e1, h1, p⟩
        · exact rav_get h e2 q j z
  | .dv d :: as, vs, ds, ⟨v, r, e, h1, h⟩, er, rr, j, m => by
    rw [resolve] at er
    cases e2 : resolve S as with
    | none => rw [e2] at er; cases er
    | some ds' =>
      rw [e2] at er; cases er
      rw [RVs] at rr
      obtain ⟨v', r', e', p, q⟩ := rr
      rw [e] at e'; cases e'
      rcases List.mem_cons.mp m with z | z
      · cases z
      · exact rav_get h e2 q j z
/-- the captured slots, as the callee sees them -/
theorem caps_rvs {R1 R2 : RC} (lx : RLx R1 R2) (hs : ∀ j d, dval S j = some d → ∀ v, σ[j]? = some (some v) → True) : ∀ {js : List Nat} {cs : List D}, (∀ j ∈ js, ∃ d v, dval S j = some d ∧ σ[j]? = some (some v) ∧ RV R1 .new d v) → slotsD S js = some cs → noFns cs = true →
    ∃ ws : List V, RVs R2 cs ws ∧ js.map (fun j => NdefX.slotAt σ j) = ws.map some
  | [], cs, _, e, _ => by rw [slotsD] at e; cases e; exact ⟨[], by rw [RVs], rfl⟩
  | j :: js, cs, h, e, n => by
    rw [slotsD] at e
    obtain ⟨d, v, h1, h2, h3⟩ := h j List.mem_cons_self
    rw [h1] at e
    cases e2 : slotsD S js with
    | none => rw [e2] at e; cases e
    | some cs' =>
      rw [e2] at e; cases e
      rw [noFns, Bool.and_eq_true] at n
      obtain ⟨ws, r, q⟩ := caps_rvs lx hs (fun j m => h j (List.mem_cons_of_mem _ m)) e2 n.2
      refine ⟨v :: ws, by rw [RVs]; exact ⟨v, ws, rfl, RV.monoX lx n.1 h3, r⟩, ?_⟩
      rw [List.map_cons, List.map_cons, q, NdefX.slotAt_of h2]
theorem lend_rvs {R1 R2 : RC} (lx : RLx R1 R2) {mine : List Nat} {caps : Nat → List Nat} (hcl : ∀ k cs, k ∈ mine → ∀ f, LamAt R1 f (R1.la k) (cloFrom R1.cl (R1.la k).scope.names []) → ∀ ws, RVs R2 cs ws → (caps k).map (fun j => NdefX.slotAt σ j) = ws.map some → RV R2 .new (.clo k cs) (.ref f)) :
    ∀ {ds ds' : List D} {vs : List V}, (∀ j ∈ capsOf caps ds, ∃ d v, dval S j = some d ∧ σ[j]? = some (some v) ∧ RV R1 .new d v) → RVs R1 ds vs → lendD mine caps S ds = some ds' → RVs R2 ds' vs
  | [], ds', vs, _, r, e => by rw [lendD] at e; cases e; rw [RVs] at r ⊢; exact r
  | d :: ds, ds', vs, hc, r, e => by
    rw [RVs] at r
    obtain ⟨v, vs', ev, r1, r2⟩ := r
    subst ev
    have plain : noFn d = true → (∀ k, d ≠ .clm k) → (match lendD mine caps S ds with | some ds' => some (d :: ds') | none => none) = some ds' → (∀ j ∈ capsOf caps ds, ∃ d v, dval S j = some d ∧ σ[j]? = some (some v) ∧ RV R1 .new d v) → RVs R2 ds' (v :: vs') := fun n _ e hc => by
      cases q : lendD mine caps S ds with
      | none => rw [q] at e; cases e
      | some ds2 =>
        rw [q] at e; cases e
        rw [RVs]
        exact ⟨v, vs', rfl, RV.monoX lx n r1, lend_rvs lx hcl hc r2 q⟩
    cases d with
    | clm k =>
      rw [lendD] at e
      split at e
      case isFalse => cases e
      rename_i hk
      have hk : k ∈ mine := by simpa using hk
      cases q1 : slotsD S (caps k) with
      | none => rw [q1] at e; cases e
      | some cs =>
        cases q2 : lendD mine caps S ds with
        | none => rw [q1, q2] at e; cases e
        | some ds2 =>
          rw [q1, q2] at e
          dsimp only at e
          split at e
          case isFalse => cases e
          rename_i nc
          cases e
          rw [capsOf] at hc
          obtain ⟨ws, rw', eq⟩ := caps_rvs lx (fun _ _ _ _ _ => True.intro) (fun j m => hc j (List.mem_append_left _ m)) q1 nc
          rw [RV] at r1
          obtain ⟨_, f, ef, la⟩ := r1
          subst ef
          rw [RVs]
          exact ⟨_, vs', rfl, hcl k cs hk f la ws rw' eq, lend_rvs lx hcl (fun j m => hc j (List.mem_append_right _ m)) r2 q2⟩
    | _ =>
      rw [lendD] at e
      · split at e
        case isFalse => cases e
        rename_i n
        rw [capsOf] at hc
        · exact plain n (fun k z => by cases z) e hc
        · intro k z; cases z
      · intro k z; cases z
end
theorem RVs.split {R : RC} : ∀ {ds es : List D} {vs ws : List V}, ds.length = vs.length → RVs R (ds ++ es) (vs ++ ws) → RVs R ds vs
  | [], es, [], ws, _, _ => by rw [RVs]
  | d :: ds, es, v :: vs, ws, e, h => by
    rw [List.cons_append, RVs] at h
    obtain ⟨v', r, e', p, q⟩ := h
    cases e'
    rw [RVs]
    exact ⟨v, vs, rfl, p, RVs.split (by simpa using e) q⟩
  | [], es, v :: vs, ws, e, _ => by cases e
  | d :: ds, es, [], ws, e, _ => by cases e
theorem resolve_len (S : SS) : ∀ {as : List AV} {ds : List D}, resolve S as = some ds → ds.length = as.length
  | [], ds, h => by rw [resolve] at h; cases h; rfl
  | .sl i :: as, ds, h => by
    rw [resolve] at h
    cases e1 : dval S i with
    | none => rw [e1] at h; cases h
    | some d =>
      cases e2 : resolve S as with
      | none => rw [e1, e2] at h; cases h
      | some ds' => rw [e1, e2] at h; cases h; simp [resolve_len S e2]
  | .dv d :: as, ds, h => by
    rw [resolve] at h
    cases e2 : resolve S as with
    | none => rw [e2] at h; cases h
    | some ds' => rw [e2] at h; cases h; simp [resolve_len S e2]
section
variable {X : Cx} {C : EC} {k : Nat} {fa : Addr} {fd : FuncData} {ps : List Str} {f : Fun} {g : SS → Out (List AV)} {x : Str} {p pos : Pos} {e : Expr} {es : List Expr} {mine : List Nat} {caps : Nat → List Nat}
theorem callC_sp {pins : List (Addr × Obj)} {σ : L2.St} {H : Hp} {s : Shared} {Q : VK} {R : RC} {S1 : SS} {as : List AV} {vs : List V} (I : Inv X pins σ H s) (b : Base C R) (si : SI R S1 σ H) (ra : RAV R σ as vs) {n : Nat} (hn : vs.length = n) (hcl : X.env.cells = C.cl) (hcap : ∀ k ∈ mine, CapOk X (C.G.la k) (caps k))
    (p : Po C rR R σ (match resolve S1 as with
      | none => .no
      | some ds => match resolve S1 (as ++ (capsOf caps ds).map .sl), lendD mine caps S1 ds with
        | some _, some ds' => if S1.om.all Ob.noFn then chk true (callWith f (as ++ (capsOf caps ds).map .sl) ds' S1) else .no
        | _, _ => .no) Q) :
    spFc C.G n f (ownCe C X s.heap) vs H Q (WE C.W σ) := by
  cases e1 : resolve S1 as with
  | none => rw [e1] at p; exact p.elim
  | some ds =>
    rw [e1] at p
    dsimp only at p
    cases e2 : resolve S1 (as ++ (capsOf caps ds).map .sl) with
    | none => rw [e2] at p; exact p.elim
    | some dall =>
      cases e3 : lendD mine caps S1 ds with
      | none => rw [e2, e3] at p; exact p.elim
      | some ds' =>
        rw [e2, e3] at p
        dsimp only at p
        split at p
        case isFalse => exact p.elim
        rename_i hom
        obtain ⟨d1, d2, h1, h2, h3⟩ := resolve_app S1 e2
        rw [e1] at h1; cases h1
        subst h3
        obtain ⟨ws, rw'⟩ := rav_slots si h2
        have rall := RAV.app ra rw'
        refine sp_callG (xl := true) b si rall e2 hn (.inr hom) (fun z => by cases z) (fun R1 lR b1 r1 => ?_) p
        have r0 : RVs R1 ds vs := r1.split (by rw [resolve_len S1 e1, ra.len])
        refine lend_rvs (R1 := R1) enterR_x (fun k cs hk f' la ws' rws eq => ?_) (fun j m => rav_get rall e2 r1 j (List.mem_append_right _ (List.mem_map.mpr ⟨j, m, rfl⟩))) r0 e3
        have ela : R1.la k = C.G.la k := by rw [← show R1.toPG = C.G from b1.1]
        have ecl : R1.cl = X.env.cells := b1.2.1.trans hcl.symm
        have co := hcap k hk
        have hfree : ∀ y ∈ (C.G.la k).scope.names, y.2 = .free → X.env.scope.names.lookup y.1 = some .cell ∨ X.env.scope.names.lookup y.1 = some .free := fun y hy e => .inl (co.kin _ (co.free y hy e))
        have hf : ∀ y ∈ (C.G.la k).scope.names, y.2 = .free → ∃ c, X.env.cells.lookup y.1 = some c := fun y hy e => (hfree y hy e).elim (fun z => I.ok.has _ (.inl z)) fun z => I.ok.has _ (.inr z)
        have CA := NdefX.cells_of I (NdefX.Caps.made (scope := (C.G.la k).scope) I.ok hfree co.frk co.at_)
        rw [eq] at CA
        have own : ∀ {y : Str} {c : Addr}, (cloFrom X.env.cells (C.G.la k).scope.names []).lookup y = some c → X.env.cells.lookup y = some c ∧ ownCe C X s.heap c = s.heap.get? c := fun {y c} e => by
          have h := NdefX.clo_cm hf e
          refine ⟨h, ?_⟩
          unfold ownCe
          rw [if_pos ⟨y, h⟩]
        rw [ela, ecl] at la
        rw [RV]
        refine ⟨f', cloFrom X.env.cells (C.G.la k).scope.names [], ws', rfl, by show LamAt _ f' (R1.la k) _; rw [ela]; exact la, rws, ?_⟩
        show CellsIn (ownCe C X s.heap) _ (R1.la k).fr ws'
        rw [ela]
        refine ⟨by have := CA.len; rwa [List.length_map] at this, fun y c e => ?_, fun y c e => ?_, CA.inj, fun j y e => ?_⟩
        · obtain ⟨_, v, o, ho, _⟩ := CA.all y c e
          exact ⟨o, by rw [(own e).2]; exact ho⟩
        · rcases cloFrom_mem (PySem.mem_of_lookup e) with z | z
          · cases z
          · exact co.free _ z.1 rfl
        · obtain ⟨c, hc, hv⟩ := CA.has j y e
          have hj : j < ws'.length := by
            have hl := CA.len
            rw [List.length_map] at hl
            rw [hl]
            exact (List.getElem?_eq_some_iff.mp e).1
          have ew := List.getElem?_eq_getElem hj
          obtain ⟨u, ru, o, ho, hd⟩ := hv ws'[j] (by rw [List.getElem?_map, ew]; rfl)
          exact ⟨c, o, u, ws'[j], hc, by rw [(own hc).2]; exact ho, hd, ew, ru⟩
theorem pe_fCallC (F : FnGC X.prog X.w X.K X.mg X.base k fa fd ps (spFc C.G ps.length f)) (hr : Rm k X.A) (hg : Gl X x) (hm : X.mg x = some (.ref fa)) (hk : PySem.W.keepIn X.K (.ref fa) = true) (hb : ∀ us : List Value, us.length = ps.length → bindArgs fd ⟨us, []⟩ = pure (ps.zip us)) (tk : Takes X C.W)
    (hce : CeX C X) (hex : X.ex = []) (hfn : ∀ y, X.fn y = true) (hcl : X.env.cells = C.cl) (hcap : ∀ k ∈ mine, CapOk X (C.G.la k) (caps k))
    (ha : PA X (e :: es) (tAV C g)) (hl : (e :: es).length = ps.length) (hdb : (x == ("__debug__" : Str)) = false) (hp : plainArg e = true) (hpl : (backTo pos (starEach es X.env)).any (·.1) = false) (hlen : ∀ S S' as, g S = .ok as S' → as.length = (e :: es).length) :
    PE X (.Call (.Name x p) (e :: es) [] pos) (tE C (fCallC mine caps f g)) := by
  refine ⟨fun pins s σ H Q I h => ?_⟩
  refine wpAny_Call_Name_kw (ld_glob I hg hm ?_ hdb)
  have key : tAV C g σ H fun vs H1 => vs.length = ps.length ∧ ∃ R S1 as, Base C R ∧ SI R S1 σ H1 ∧ RAV R σ as vs ∧ Po C rR R σ (match resolve S1 as with
      | none => .no
      | some ds => match resolve S1 (as ++ (capsOf caps ds).map .sl), lendD mine caps S1 ds with
        | some _, some ds' => if S1.om.all Ob.noFn then chk true (callWith f (as ++ (capsOf caps ds).map .sl) ds' S1) else .no
        | _, _ => .no) Q := by
    obtain ⟨R, S, b, si, p0⟩ := h
    refine ⟨R, S, b, si, ?_⟩
    unfold fCallC at p0
    cases q : g S with
    | no => rw [q] at p0; exact p0
    | exc c fs S' => rw [q] at p0; exact p0
    | ok as S' =>
      rw [q] at p0
      intro R' H' vs l si' ra
      exact ⟨by rw [RAV.len ra, hlen S S' as q, hl], R', S', as, b.le l, si', ra, Po.up p0 l⟩
  refine PySem.W.callWith_K (h₀ := X.base) I.ok.mod.kin hk (thn (ha.run pos pins s σ H _ I key) fun us s1 ⟨vs, H1, I1, r, hvl, R, S1, as, b, si, ra, p⟩ => ⟨I1.kIn, ?_⟩) (starEach_plain hp) hpl
  have hul : us.length = ps.length := by rw [← Paired.length r]; exact hvl
  have sp := callC_sp I1 b si ra hvl hcl hcap p
  refine wpAny_call (codeAny_mono (F.run X.A X.stack s1 H1 ⟨us, []⟩ us vs Q (WE C.W σ) (ownCe C X s1.heap) hr I1.env0 (.of_eq (hb us hul)) r (ownCe_ok I1 hce hex hfn) sp) fun r s' hq => ?_)
  have hx := passAt tk σ
  cases r with
  | error e => exact hx pins H1 s1 e s' I1 hq
  | ok fl =>
    cases fl with
    | ret u => exact I1.after hq
    | next => exact False.elim hq
    | brk => exact False.elim hq
    | cont => exact False.elim hq
end
end Ev
namespace Ev
open PySem PySem.Spec PyProof.Rows L2
/-! ## 33. the very same object: one that grows and shrinks again while it is looked at -/
/-- a branch that is not gone -/
def fNo : SS → Out Fl := fun _ => .no
theorem pss_fNo {X : Cx} {C : EC} {b : List Stmt} : PSs X b (tS C fNo) := ⟨fun pins s σ H D I h => by obtain ⟨R, S, _, _, p⟩ := h; exact p.elim⟩
def fVeryL : SS → Out Fl := fun S => match S.dl[0]?, S.dl[1]? with
  | some (Ev.Slot.val (.lab m _)), some (Ev.Slot.val (.lab n (.lst xs))) => if m = n ∧ n ≠ 0 ∧ xs.length < sizeLine ∧ 2 < S.dl.length then .ok (.rt (.val (.bl true))) (S.put 2 (.val (.bl true))) else .no
  | _, _ => .no
/-- the names that it needs -/
structure VeryN (X : Cx) (C : EC) : Prop where
  hK : X.K = C.G.K
  nd : X.N.Nodup
  n0 : X.N[0]? = some ("kept" : Str)
  n1 : X.N[1]? = some ("thing" : Str)
  n2 : X.N[2]? = some ("found" : Str)
  l0 : X.env.scope.names.lookup ("kept" : Str) = some .local
  l1 : X.env.scope.names.lookup ("thing" : Str) = some .local
  l2 : X.env.scope.names.lookup ("found" : Str) = some .local
  gI : Gl X "isinstance"
  mI : X.mg "isinstance" = none
  gL : Gl X "len"
  mL : X.mg "len" = none
  tl : ∀ p, TyNs X [.Name "list" p] ["list"]
section
variable {X : Cx} {C : EC}
def tVL : TS := fun D σ H => ∃ a vs, σ[0]? = some (some (.ref a)) ∧ σ[1]? = some (some (.ref a)) ∧ 2 < σ.length ∧ H a = some (.lst vs) ∧ vs.length < sizeLine ∧ D.rt (.bl true) H
theorem atI_last {vs : List V} {v : V} : atI (vs ++ [v]) (-1) = some v := by
  have e : ixN (vs ++ [v]).length (-1) = some vs.length := by
    unfold ixN
    rw [if_neg (by decide), List.length_append]
    simp
    omega
  unfold atI
  rw [e]
  simp
theorem pss_veryL {p1 p2 p3 p4 p5 p6 p6' p7 p8 p9 p10 p11 p12 p13 p14 p15 p16 p17 p18 p19 p20 p21 p22 p23 p24 p25 p26 p27 p27' p28 p29 : Pos} {k1 k2 k3 : Nat} (W : VeryN X C)
    (hb1 : attributeBase (.Name "thing" p1) "append" X.env (eval (.Name "thing" p1) X.env) = eval (.Name "thing" p1) X.env) (hl1 : (p2.endLine == p4.line) = true)
    (hb2 : attributeBase (.Name "thing" p23) "pop" X.env (eval (.Name "thing" p23) X.env) = eval (.Name "thing" p23) X.env) (hl2 : (p24.endLine == p25.line) = true)
    (hs1 : swapsWith (.Call (.Attribute (.Name "thing" p1) "append" p2) [.Constant (.str " late ") k1 p3] [] p4) none p5.line X.env = pure false)
    (hs2 : swapsWith (.BoolOp .And [.Call (.Name "isinstance" p7) [.Name "kept" p8, .Name "list" p9] [] p10, .Compare (.Call (.Name "len" p11) [.Name "kept" p12] [] p13) [.Eq] [.Call (.Name "len" p14) [.Name "thing" p15] [] p16] p17,
      .Compare (.Subscript (.Name "kept" p18) (.UnaryOp .USub (.Constant (.int 1) k2 p19) p20) p21) [.Eq] [.Constant (.str " late ") k3 p22] p28] p29) (some (.Name "found" p6)) p6'.line X.env = pure false)
    (hs3 : swapsWith (.Call (.Attribute (.Name "thing" p23) "pop" p24) [] [] p25) none p26.line X.env = pure false) :
    PSs X [.Expr (.Call (.Attribute (.Name "thing" p1) "append" p2) [.Constant (.str " late ") k1 p3] [] p4) p5,
      .Assign [.Name "found" p6] (.BoolOp .And [.Call (.Name "isinstance" p7) [.Name "kept" p8, .Name "list" p9] [] p10, .Compare (.Call (.Name "len" p11) [.Name "kept" p12] [] p13) [.Eq] [.Call (.Name "len" p14) [.Name "thing" p15] [] p16] p17,
      .Compare (.Subscript (.Name "kept" p18) (.UnaryOp .USub (.Constant (.int 1) k2 p19) p20) p21) [.Eq] [.Constant (.str " late ") k3 p22] p28] p29) p6',
      .Expr (.Call (.Attribute (.Name "thing" p23) "pop" p24) [] [] p25) p26, .Return (some (.Name "found" p27)) p27'] tVL := by
  have v0 : Vis X.env.scope "kept" := .inl W.l0
  have v1 : Vis X.env.scope "thing" := .inl W.l1
  have v2 : Vis X.env.scope "found" := .inl W.l2
  have P1 := pe_bm (X := X) (cpos := p4) (apos := p2) PySem.F.plainAttrs_list PySem.F.slot_list_append PySem.F.type_list_append mt_append (pe_var (pos := p1) W.n1 v1 (by decide) (by decide)) (pa_cons (pe_str (x := " late ") (j := k1) (pos := p3)) pa_nil) hb1 rfl hl1
  have P2a := pe_callB (X := X) (p := p7) (pos := p10) call_isi W.gI W.mI PyProof.Rows.boot_isinstance (pa_cons (pe_var (pos := p8) W.n0 v0 (by decide) (by decide)) (W.tl p9).pa)
  have P2b := pe_cmp (pos := p17) (pc_eqI (pe_callB (X := X) (p := p11) (pos := p13) call_len W.gL W.mL boot_len (pa_cons (pe_var (pos := p12) W.n0 v0 (by decide) (by decide)) pa_nil)) (pe_callB (X := X) (p := p14) (pos := p16) call_len W.gL W.mL boot_len (pa_cons (pe_var (pos := p15) W.n1 v1 (by decide) (by decide)) pa_nil)))
  have P2c := pe_cmpR (pos := p28) op_eq (pe_ix (pos := p21) ix_seq (pe_var (pos := p18) W.n0 v0 (by decide) (by decide)) (pe_un (pos := p20) un_neg (pe_int (X := X) (i := 1) (j := k2) (pos := p19))) (fun _ _ => rfl)) (pe_str (X := X) (x := " late ") (j := k3) (pos := p22)) rfl
  have P3 := pe_bm0 (X := X) (cpos := p25) (apos := p24) PySem.F.plainAttrs_list PySem.F.slot_list_pop PySem.F.type_list_pop mt_pop (pe_var (pos := p23) W.n1 v1 (by decide) (by decide)) hb2 hl2
  refine pss_mono (pss_cons (ps_expr P1 hs1) (pss_cons (ps_set W.nd W.n2 (.inl W.l2) (pe_and P2a (pe_and P2b (pe_one P2c))) hs2 (.inr W.l2)) (pss_cons (ps_expr P3 hs3) (pss_one (ps_ret (pe_var (pos := p27) W.n2 v2 (by decide) (by decide))))))) fun D σ H h => ?_
  obtain ⟨a, vs, s0, s1, s2, ha, hl, q⟩ := h
  have h2 : upd H a (.lst (vs ++ [.str " late "])) a = some (.lst (vs ++ [.str " late "])) := upd_same
  refine ⟨.ref a, s1, .inl ⟨rfl, vs, SqL.of ha⟩, a, vs, .str " late ", rfl, rfl, ha, hl, ?_⟩
  refine ⟨.ref a, s0, .ref a, .ty "list", .type "list", .type "list", true, rfl, .ty "list", .base (.lst h2), kit_ty (by decide +kernel), true, rfl, ?_⟩
  rw [if_pos rfl]
  refine ⟨.ref a, s0, .ref a, (vs ++ [V.str " late "]).length, rfl, .inl ⟨_, SqL.of h2, rfl⟩, .ref a, s1, .ref a, (vs ++ [V.str " late "]).length, rfl, .inl ⟨_, SqL.of h2, rfl⟩, _, _, rfl, rfl, true, by dsimp only; rw [decide_eq_true rfl], ?_⟩
  rw [if_pos rfl]
  refine ⟨.ref a, s0, ⟨1, rfl, .inl ⟨a, _, -1, .str " late ", rfl, rfl, SqL.of h2, atI_last, rfl, ?_⟩⟩⟩
  rw [decide_eq_true rfl]
  have e2 : (σ.set 2 (some (.bl true)))[1]? = some (some (V.ref a)) := by rw [List.getElem?_set_ne (by decide)]; exact s1
  refine ⟨.ref a, e2, .inl ⟨rfl, _, SqL.of h2⟩, a, _, .str " late ", rfl, rfl, h2, ?_, ?_⟩
  · rw [List.length_append]; simp
  · have eH : upd (upd H a (.lst (vs ++ [.str " late "]))) a (.lst (vs ++ [V.str " late "]).dropLast) = H := by
      funext b
      by_cases hb : b = a
      · rw [hb, upd_same, ha]; simp
      · rw [upd_ne hb, upd_ne hb]
    rw [eH]
    exact ⟨.bl true, List.getElem?_set_self s2, q⟩
theorem veryL_run {D : Ends} {σ : L2.St} {H : Hp} (h : tS C fVeryL D σ H) : tVL D σ H := by
  obtain ⟨R, S, b, si, p⟩ := h
  unfold fVeryL at p
  split at p
  case h_2 => exact p.elim
  rename_i m d0 n xs e0 e1
  split at p
  case isFalse => exact p.elim
  rename_i hc
  obtain ⟨rfl, hn, hl, h2⟩ := hc
  obtain ⟨v0, s0, r0⟩ := si.val 0 _ e0
  obtain ⟨v1, s1, r1⟩ := si.val 1 _ e1
  rw [RV] at r0 r1
  have z0 := r0.1 hn
  have z1 := r1.1 hn
  rw [z0] at z1
  cases z1
  have r2 := r1.2
  rw [RV] at r2
  obtain ⟨a, vs, ea, hz, rvs⟩ := r2
  subst ea
  refine ⟨a, vs, s0, s1, by rw [← si.len]; exact h2, si.sub.at hz, by rw [rvs.length]; exact hl, ?_⟩
  have rb : RV R .new (.bl true) (.bl true) := by rw [RV]
  exact p R _ H (.bl true) (RLe.refl R) (si.put (i := 2) (r := .val (.bl true)) rb) rb
end
end Ev
namespace Ev
open PySem PySem.Spec PyProof.Rows L2
/-! ## 34. a name's new object, to be shared; names of the module -/
def SS.share (S : SS) (i : Nat) (o : Ob) : SS := { S with dl := S.dl.set i (.val (.ref S.om.length)), om := S.om ++ [o] }
/-- what is new is shared from now on -/
def fSetRef (i : Nat) (f : SS → Out Res) : SS → Out Fl := fun S => (f S).bind fun r S1 => match r with
  | .own o => .ok .nx (S1.share i o)
  | .val _ => .no
def shareR (R : RC) (k : Nat) (a : Addr) : RC := { R with sp := fun j => if j = k then some a else R.sp j }
section
variable {R : RC} {S : SS} {σ : L2.St} {H : Hp}
theorem SI.share {i : Nat} {o : Ob} {v : V} (si : SI R S σ H) (h : RR R S σ H (.own o) v) : ∃ R', RLe R R' ∧ SI R' (S.share i o) (σ.set i (some v)) H := by
  obtain ⟨a, ev, w, no, nr⟩ := h
  subst ev
  have fresh : R.sp S.om.length = none := by
    cases e : R.sp S.om.length with
    | none => rfl
    | some b => exact (Nat.lt_irrefl _ (si.rlt _ b e)).elim
  have le : RLe R (shareR R S.om.length a) := ⟨rfl, rfl, fun k b e => by
    show (if k = S.om.length then some a else R.sp k) = some b
    rw [if_neg (fun z => by rw [z, fresh] at e; cases e)]; exact e, fun _ _ h => h, fun _ _ h => h⟩
  have at_ : (shareR R S.om.length a).sp S.om.length = some a := if_pos rfl
  have cases_ : ∀ {k b}, (shareR R S.om.length a).sp k = some b → (k = S.om.length ∧ b = a) ∨ (R.sp k = some b) := fun {k b} e => by
    have e : (if k = S.om.length then some a else R.sp k) = some b := e
    by_cases h : k = S.om.length
    · rw [if_pos h] at e; cases e; exact .inl ⟨h, rfl⟩
    · rw [if_neg h] at e; exact .inr e
  have s1 : SI (shareR R S.om.length a) { S with om := S.om ++ [o] } σ H := by
    refine { len := si.len, sub0 := si.sub0, lkz := si.lkz, l0 := si.l0, nfz := si.nfz, z0 := si.z0, new := si.new, ntb := si.ntb, tb := si.tb, keep := si.keep, dom := si.dom, oldd := si.oldd, val := fun j d e => ?_, own := fun j o2 e => ?_, disj := si.disj, ref := fun k o2 e => ?_, rlt := fun k b e => ?_, rfr := fun k b e => ?_, rs0 := fun k b e => le.sp k b (si.rs0 k b e), rno := fun k b e j ow => ?_, rinj := fun k j b e1 e2 => ?_, lbl := si.lbl }
    · obtain ⟨v, e1, r⟩ := si.val j d e
      exact ⟨v, e1, r.mono le⟩
    · obtain ⟨b, e1, q⟩ := si.own j o2 e
      exact ⟨b, e1, q.mono le q.2.2.1 rfl⟩
    · have e : (S.om ++ [o])[k]? = some o2 := e
      by_cases h : k < S.om.length
      · rw [List.getElem?_append_left h] at e
        obtain ⟨b, e1, q⟩ := si.ref k o2 e
        exact ⟨b, le.sp k b e1, q.mono le.v q.1 rfl⟩
      · rw [List.getElem?_append_right (by omega)] at e
        have hk : k = S.om.length := by
          cases q : k - S.om.length with
          | zero => omega
          | succ n => rw [q] at e; cases e
        subst hk
        simp at e
        subst e
        obtain ⟨w1, w2, w3, w4⟩ := w.mono le w.2.2.1 rfl
        exact ⟨a, at_, w3, w4⟩
    · show k < (S.om ++ [o]).length
      rw [List.length_append]
      rcases cases_ e with ⟨z, _⟩ | z
      · rw [z]; simp
      · have := si.rlt k b z; simp; omega
    · rcases cases_ e with ⟨z, z2⟩ | z
      · rw [z2]; exact .inr w.2.1
      · exact si.rfr k b z
    · rcases cases_ e with ⟨z, z2⟩ | z
      · rw [z2] at ow; exact no j ow
      · exact si.rno k b z j ow
    · rcases cases_ e1 with ⟨z1, z2⟩ | z1
      · rcases cases_ e2 with ⟨y1, y2⟩ | y1
        · rw [z1, y1]
        · rw [z2] at y1; exact (nr j y1).elim
      · rcases cases_ e2 with ⟨y1, y2⟩ | y1
        · rw [y2] at z1; exact (nr k z1).elim
        · exact si.rinj k j b z1 y1
  exact ⟨_, le, s1.put (i := i) (r := .val (.ref S.om.length)) (show RV _ .new (.ref S.om.length) (.ref a) by rw [RV]; exact ⟨a, rfl, at_⟩)⟩
end
section
variable {X : Cx} {C : EC} {e : Expr} {f : SS → Out Res} {pos : Pos}
theorem ps_fSetRef {i : Nat} {x : Str} {pos' : Pos} (hN : X.N.Nodup) (hi : X.N[i]? = some x) (hx : Loc X.env.scope x) (he : PE X e (tE C f)) (hs : swapsWith e (some (.Name x pos')) pos.line X.env = pure false) (hf : X.fn x = true ∨ X.env.scope.names.lookup x = some .local) :
    PS X (.Assign [.Name x pos'] e pos) (tS C (fSetRef i f)) := by
  refine ps_mono (ps_set hN hi hx he hs hf) fun D σ H h => ?_
  refine (seqTS' (rel := rR) h).mono fun v H1 ⟨R, S, r, b, si, rr, p⟩ => ?_
  cases r with
  | val d => exact p.elim
  | own o =>
    obtain ⟨R', le, s1⟩ := si.share (i := i) rr
    exact p R' _ H1 le s1
/-- a name of the module: a constant -/
theorem pe_fGlo {x : Str} {p : Pos} {d : D} {u : Value} {v : V} (hg : Gl X x) (hm : X.mg x = some u) (ru : RelV v u) (hdb : (x == ("__debug__" : Str)) = false) (hv : ∀ R, Base C R → RV R .new d v) : PE X (.Name x p) (tE C fun S => .ok (.val d) S) := by
  refine ⟨fun pins s σ H Q I h => ld_glob I hg hm ?_ hdb⟩
  obtain ⟨R, S, b, si, q⟩ := h
  exact ⟨v, H, I, ru, q R H v (RLe.refl R) si (hv R b)⟩
end
end Ev
namespace Ev
open PySem PySem.Spec PyProof.Rows L2
/-! ## 35. the law's start and end -/
theorem FnG.ok {P : Program} {w : World} {K : PySem.W.Frag} {mg : Str → Option Value} {base : Heap} {k : Nat} {f : Addr} {fd : FuncData} {ps : List Str} {sp : Sp} (F : FnG P w K mg base k f fd ps sp) : FnOk P w K mg base (L2.CX P w) k f fd ps sp :=
  ⟨F.len, fun A outer s H args us vs Q E hr e0 hb r q => F.run A outer s H args us vs Q E hr e0 hb r q⟩
def startR (G : PG) (Z H : Hp) : RC := { toPG := G, H0 := H, Z0 := Z, old := fun _ => none, L0 := fun _ => none, sp0 := fun _ => none, cl := [], ce := ce0, sp := fun _ => none, lb := fun _ => none, Hz := Z, lk := fun _ => none }
def S0 : SS := { dl := [], om := [], lc := 0 }
def scriptD (ns : List Int) : D := .ro (.lst (ns.map D.int))
theorem rvs_ints {R : RC} : ∀ ns : List Int, RVs R (ns.map D.int) (ns.map V.int)
  | [] => by rw [List.map_nil, List.map_nil, RVs]
  | n :: ns => by rw [List.map_cons, List.map_cons, RVs]; exact ⟨_, _, rfl, by rw [RV], rvs_ints ns⟩
theorem start_sp {G : PG} {f : Fun} {H : Hp} {a : Addr} {ns : List Int} {S' : SS} (hT : ∀ p ∈ G.tabs, H p.1 = some (.tbl #[])) (hS : SqL G.K H a (ns.map V.int)) (e : f [scriptD ns] S0 = .ok (.val (.bl true)) S') :
    spF G 1 f [.ref a] H (fun v _ => v = .bl true) fun _ _ _ => False := by
  have core : ∀ Z : Hp, (∀ b o, Z b = some o → H b = some o ∧ ∀ ps, o ≠ .tbl ps) → SqL G.K Z a (ns.map V.int) → spF G 1 f [.ref a] H (fun v _ => v = .bl true) fun _ _ _ => False := by
    intro Z hZ hs
    refine ⟨rfl, startR G Z H, S0, [scriptD ns], rfl, ⟨rfl, rfl⟩, ?_, rfl, rfl, ?_, ?_⟩
    · refine { len := rfl, sub0 := fun b o q => (hZ b o q).1, lkz := fun b od q => (by cases q), l0 := fun b od q => (by cases q), nfz := trivial, z0 := fun b o q => q, new := fun b o q => .inl q, ntb := fun b ps q => (hZ b _ q).2 ps rfl, tb := ⟨fun b ps q => ⟨#[], by rw [Array.append_empty]; exact q⟩, fun p hp => ⟨#[], hT p hp, True.intro, fun pos cv q => (by have z : codeAmong pos [] = some cv := q; simp [codeAmong] at z)⟩⟩, keep := fun b o q _ _ => q, dom := fun b q => q, oldd := fun _ _ => rfl, val := fun i d q => (by cases q), own := fun i o q => (by cases q), disj := fun i j b h1 h2 => ?_, ref := fun k o q => (by cases q), rlt := fun k b q => (by cases q), rfr := fun k b q => (by cases q), rs0 := fun k b q => (by cases q), rno := fun k b q => (by cases q), rinj := fun k j b q => (by cases q), lbl := fun n v q => (by cases q) }
      obtain ⟨⟨o, q⟩, _⟩ := h1
      cases q
    · rw [RVs]
      refine ⟨.ref a, [], rfl, ?_, by rw [RVs]⟩
      show RV _ .new (.ro (.lst _)) _
      rw [RV, RV]
      exact ⟨a, _, rfl, hs, rvs_ints ns⟩
    · rw [e]
      intro R' H' x l si rr
      have rr : RV R' .new (.bl true) x := rr
      rw [RV] at rr
      exact rr
  rcases hS with hr | hk
  · rcases hr with h | ⟨o, h⟩
    · refine core (fun b => if b = a then some (.lst (ns.map V.int)) else none) (fun b o q => ?_) (.inl (.inl (if_pos rfl)))
      split at q
      · rename_i hb; cases q; rw [hb]; exact ⟨h, fun ps z => by cases z⟩
      · cases q
    · refine core (fun b => if b = a then some (.frz o (.lst (ns.map V.int))) else none) (fun b u q => ?_) (.inl (.inr ⟨o, if_pos rfl⟩))
      split at q
      · rename_i hb; cases q; rw [hb]; exact ⟨h, fun ps z => by cases z⟩
      · cases q
  · exact core (fun _ => none) (fun b o q => by cases q) (.inr hk)
end Ev
namespace Ev
open PySem PySem.Spec PyProof.Rows L2
/-! ## 36. looks, for terms that a program prints -/
def visB (sc : Scope) (x : Str) : Bool := match sc.names.lookup x with
  | some .local => true
  | some .cell => true
  | some .free => true
  | _ => false
theorem visP {sc : Scope} {x : Str} (h : visB sc x = true) : Vis sc x := by
  unfold visB at h
  split at h
  · rename_i e; exact .inl e
  · rename_i e; exact .inr (.inl e)
  · rename_i e; exact .inr (.inr e)
  · cases h
def locB (sc : Scope) (x : Str) : Bool := match sc.names.lookup x with
  | some .local => true
  | some .cell => true
  | _ => false
theorem locP {sc : Scope} {x : Str} (h : locB sc x = true) : Loc sc x := by
  unfold locB at h
  split at h
  · rename_i e; exact .inl e
  · rename_i e; exact .inr e
  · cases h
theorem fnlP {X : Cx} {x : Str} (h : (X.fn x || decide (X.env.scope.names.lookup x = some .local)) = true) : X.fn x = true ∨ X.env.scope.names.lookup x = some .local := by
  rw [Bool.or_eq_true] at h
  exact h.imp id of_decide_eq_true
def GLen (n : Nat) (g : SS → Out (List AV)) : Prop := ∀ S S' as, g S = .ok as S' → as.length = n
theorem glNil : GLen 0 gNil := fun S S' as h => by cases h; rfl
theorem glEx {n : Nat} {f : SS → Out D} {g : SS → Out (List AV)} (h : GLen n g) : GLen (n + 1) (gEx f g) := fun S S' as e => by
  unfold gEx at e
  cases q : f S with
  | no => rw [q] at e; cases e
  | exc c fs S1 => rw [q] at e; cases e
  | ok d S1 =>
    rw [q] at e
    have e : ((g S1).bind fun as S2 => Out.ok (.dv d :: as) S2) = .ok as S' := e
    cases q2 : g S1 with
    | no => rw [q2] at e; cases e
    | exc c fs S2 => rw [q2] at e; cases e
    | ok bs S2 => rw [q2] at e; cases e; rw [List.length_cons, h _ _ _ q2]
theorem glNm {n i : Nat} {g : SS → Out (List AV)} (h : GLen n g) : GLen (n + 1) (gNm i g) := fun S S' as e => by
  unfold gNm fHas at e
  split at e
  · have e : ((g S).bind fun as S1 => Out.ok (.sl i :: as) S1) = .ok as S' := e
    cases q2 : g S with
    | no => rw [q2] at e; cases e
    | exc c fs S2 => rw [q2] at e; cases e
    | ok bs S2 => rw [q2] at e; cases e; rw [List.length_cons, h _ _ _ q2]
  · cases e
section
variable {X : Cx} {C : EC}
def fNeg (f : SS → Out D) : SS → Out Res := fun S => (f S).bind fun d S1 => match d.view with
  | .int i => .ok (.val (.int (-i))) S1
  | _ => .no
theorem pe_fNeg {e : Expr} {f : SS → Out D} {pos : Pos} (ha : PE X e (tD C f)) : PE X (.UnaryOp .USub e pos) (tE C (fNeg f)) := by
  refine pe_mono (pe_un un_neg ha) fun σ H Q h => ?_
  refine (seqT' (rel := rV) h).mono fun x H1 ⟨R, S, d, b, si, rd, p⟩ => ?_
  try dsimp only at p
  split at p
  · rename_i i ei
    have := rd.int_ ei
    subst this
    exact ⟨i, rfl, p R H1 _ (RLe.refl R) si (by show RV _ _ _ _; rw [RV])⟩
  · exact p.elim
end
/-- a def by its body (HandS's FunD) -/
theorem fn_fD {P : Program} {w : World} {K : PySem.W.Frag} {mg : Str → Option Value} {base : Heap} {k : Nat} {x qual : Str} {params : Arguments} {body : List Stmt} {scope : Scope} {f : Addr} {fd : FuncData} {N ps : List Str} {G : PG} {F : SS → Out Fl}
    (D : FunD K x qual params body scope [] [] f fd) (Sc : FnScope N ps scope) (hnl : ps.length ≤ N.length)
    (hbody : ∀ (cdv : Value) (A : Around) (outer : List Env) (s : Shared) (H : Hp) (E : XK), Rm k (A.deeper (envOfC qual scope s.heap.objs.size f cdv)) →
      PSs (cxOf (L2.CX P w) P w K mg base N qual scope f cdv A outer s H E) body (tS ⟨G, [], ce0, fun cls d _ H => E cls d H⟩ F)) : FnG P w K mg base (k + 1) f fd ps (spF G ps.length (fRun N.length F)) := by
  obtain ⟨oc, od, dV, kV, doc, pm, an, cdv, ct, osl, e, lk, hcd, _, _⟩ := D.ex
  subst e
  exact fn_fOf lk hcd Sc hnl (hbody cdv)
theorem fn_fDC {P : Program} {w : World} {K : PySem.W.Frag} {mg : Str → Option Value} {base : Heap} {k : Nat} {x qual : Str} {params : Arguments} {body : List Stmt} {scope : Scope} {f : Addr} {fd : FuncData} {N ps : List Str} {G : PG} {xb : Bool} {cl : Shared → List (Str × Addr)} {F : SS → Out Fl}
    {p : He.Defn} (hf : f = He.fAd K p) (hx : xb = false → ∀ s, cl s = []) (D : FunD K x qual params body scope [] [] f fd) (Sc : FnScope N ps scope) (hnl : ps.length ≤ N.length)
    (hbody : ∀ (A : Around) (outer : List Env) (s : Shared) (H : Hp) (E : XK) (ce : Addr → Option Obj), Rm k (A.deeper (envOfC qual scope s.heap.objs.size f (.ref (He.codeOf K p)))) → CeOk ce outer s.heap H →
      PSs (cxOf (L2.CX P w) P w K mg base N qual scope f (.ref (He.codeOf K p)) A outer s H E) body (tS ⟨G, cl s, ce, fun cls d _ H => E cls d H⟩ F)) : FnGC P w K mg base (k + 1) f fd ps (spFc G ps.length (fRunX xb N.length F)) := by
  obtain ⟨oc, od, dV, kV, doc, pm, an, cdv, ct, osl, e, lk, hcd, _, _⟩ := D.ex
  subst e
  obtain ⟨c, rfl⟩ := He.codeIn_ref hcd
  have e2 : He.codeOf K p = c := He.codeOf_eq (by rw [← hf]; exact lk) rfl
  rw [e2] at hbody
  exact fn_fOfC hx lk hcd Sc hnl hbody
theorem bind_fD {K : PySem.W.Frag} {x qual : Str} {params : Arguments} {body : List Stmt} {scope : Scope} {f : Addr} {fd : FuncData} {α : Type} {args : α → Args} {r : α → List (Str × Value)} {ok : α → Prop} (D : FunD K x qual params body scope [] [] f fd)
    (h : ∀ (kV doc pm : Value) (an : Option Addr) (cdv ct : Value) (a : α), ok a → bindArgs (PySem.W.fnOf x qual params body scope .none kV doc pm an cdv ct) (args a) = pure (r a)) : ∀ a, ok a → bindArgs fd (args a) = pure (r a) := by
  obtain ⟨oc, od, dV, kV, doc, pm, an, cdv, ct, osl, e, lk, hcd, hD, _⟩ := D.ex
  subst e
  rcases hD with ⟨_, rfl⟩ | ⟨e, _⟩
  · exact h kV doc pm an cdv ct
  · exact absurd rfl e
theorem takes_cx {P : Program} {w : World} {K : PySem.W.Frag} {mg : Str → Option Value} {base : Heap} {N : List Str} {qual : Str} {scope : Scope} {f : Addr} {cd : Value} {A : Around} {outer : List Env} {s : Shared} {H : Hp} {E : XK} :
    Takes (cxOf (L2.CX P w) P w K mg base N qual scope f cd A outer s H E) (fun cls d _ H => E cls d H) := takes_of rfl rfl rfl rfl
theorem owns_cx {P : Program} {w : World} {K : PySem.W.Frag} {mg : Str → Option Value} {base : Heap} {N : List Str} {qual : Str} {scope : Scope} {f : Addr} {cd : Value} {A : Around} {outer : List Env} {s : Shared} {H : Hp} {E : XK} :
    PassesOwn (model P w) (cxOf (L2.CX P w) P w K mg base N qual scope f cd A outer s H E).A (cxOf (L2.CX P w) P w K mg base N qual scope f cd A outer s H E).env (cxOf (L2.CX P w) P w K mg base N qual scope f cd A outer s H E).xe :=
  passes_of (X := cxOf (L2.CX P w) P w K mg base N qual scope f cd A outer s H E) (K := fun e s'' => L2.CX P w outer H s E e s'') rfl
end Ev
namespace Ev
open PySem PySem.Spec PyProof.Rows L2
/-! ## 37. x = zip(a, b); return f([.. for p, q in x], ..) -/
theorem nn {a b : Nat} (h : a ≠ b) : @Ne Addr a b := h
def zO (z TI TO : Addr) : HO := .ext fun h => IsZip h z TI TO .none
def prO (T : Addr) (x y : Value) : HO := .ext fun h => IsPair h T x y
def liO (it l : Addr) : HO := .ext fun h => h.IsListIter it l 0
/-- a zip object at m + 4, over iterators at m and m + 1 -/
def zipH (H : Hp) (m a b : Nat) : Hp :=
  upd (upd (upd (upd (upd H m (liO m a)) (m + 1) (liO (m + 1) b)) (m + 2) (prO (m + 2) (.ref m) (.ref (m + 1)))) (m + 3) (prO (m + 3) .none .none)) (m + 4) (zO (m + 4) (m + 2) (m + 3))
def zIt (it : Addr) : Prop := True
section
variable {X : Cx} {pins : List (Addr × Obj)} {σ : L2.St} {H : Hp} {s : Shared} {m a b : Nat}
theorem zipH_lt {c : Nat} (h : c < m) : zipH H m a b c = H c := by
  unfold zipH
  rw [upd_ne (nn (by omega)), upd_ne (nn (by omega)), upd_ne (nn (by omega)), upd_ne (nn (by omega)), upd_ne (nn (by omega))]
theorem inv_zip {h' : Heap} (I : Inv X pins σ H s) (hm : m = s.heap.objs.size) (k : ∀ b u, s.heap.get? b = some u → h'.get? b = some u)
    (hz : IsZip h' (m + 4) (m + 2) (m + 3) .none) (hTI : IsPair h' (m + 2) (.ref m) (.ref (m + 1))) (hTO : IsPair h' (m + 3) .none .none) (h1 : h'.IsListIter m a 0) (h2 : h'.IsListIter (m + 1) b 0) :
    Inv X pins σ (zipH H m a b) { s with heap := h' } := by
  have fr : ∀ c : Nat, m ≤ c → H c = none := fun c hc => I.hok.fresh (by rw [← hm]; exact hc)
  have old : ∀ (c : Nat) o, s.heap.get? c = some o → c < m := fun c o e => by rw [hm]; exact Heap.lt_size e
  have oldH : ∀ (c : Nat) o, H c = some o → c < m := fun c o e => by
    by_cases q : c < m
    · exact q
    · rw [fr c (by omega)] at e; cases e
  have lk : ∀ (it l : Addr), h'.IsListIter it l 0 → ∃ o, h'.get? it = some o := fun it l ⟨o, e, _⟩ => ⟨o, e⟩
  have n0 : H m = none := fr m (Nat.le_refl _)
  have n1 : upd H m (liO m a) (m + 1) = none := by rw [upd_ne (nn (by omega))]; exact fr _ (by omega)
  have n2 : upd (upd H m (liO m a)) (m + 1) (liO (m + 1) b) (m + 2) = none := by rw [upd_ne (nn (by omega)), upd_ne (nn (by omega))]; exact fr _ (by omega)
  have n3 : upd (upd (upd H m (liO m a)) (m + 1) (liO (m + 1) b)) (m + 2) (prO (m + 2) (.ref m) (.ref (m + 1))) (m + 3) = none := by rw [upd_ne (nn (by omega)), upd_ne (nn (by omega)), upd_ne (nn (by omega))]; exact fr _ (by omega)
  have n4 : upd (upd (upd (upd H m (liO m a)) (m + 1) (liO (m + 1) b)) (m + 2) (prO (m + 2) (.ref m) (.ref (m + 1)))) (m + 3) (prO (m + 3) .none .none) (m + 4) = none := by rw [upd_ne (nn (by omega)), upd_ne (nn (by omega)), upd_ne (nn (by omega)), upd_ne (nn (by omega))]; exact fr _ (by omega)
  have ok0 : HOk X.prog X.w H h' := I.hok.kept k
  have ok1 := ok0.laidN (a := m) (o := liO m a) (fun _ _ e => e) n0 ⟨h1, lk _ _ h1, fun g1 g2 q st => q.at st⟩
  have ok2 := ok1.laidN (a := m + 1) (o := liO (m + 1) b) (fun _ _ e => e) n1 ⟨h2, lk _ _ h2, fun g1 g2 q st => q.at st⟩
  have ok3 := ok2.laidN (a := m + 2) (o := prO (m + 2) (.ref m) (.ref (m + 1))) (fun _ _ e => e) n2 ⟨hTI, ⟨_, hTI⟩, fun g1 g2 q st => st _ q⟩
  have ok4 := ok3.laidN (a := m + 3) (o := prO (m + 3) .none .none) (fun _ _ e => e) n3 ⟨hTO, ⟨_, hTO⟩, fun g1 g2 q st => st _ q⟩
  have ok5 := ok4.laidN (a := m + 4) (o := zO (m + 4) (m + 2) (m + 3)) (fun _ _ e => e) n4 ⟨hz, ⟨_, hz⟩, fun g1 g2 q st => st _ q⟩
  refine I.un (t' := s.toks) ⟨fun c o e _ _ _ => k c o e, fun c o e _ _ _ => ⟨o.slots, k c o e⟩, fun c o e n _ => ?_, fun c o e _ => ⟨o, k c o e⟩, fun c xs e => ?_, fun c o u e => ?_, fun c ps e => ⟨#[], ?_⟩⟩ ok5
  · exact (zipH_lt (old c o e)).trans n
  · exact (zipH_lt (oldH c _ e)).trans e
  · exact (zipH_lt (oldH c _ e)).trans e
  · rw [Array.append_empty]; exact (zipH_lt (oldH c _ e)).trans e
/-- the zip object is forgotten: it may turn -/
theorem inv_unzip (I : Inv X pins σ (zipH H m a b) s) (fr : ∀ c : Nat, m ≤ c → H c = none) (hn : X.s_0.heap.objs.size ≤ m) :
    Inv X pins σ H s ∧ ∀ c ∈ [m + 4, m + 2, m + 3, m, m + 1], FpOk X pins H c := by
  have n0 : H m = none := fr m (Nat.le_refl _)
  have n1 : upd H m (liO m a) (m + 1) = none := by rw [upd_ne (nn (by omega))]; exact fr _ (by omega)
  have n2 : upd (upd H m (liO m a)) (m + 1) (liO (m + 1) b) (m + 2) = none := by rw [upd_ne (nn (by omega)), upd_ne (nn (by omega))]; exact fr _ (by omega)
  have n3 : upd (upd (upd H m (liO m a)) (m + 1) (liO (m + 1) b)) (m + 2) (prO (m + 2) (.ref m) (.ref (m + 1))) (m + 3) = none := by rw [upd_ne (nn (by omega)), upd_ne (nn (by omega)), upd_ne (nn (by omega))]; exact fr _ (by omega)
  have n4 : upd (upd (upd (upd H m (liO m a)) (m + 1) (liO (m + 1) b)) (m + 2) (prO (m + 2) (.ref m) (.ref (m + 1)))) (m + 3) (prO (m + 3) .none .none) (m + 4) = none := by rw [upd_ne (nn (by omega)), upd_ne (nn (by omega)), upd_ne (nn (by omega)), upd_ne (nn (by omega))]; exact fr _ (by omega)
  have step : ∀ {G : Hp} {c : Nat} {φ : Heap → Prop}, G c = none → X.s_0.heap.objs.size ≤ c → Inv X pins σ (upd G c (.ext φ)) s → Inv X pins σ G s ∧ FpOk X pins G c := fun {G c φ} n hc J => by
    have e := ItX.inv_drop J (a := c) (φ := φ) upd_same
    have f := ItX.inv_fp J (a := c) (u := .ext φ) upd_same hc
    rw [ItX.dropH_upd n] at e f
    exact ⟨e, f⟩
  obtain ⟨I4, f4⟩ := step n4 (by omega) I
  obtain ⟨I3, f3⟩ := step n3 (by omega) I4
  obtain ⟨I2, f2⟩ := step n2 (by omega) I3
  obtain ⟨I1, f1⟩ := step n1 (by omega) I2
  obtain ⟨I0, f0⟩ := step n0 (by omega) I1
  refine ⟨I0, fun c hc => ?_⟩
  have e' : c = m + 4 ∨ c = m + 2 ∨ c = m + 3 ∨ c = m ∨ c = m + 1 := by simpa using hc
  rcases e' with q | q | q | q | q <;> subst q
  · exact ⟨fr _ (by omega), f4.2⟩
  · exact ⟨fr _ (by omega), f2.2⟩
  · exact ⟨fr _ (by omega), f3.2⟩
  · exact ⟨fr _ (by omega), f0.2⟩
  · exact ⟨fr _ (by omega), f1.2⟩
end
/-- zip(e, e2) as a value -/
def tZipV (K : PySem.W.Frag) (n : Nat) (ta : TA) : TE := fun σ H Q => ta σ H fun vs H1 => ∃ (a b : Nat) (xs ys : List V), vs = [.ref a, .ref b] ∧ SqL K H1 a xs ∧ SqL K H1 b ys ∧
  ∀ m : Nat, n ≤ m → (∀ c : Nat, m ≤ c → H1 c = none) → a < m → b < m → Q (.ref (m + 4)) (zipH H1 m a b)
/-- .. walked by its name -/
def iZipV (K : PySem.W.Frag) (n k : Nat) : TI := fun σ H R => ∃ (m a b : Nat) (H1 : Hp), σ[k]? = some (some (V.ref (m + 4))) ∧ H = zipH H1 m a b ∧ (∀ c : Nat, m ≤ c → H1 c = none) ∧ n ≤ m ∧ a < m ∧ b < m ∧ R (Itz K a b) H1
section
variable {X : Cx} {e e2 : Expr} {ta : TA} {p pos : Pos} {k : Nat} {x : Str}
theorem pe_zipv (hg : Gl X "zip") (hm : X.mg "zip" = none) (ha : PA X [e, e2] ta)
    (hs : starEach [e, e2] X.env = (false, eval e X.env) :: starEach [e2] X.env) (hpl : (backTo pos (starEach [e2] X.env)).any (·.1) = false) :
    PE X (.Call (.Name "zip" p) [e, e2] [] pos) (tZipV X.K X.s_0.heap.objs.size ta) := by
  refine ⟨fun pins s σ H Q I h => ?_⟩
  refine Call_ (ld_blt I hg hm PyProof.Rows.boot_zip (PyProof.Rows.callWith_type1 (thn (ha.run pos pins s σ H _ I h) fun us s1 ⟨vs, H1, I1, r1, q1⟩ => ?_) hs hpl))
  obtain ⟨a, b, xs, ys, ex, hqx, hqy, q⟩ := q1
  subst ex
  cases r1 with
  | cons r rr =>
    cases rr with
    | cons r' rr =>
      cases rr
      cases r
      cases r'
      obtain ⟨its, rv, p1, _⟩ := I1.list hqx
      obtain ⟨its2, rv2, p2, _⟩ := I1.list hqy
      have la : a < s1.heap.objs.size := p1.lt
      have lb : b < s1.heap.objs.size := p2.lt
      refine call_zip_2 p1.isList p2.isList fun h' hz hTI hTO h1 h2 hsz hk => ?_
      exact ⟨.ref _, _, inv_zip I1 rfl hk hz hTI hTO h1 h2, rfl, q _ I1.sz (fun c hc => I1.hok.fresh hc) la lb⟩
theorem pi_zipv {elts : List Expr} {kk : Nat} {tpos : Pos} (hN : X.N[k]? = some x) (hv : Vis X.env.scope x) (hd : (x == ("__debug__" : Str)) = false) (hcd : (x == ("__classdict__" : Str)) = false) : PI X (.Tuple elts kk tpos) (.Name x p) (iZipV X.K X.s_0.heap.objs.size k) := by
  refine ⟨fun pins s σ H R I h => ?_⟩
  obtain ⟨m, a, b, H1, hs, eH, fr, hn, la, lb, q⟩ := h
  subst eH
  refine thn ((pe_var (pos := p) (i := k) hN hv hd hcd).run pins s σ (zipH H1 m a b) (fun v H2 => v = .ref (m + 4) ∧ H2 = zipH H1 m a b) I ⟨.ref (m + 4), hs, rfl, rfl⟩) fun u s1 ⟨v, H2, I1, r1, ev, eH⟩ => ?_
  subst ev
  rw [eH] at I1
  cases r1
  have tr : ∀ {c : Addr} {o : HO}, zipH H1 m a b c = some o → ObjOk X.prog X.w (zipH H1 m a b) s1.heap c o := fun e => I1.hok _ _ e
  have z4 : IsZip s1.heap (m + 4) (m + 2) (m + 3) .none := (tr (c := m + 4) (o := zO (m + 4) (m + 2) (m + 3)) upd_same).1
  have z3 : IsPair s1.heap (m + 3) .none .none := (tr (c := m + 3) (o := prO (m + 3) .none .none) (by unfold zipH; rw [upd_ne (nn (by omega)), upd_same])).1
  have z2 : IsPair s1.heap (m + 2) (.ref m) (.ref (m + 1)) := (tr (c := m + 2) (o := prO (m + 2) (.ref m) (.ref (m + 1))) (by unfold zipH; rw [upd_ne (nn (by omega)), upd_ne (nn (by omega)), upd_same])).1
  have z1 : s1.heap.IsListIter (m + 1) b 0 := (tr (c := m + 1) (o := liO (m + 1) b) (by unfold zipH; rw [upd_ne (nn (by omega)), upd_ne (nn (by omega)), upd_ne (nn (by omega)), upd_same])).1
  have z0 : s1.heap.IsListIter m a 0 := (tr (c := m) (o := liO m a) (by unfold zipH; rw [upd_ne (nn (by omega)), upd_ne (nn (by omega)), upd_ne (nn (by omega)), upd_ne (nn (by omega)), upd_same])).1
  have T := turn_zip (P := X.prog) (w := X.w) (K := X.K) (elts := elts) (kk := kk) (tpos := tpos) (PySem.W.ktu_apart m a b la lb)
  refine T.self X.A 0 s1 _ _ ⟨z4, z2, ⟨_, _, z3⟩, z0, z1⟩ ?_
  obtain ⟨I0, fp⟩ := inv_unzip I1 fr hn
  exact ⟨m + 4, [m + 4, m + 2, m + 3, m, m + 1], _, _, H1, rfl, I0, T, ⟨z4, z2, ⟨_, _, z3⟩, z0, z1⟩, fp, q⟩
end
/-! ### the block -/
def zipL : List D → Option (List D)
  | [a, b] => match a.view, b.view with
    | .lst xs, .lst ys => some (zipD xs ys)
    | _, _ => none
  | _ => none
def fZipRet (i : Nat) (g : SS → Out (List D)) (t : Tg) (vs : List Nat) (c : SS → Out Bool) (f : SS → Out D) (xb : Bool) (F : Fun) (n : Nat) (h : SS → Out (List AV)) : SS → Out Fl := fun S => (g S).bind fun as S1 => match zipL as with
  | some ds => if S1.dl.length ≤ i then .no else (lcRun t vs c f ds (S1.drop i)).bind fun r S2 => (h S2).bind fun as S3 => if as.length + 1 = n then (match resolve S3 (.dv r.toD :: as) with
    | none => .no
    | some ds => (callX xb F (.dv r.toD :: as) ds S3).bind fun r S4 => .ok (.rt r) S4) else .no
  | none => .no
section
variable {X : Cx} {C : EC} {k : Nat} {fa : Addr} {fd : FuncData} {ps : List Str} {F : Fun} {x : Str} {e : Expr} {es : List Expr} {p pos : Pos}
theorem pe_callG {ta : TA} (G : FnG X.prog X.w X.K X.mg X.base k fa fd ps (spF C.G ps.length F)) (hr : Rm k X.A) (hg : Gl X x) (hm : X.mg x = some (.ref fa)) (hk : PySem.W.keepIn X.K (.ref fa) = true) (hb : ∀ us : List Value, us.length = ps.length → bindArgs fd ⟨us, []⟩ = pure (ps.zip us)) (tk : Takes X C.W)
    (ha : PA X (e :: es) ta) (hdb : (x == ("__debug__" : Str)) = false) (hp : plainArg e = true) (hpl : (backTo pos (starEach es X.env)).any (·.1) = false) :
    PE X (.Call (.Name x p) (e :: es) [] pos) (fun σ H Q => ta σ H fun vs H1 => spF C.G ps.length F vs H1 Q (WE C.W σ)) := by
  refine ⟨fun pins s σ H Q I h => ?_⟩
  refine wpAny_Call_Name_kw (ld_glob I hg hm ?_ hdb)
  refine PySem.W.callWith_K (h₀ := X.base) I.ok.mod.kin hk (thn (ha.run pos pins s σ H _ I h) fun us s1 ⟨vs, H1, I1, r, q⟩ => ⟨I1.kIn, ?_⟩) (starEach_plain hp) hpl
  have hl : us.length = ps.length := by rw [← Paired.length r]; exact q.1
  exact run_fng G hr (.of_eq (hb us hl)) (passAt tk σ) I1 r q
theorem RAV.length {R : RC} {σ : L2.St} : ∀ {as : List AV} {vs : List V}, RAV R σ as vs → vs.length = as.length
  | [], vs, h => by rw [show vs = [] from h]; rfl
  | .sl i :: as, vs, h => by obtain ⟨v, r, e, _, h2⟩ := h; rw [e]; simp [RAV.length h2]
  | .dv d :: as, vs, h => by obtain ⟨v, r, e, _, h2⟩ := h; rw [e]; simp [RAV.length h2]
theorem pss_zip {xb : Bool} {i n : Nat} (hps : ps.length = n) {a b : Expr} {y : Str} {py pz p0 p1 p2 p3 pe tp plc : Pos} {elts : List Expr} {kk : Nat} {elt : Expr} {ifs : List Expr} {scope : Scope} {own : List (Str × Nat)} {t : Tg} {g : SS → Out (List D)} {c : SS → Out Bool} {f : SS → Out D} {h : SS → Out (List AV)}
    (hm0 : xb = false → C.cl = [] ∧ C.ce = ce0) (hc : X.calm = true) (hK : X.K = C.G.K) (hN : X.N.Nodup)
    -- y = zip(a, b)
    (hi : X.N[i]? = some y) (hy : Loc X.env.scope y) (hv : Vis X.env.scope y) (hd : (y == ("__debug__" : Str)) = false) (hcd : (y == ("__classdict__" : Str)) = false) (hgz : Gl X "zip") (hmz : X.mg "zip" = none) (haz : PA X [a, b] (tA C g))
    (hsz : starEach [a, b] X.env = (false, eval a X.env) :: starEach [b] X.env) (hplz : (backTo p0 (starEach [b] X.env)).any (·.1) = false) (hsw : swapsWith (.Call (.Name "zip" pz) [a, b] [] p0) (some (.Name y py)) p1.line X.env = pure false) (hf : X.fn y = true ∨ X.env.scope.names.lookup y = some .local)
    -- [elt for .. in y]
    (ok : BlkOk X.N X.env.scope scope own) (nd : (own.map (·.2)).Nodup) (hin : ∀ i ∈ t.ixs, i ∈ own.map (·.2))
    (hg : ∀ (s : Shared) (H : Hp) (A : Addr) (cl : List (Str × Addr)) (fp : List Addr), L2.PG (X.blk s H scope (compEnvC scope cl A X.env) fp) (.Tuple elts kk tp) (tG C.dry t)) (ht : ∀ (s : Shared) (H : Hp) (A : Addr) (cl : List (Str × Addr)) (fp : List Addr), PTs (X.blk s H scope (compEnvC scope cl A X.env) fp) ifs (tT C.dry c))
    (he : ∀ (s : Shared) (H : Hp) (A : Addr) (cl : List (Str × Addr)) (fp : List Addr), PE (X.blk s H scope (compEnvC scope cl A X.env) fp) elt (tD C.dry f)) (hs : ∀ z, foldedSetIterable (.Name y pe) X.env z = pure z)
    -- the call
    (G : FnG X.prog X.w X.K X.mg X.base k fa fd ps (spF C.G ps.length F)) (hr : Rm k X.A) (hgx : Gl X x) (hm : X.mg x = some (.ref fa)) (hk : PySem.W.keepIn X.K (.ref fa) = true) (hb : ∀ us : List Value, us.length = ps.length → bindArgs fd ⟨us, []⟩ = pure (ps.zip us)) (tk : Takes X C.W)
    (hes : PA X es (tAV C h)) (hse : starEach (.ListComp elt [⟨.Tuple elts kk tp, .Name y pe, ifs, 0⟩] scope plc :: es) X.env = (false, eval (.ListComp elt [⟨.Tuple elts kk tp, .Name y pe, ifs, 0⟩] scope plc) X.env) :: starEach es X.env)
    (hdb : (x == ("__debug__" : Str)) = false) (hpl : (backTo p2 (starEach es X.env)).any (·.1) = false) :
    PSs X [.Assign [.Name y py] (.Call (.Name "zip" pz) [a, b] [] p0) p1, .Return (some (.Call (.Name x p) (.ListComp elt [⟨.Tuple elts kk tp, .Name y pe, ifs, 0⟩] scope plc :: es) [] p2)) p3] (tS C (fZipRet i g t (own.map (·.2)) c f xb F n h)) := by
  subst hps
  refine pss_mono (pss_cons (ps_set (i := i) hN hi hy (pe_zipv hgz hmz haz hsz hplz) hsw hf) (pss_one (ps_ret (pe_callG G hr hgx hm hk hb tk (pa_cons (pe_lc hc hN (pi_zipv hi hv hd hcd) ok hg ht he hs) hes hse) hdb rfl hpl)))) fun D σ H hyp => ?_
  obtain ⟨R, S, bb, si, p⟩ := hyp
  refine (seqTS (rel := rVs) (F := g) bb si p).mono fun vs H1 ⟨R1, S1, as, l1, b1, s1, rvs, p1⟩ => ?_
  cases q : zipL as with
  | none => rw [q] at p1; exact p1.elim
  | some ds =>
    rw [q] at p1
    unfold zipL at q
    split at q
    case h_2 => cases q
    rename_i d1 d2
    split at q
    case h_2 => cases q
    rename_i xs ys e1 e2
    cases q
    obtain ⟨v1, v2, ev, r1, r2⟩ := rvs.two
    subst ev
    obtain ⟨a1, ws1, ea1, sq1, rw1⟩ := r1.lst_ e1
    obtain ⟨a2, ws2, ea2, sq2, rw2⟩ := r2.lst_ e2
    subst ea1; subst ea2
    have eK : R1.K = X.K := by rw [b1.K, hK]
    refine ⟨a1, a2, ws1, ws2, rfl, by rw [← eK]; exact s1.sub.sqL sq1, by rw [← eK]; exact s1.sub.sqL sq2, fun m hn fr la lb => ?_⟩
    have s2 := s1.dropAny i (some (V.ref (m + 4)))
    have hlt : i < σ.length := by
      rw [← s1.len]
      by_cases z : S1.dl.length ≤ i
      · dsimp only at p1; rw [if_pos z] at p1; exact p1.elim
      · omega
    dsimp only at p1
    rw [if_neg (by rw [← s1.len] at hlt; omega)] at p1
    refine ⟨m, a1, a2, H1, List.getElem?_set_self hlt, rfl, fr, hn, la, lb, ?_⟩
    refine lc_core' (C := C) (J := Itz X.K a1 a2) (c := c) (f := f) (Q := fun x H1 => tAV C h (σ.set i (some (V.ref (m + 4)))) H1 fun xs H2 => spF C.G ps.length F (x :: xs) H2 D.rt (WE C.W (σ.set i (some (V.ref (m + 4)))))) b1 s2 (by have sv := serves_zip sq1 rw1 sq2 rw2; rw [eK] at sv; exact sv) nd hin ?_
    cases ql : lcRun t (own.map (·.2)) c f (zipD xs ys) (S1.drop i) with
    | no => rw [ql] at p1; exact p1
    | exc k fs S2 => exact (lcRun_noexc ql).elim
    | ok r S2 =>
      rw [ql] at p1
      intro R2 H2 xv l2 s3 rr
      obtain ⟨R3, l3, s4, rv⟩ := RR.fz s3 rr
      have b3 := (b1.le l2).le l3
      have p3 := (p1.up l2).up l3
      refine (seqTS (rel := rAV) (F := h) b3 s4 p3).mono fun ws H3 ⟨R4, S4, as, l4, b4, s5, rav, p4⟩ => ?_
      by_cases hl : as.length + 1 = ps.length
      case neg => rw [if_neg hl] at p4; exact p4.elim
      rw [if_pos hl] at p4
      cases qr : resolve S4 (.dv r.toD :: as) with
      | none => rw [qr] at p4; exact p4.elim
      | some ds =>
        rw [qr] at p4
        have p5 : PoS C D R4 ((callX xb F (.dv r.toD :: as) ds S4).bind fun r S4 => .ok (.rt r) S4) := p4
        have p6 : Po C rR R4 (σ.set i (some (V.ref (m + 4)))) (callX xb F (.dv r.toD :: as) ds S4) D.rt := by
          cases qc : callX xb F (.dv r.toD :: as) ds S4 with
          | no => rw [qc] at p5; exact p5
          | exc c fs S' => rw [qc] at p5; exact fun R' H' d l s x => p5 R' _ H' d l s x
          | ok r S' => rw [qc] at p5; exact fun R' H' x l s rr => p5 R' _ H' x l s rr
        have ra : RAV R4 (σ.set i (some (V.ref (m + 4)))) (.dv r.toD :: as) (xv :: ws) := ⟨xv, ws, rfl, RV.mono l4 rv, rav⟩
        exact sp_call b4 s5 ra qr (by rw [RAV.length ra, List.length_cons]; exact hl) (fun _ h => h) hm0 p6
end
end Ev
namespace Ev
open PySem PySem.Spec PyProof.Rows L2
/-! ## 38. the head's facts of own error classes, of constants, of defs -/
def initOf (s : Stmt) : Stmt := match s with
  | .ClassDef _ _ _ [f] _ _ _ _ _ _ _ => f
  | _ => s
abbrev InW : Type := Option (Str × Str × Arguments × FuncBody × Scope × Addr × List Str × Addr)
def fnI (K : PySem.W.Frag) (x : Str) : Option FuncData := match K.lookup (He.ma K (He.ga K x) "__init__") with
  | some ⟨_, _, .func fd, _⟩ => some fd
  | _ => none
def initW (K : PySem.W.Frag) (x : Str) : InW := match fnI K x with
  | some fd => some (fd.name, fd.qualname, fd.params, fd.body, fd.scope, fd.globals, fd.closure.map (·.1), fd.builtins)
  | none => none
def initV (q : Str) (st : Stmt) : InW := some ("__init__", q, defArgs (initOf st), .stmts (defBody (initOf st)), defScope (initOf st), mainGlobals, ["__class__"], builtinsNs)
def ccOf (K : PySem.W.Frag) (x : Str) : Addr := match fnI K x with
  | some fd => (match fd.closure with
    | [(_, c)] => c
    | _ => 0)
  | none => 0
def cdOf (K : PySem.W.Frag) (x : Str) : Addr := match fnI K x with
  | some fd => (match fd.code with
    | .ref c => c
    | _ => 0)
  | none => 0
def fdI (K : PySem.W.Frag) (x : Str) : FuncData := (fnI K x).getD default
def exClsB (K : PySem.W.Frag) (C : Addr) : Bool := match K.lookup C with
  | some ⟨.type "type", _, .cls cd, sl⟩ => (match cd.mro, sl.toList with
    | .ref C' :: bm, [_, _, _, _, some (.builtin n), _] => C' == C && n == "ValueError.__new__" && !cd.hasDel && cd.hasDict && PySem.HandSPX.refsVE bm
    | _, _ => false)
  | _ => false
theorem exClsB_ok {K : PySem.W.Frag} {C : Addr} (q : exClsB K C = true) : ∃ nm qn N bs bm sn sub ab col dd k0 k1 k2 k3 k5, K.lookup C = some (excClassObj nm qn C N bs bm true sn sub ab col dd k0 k1 k2 k3 k5 "ValueError.__new__") ∧ PySem.HandSPX.refsVE bm = true := by
  unfold exClsB at q
  split at q
  · rename_i dd cd sl ho
    split at q
    · rename_i C' bm k0 k1 k2 k3 n k5 hm hs
      simp only [Bool.and_eq_true, beq_iff_eq, Bool.not_eq_true'] at q
      obtain ⟨⟨⟨⟨rfl, rfl⟩, hdel⟩, hd⟩, ht⟩ := q
      obtain ⟨nm, bs, mro, ns, qn, hd, sn, sub, ab, col, del⟩ := cd
      dsimp only at hm hdel hd
      subst hm hdel hd
      have hsl : sl = #[k0, k1, k2, k3, some (.builtin "ValueError.__new__"), k5] := by
        obtain ⟨l⟩ := sl
        simp only at hs
        rw [hs]
      subst hsl
      exact ⟨nm, qn, ns, bs, bm, sn, sub, ab, col, dd, k0, k1, k2, k3, k5, ho, ht⟩
    · cases q
  · cases q
def restB (file : Str) (K : PySem.W.Frag) (x : Str) : Bool := match fnI K x with
  | some fd => (match fd.defaults, fd.kwdefaults, fd.closure, fd.code with
    | .none, .none, [(_, cc)], .ref c => PySem.W.codeIn K (.ref c) fd.qualname && ((match K.lookup c with
        | some ⟨_, _, .fields vs, _⟩ => (match vs[2]? with
          | some (Value.str f _) => file == f
          | _ => false)
        | _ => false) && (match K.lookup cc with
        | some ⟨_, _, .cell (some (.ref C')), _⟩ => C' == He.ga K x
        | _ => false))
    | _, _, _, _ => false)
  | none => false
def initB (file : Str) (K : PySem.W.Frag) (x : Str) (fs : List Str) : Bool :=
  exClsB K (He.ga K x) && (He.eqO (PySem.W.findIn K (.ref (He.ga K x)) "__setattr__") (some (some (.builtin "object.__setattr__"))) && (decide (PySem.W.subIn K (.ref (He.ga K x)) (.type "BaseException") = some true) && (decide (PySem.W.typeIn K (.ref (He.ga K x)) = some (.type "type")) && (PySem.W.keepIn K (.ref (He.ga K x)) &&
  (He.eqO (PySem.W.findIn K (.ref (He.ga K x)) "__init__") (some (some (.ref (He.ma K (He.ga K x) "__init__")))) && (decide (PySem.W.typeIn K (.ref (He.ma K (He.ga K x) "__init__")) = some (.type "function")) && (restB file K x && ((PySem.W.clsIn K (He.ga K x)).isSome &&
  (decide (PySem.W.mroIn K (He.ga K x) (.ref (He.ga K x)) = some true) && (He.eqO (PySem.W.ks_superIn K (He.ga K x) (He.ga K x) "__init__") (some (some (.builtin "ValueError.__init__"))) && (He.eqO (PySem.W.nsIn K cStatics "thirdparty.any") (some none) && (decide (PySem.W.subIn K (.ref (He.ga K x)) (.type "ValueError") = some true) &&
  fs.all fun f => He.eqO (PySem.W.findIn K (.ref (He.ga K x)) f) (some none)))))))))))))
/-- what the text says of __init__ -/
structure InitS (P : Program) (st : Stmt) (q : Str) (fs : List Str) : Prop where
  body : ∃ (p0 p1 p2 p3 p4 p5 : Pos) (m : Str) (j : Nat), defBody (initOf st) = .Expr (.Call (.Attribute (.Call (.Name "super" p0) [] [] p1) "__init__" p2) [.Constant (.str m) j p3] [] p4) p5 :: (defBody (initOf st)).tail ∧ (p2.endLine == p4.line) = true
  par : ∃ ar, ((defArgs (initOf st)).posonlyargs ++ (defArgs (initOf st)).args).head? = some ar ∧ ar.arg = ("self" : Str)
  top : (P.main.scope.names.lookup ("super" : Str)).isSome = false
  sks : (defScope (initOf st)).names.lookup ("super" : Str) = some .globalImplicit
  skc : (defScope (initOf st)).names.lookup ("__class__" : Str) = some .free
  bind : ∀ (doc pm ct : Value) (an : Option Addr) (cda cc : Addr) (us : List Value), us.length = (("self" : Str) :: fs).length → bindArgs (PySem.W.ksFn "__init__" q (defArgs (initOf st)) (defBody (initOf st)) (defScope (initOf st)) .none .none doc pm an (.ref cda) ct cc) ⟨us, []⟩ = pure ((("self" : Str) :: fs).zip us)
  loc : ∀ x ∈ (("self" : Str) :: fs), (defScope (initOf st)).names.lookup x = some .local
  kind : (defScope (initOf st)).kind = .function
  co : (defScope (initOf st)).isCoroutine = false
  gen : (defScope (initOf st)).isGenerator = false
  ncell : ∀ x ∈ (defScope (initOf st)).names, x.2 ≠ .cell
  onefree : ∀ x ∈ (defScope (initOf st)).names, x.2 = .free → x.1 = ("__class__" : Str)
  nd : (("self" : Str) :: fs).Nodup
  sts : Stores (defBody (initOf st)).tail fs
  ne : fs ≠ []
  short : fs.length ≤ 900
  flds : ∀ f ∈ fs, (f == ("__debug__" : Str)) = false ∧ (f == ("__classdict__" : Str)) = false
theorem exI_of {P : Program} {K : PySem.W.Frag} {mg : Str → Option Value} {x q : Str} {st : Stmt} {fs : List Str} (S : InitS P st q fs) (hB : initB P.main.file K x fs = true) (hW : initW K x = initV q st) (mgs : mg "super" = none) :
    ExI P K mg (He.ga K x) (He.ma K (He.ga K x) "__init__") (ccOf K x) (cdOf K x) fs (defScope (initOf st)) (defBody (initOf st)).tail q (fdI K x) := by
  unfold initB at hB
  simp only [Bool.and_eq_true, decide_eq_true_eq] at hB
  obtain ⟨h1, h2, h3, h4, h5, h6, h7, h8, h9, h10, h11, h12, h13, h14⟩ := hB
  unfold restB at h8
  unfold initW at hW
  cases q1 : fnI K x with
  | none => rw [q1] at h8; cases h8
  | some fd =>
    rw [q1] at h8 hW
    dsimp only at h8 hW
    have lk : ∃ oc od osl, K.lookup (He.ma K (He.ga K x) "__init__") = some ⟨oc, od, .func fd, osl⟩ := by
      unfold fnI at q1
      split at q1
      · rename_i oc od fd' osl e
        cases q1
        exact ⟨oc, od, osl, e⟩
      · cases q1
    obtain ⟨oc, od, osl, lk⟩ := lk
    split at h8
    · rename_i nn cc c e1 e2 e3 e4
      simp only [Bool.and_eq_true] at h8
      obtain ⟨k1, k2, k3⟩ := h8
      have ecc : ccOf K x = cc := by unfold ccOf; rw [q1]; dsimp only; rw [e3]
      have ecd : cdOf K x = c := by unfold cdOf; rw [q1]; dsimp only; rw [e4]
      have efd : fdI K x = fd := by unfold fdI; rw [q1]; rfl
      rw [ecc, ecd, efd]
      obtain ⟨n1, n2, n3, n4, n5, n6, n7, n8, n9, n10, n11, n12, n13, n14, n15⟩ := fd
      dsimp only at e1 e2 e3 e4 hW k1
      subst e1 e2 e3 e4
      have hW : (some (n1, n2, n3, n4, n5, n6, [nn], n15) : InW) = (some (("__init__" : Str), q, defArgs (initOf st), FuncBody.stmts (defBody (initOf st)), defScope (initOf st), mainGlobals, [("__class__" : Str)], builtinsNs) : InW) := hW
      simp only [Option.some.injEq, Prod.mk.injEq, List.cons.injEq, and_true] at hW
      obtain ⟨w1, w2, w3, w4, w5, w6, w7, w8⟩ := hW
      subst w1 w2 w3 w4 w5 w6 w7 w8
      obtain ⟨p0, p1, p2, p3, p4, p5, m, j, eb, el⟩ := S.body
      refine { T := ⟨exClsB_ok h1, He.eqO_ok h2, h3, h4, h5⟩, iC := He.eqO_ok h6, tI := h7, fn := ⟨defArgs (initOf st), n10, n11, n14, oc, n12, od, osl, p0, p1, p2, p3, p4, p5, m, j, ?_, lk, el, S.par⟩, code := k1, file := ?_, cell := ?_, cls := ?_, sub := h10, sup := He.eqO_ok h11, opq := He.eqO_ok h12, ve := h13, mgs := mgs, top := S.top, sks := S.sks, skc := S.skc, bind := fun us hl => ?_, loc := S.loc, kind := S.kind, co := S.co, gen := S.gen, ncell := S.ncell, onefree := S.onefree, nd := S.nd, sts := S.sts, ne := S.ne, short := S.short, flds := fun f hf => ⟨(S.flds f hf).1, (S.flds f hf).2, He.eqO_ok (List.all_eq_true.mp h14 f hf)⟩ }
      · rw [← eb]
      · split at k2
        · rename_i ccl cdd vs ccs e5
          split at k2
          · rename_i f tf e6
            exact ⟨vs, f, tf, ccl, cdd, ccs, e5, e6, k2⟩
          · cases k2
        · cases k2
      · split at k3
        · rename_i cl cld C' csl e5
          have e6 : C' = He.ga K x := beq_iff_eq.mp k3
          subst e6
          exact ⟨cl, cld, csl, e5⟩
        · cases k3
      · cases e : PySem.W.clsIn K (He.ga K x) with
        | none => rw [e] at h9; cases h9
        | some cd => exact ⟨cd, rfl⟩
      · exact S.bind _ _ _ _ _ _ us hl
    · cases h8
/-! ### defs -/
def fdOf (K : PySem.W.Frag) (x : Str) : FuncData := match K.lookup (He.ga K x) with
  | some ⟨_, _, .func fd, _⟩ => fd
  | _ => default
theorem funD_of {K : PySem.W.Frag} {fa : List He.Fa} {fn : List He.DefD} {d : He.DefD} {x : Str} (c : He.SaysD fa fn K) (h : d ∈ fn) (ha : d.at_ = (x, none)) : FunD K d.name d.qual d.params d.body d.scope (d.dvs K) (d.kws K) (He.ga K x) (fdOf K x) := by
  obtain ⟨fd, F⟩ := c.defs h
  have e : He.fAd K d.at_ = He.ga K x := by rw [ha]; rfl
  rw [e] at F
  have e2 : fdOf K x = fd := by
    obtain ⟨oc, od, dV, kV, doc, pm, an, cdv, ct, osl, e1, e2, _⟩ := F.ex
    unfold fdOf
    rw [e2]
  rw [e2]
  exact F
/-- a tuple, a list of ints of the module -/
theorem rvs_dvI {R : RC} : ∀ {is : List Int}, RVs R (is.map D.int) (is.map V.int)
  | [] => by show RVs R [] _; rw [RVs]; rfl
  | i :: is => by
    show RVs R (.int i :: is.map D.int) _
    rw [RVs]
    exact ⟨.int i, is.map V.int, rfl, by rw [RV], rvs_dvI⟩
theorem dv_ints {K : PySem.W.Frag} (is : List Int) : (is.map He.Dv.int).map (He.Dv.v K) = is.map V.int := by
  rw [List.map_map]
  rfl
theorem rv_tupI {K : PySem.W.Frag} {R : RC} {x : Str} {is : List Int} (h : He.tupB K x (is.map He.Dv.int) = true) (hK : R.K = K) : RV R .new (.ro (.tup (is.map D.int))) (.ref (He.ga K x)) := by
  rw [RV, RV]
  refine ⟨_, _, rfl, ?_, rvs_dvI (is := is)⟩
  have q := He.tupB_ok h R.Hz
  rw [dv_ints] at q
  show SqT R.K _ _ _
  rw [hK]
  exact q
/-! ### nothing is promised of what is not defined -/
def fNone : Fun := fun _ _ => .no
theorem fng_none {P : Program} {w : World} {K : PySem.W.Frag} {mg : Str → Option Value} {base : Heap} {k : Nat} {f : Addr} {fd : FuncData} {ps : List Str} {G : PG} : FnG P w K mg base k f fd ps (spF G ps.length fNone) := by
  refine ⟨fun vs H Q E h => h.1, fun A outer s H args us vs Q E _ _ _ _ h => ?_⟩
  obtain ⟨_, R, S, ds, _, _, _, _, _, _, p⟩ := h
  exact False.elim p
theorem fngc_none {P : Program} {w : World} {K : PySem.W.Frag} {mg : Str → Option Value} {base : Heap} {k : Nat} {f : Addr} {fd : FuncData} {ps : List Str} {G : PG} : FnGC P w K mg base k f fd ps (spFc G ps.length fNone) := by
  refine ⟨fun ce vs H Q E h => h.1, fun A outer s H args us vs Q E ce _ _ _ _ _ h => ?_⟩
  obtain ⟨_, R, S, ds, _, _, _, _, _, _, p⟩ := h
  exact False.elim p
theorem lamg_none {P : Program} {w : World} {K : PySem.W.Frag} {mg : Str → Option Value} {base : Heap} {k na n : Nat} {l : LamD} {G : PG} : LamG P w K mg base k l na (spFc G n fNone) := by
  refine ⟨fun A outer s H us vs ws dw Q E ce f c cl dV _ _ _ _ _ _ _ _ _ h => ?_⟩
  obtain ⟨_, R, S, ds, _, _, _, _, _, _, p⟩ := h
  exact False.elim p
theorem LamG.mono {P : Program} {w : World} {K : PySem.W.Frag} {mg : Str → Option Value} {base : Heap} {k k' na : Nat} {l : LamD} {sp : (Addr → Option Obj) → Sp} (h : LamG P w K mg base k l na sp) (hk : k ≤ k') : LamG P w K mg base k' l na sp :=
  ⟨fun A outer s H us vs ws dw Q E ce f c cl dV hr => h.run A outer s H us vs ws dw Q E ce f c cl dV (hr.mono hk)⟩
theorem FnG.mono {P : Program} {w : World} {K : PySem.W.Frag} {mg : Str → Option Value} {base : Heap} {k k' : Nat} {f : Addr} {fd : FuncData} {ps : List Str} {sp : Sp} (h : FnG P w K mg base k f fd ps sp) (hk : k ≤ k') : FnG P w K mg base k' f fd ps sp :=
  ⟨h.len, fun A outer s H args us vs Q E hr => h.run A outer s H args us vs Q E (hr.mono hk)⟩
end Ev
namespace Ev
open PySem PySem.Spec PyProof.Rows L2
/-! ## 39. more looks, for terms that a program prints -/
/-! ### parts of the text -/
def kidE : Expr → Nat → Expr
  | .Call f as ks _, i => (f :: (as ++ ks.map (·.value))).getD i f
  | .List es p, i => es.getD i (.List es p)
  | .Tuple es k p, i => es.getD i (.Tuple es k p)
  | .BinOp a _ b _, i => [a, b].getD i a
  | .BoolOp o es p, i => es.getD i (.BoolOp o es p)
  | .UnaryOp _ a _, _ => a
  | .Compare a _ bs _, i => (a :: bs).getD i a
  | .IfExp t a b _, i => [t, a, b].getD i t
  | .Subscript a b _, i => [a, b].getD i a
  | .Attribute a _ _, _ => a
  | .ListComp e gs _ _, i => (e :: gs.flatMap fun g => g.iter :: g.ifs).getD i e
  | .Lambda _ b _ _, _ => b
  | .Starred a _, _ => a
  | e, _ => e
def kidS : Stmt → Nat → Stmt
  | .For t it b e p, i => (b ++ e).getD i (.For t it b e p)
  | .While t b e p, i => (b ++ e).getD i (.While t b e p)
  | .If t b e p, i => (b ++ e).getD i (.If t b e p)
  | .FunctionDef n a b d r t s ts bd p, i => b.getD i (.FunctionDef n a b d r t s ts bd p)
  | s, _ => s
def kidX : Stmt → Expr
  | .Assign _ v _ => v
  | .Expr v _ => v
  | .Return (some v) _ => v
  | .For _ it _ _ _ => it
  | .If t _ _ _ => t
  | .While t _ _ _ => t
  | _ => .Name "" ⟨0, 0, 0, 0⟩
def mkLam (e : Expr) (q : Str) (fr : List Str) (dv : Option Int) : LamD := match e with
  | .Lambda p b sc _ => ⟨p, b, sc, q, fr, dv⟩
  | _ => ⟨⟨[], [], none, [], [], none, []⟩, .Name "" ⟨0, 0, 0, 0⟩, { kind := .function, names := [], isGenerator := false, isCoroutine := false }, q, [], none⟩
def noLam : LamD := ⟨⟨[], [], none, [], [], none, []⟩, .Name "" ⟨0, 0, 0, 0⟩, { kind := .function, names := [], isGenerator := false, isCoroutine := false }, "", [], none⟩
/-! ### lambdas -/
theorem lamIn_of {X : Cx} {C : EC} {l : LamD} {c P : Addr} (TB : LamX.TabB X.base X.mg c P) (code : X.env.code = .ref c) (mem : (P, l.qual) ∈ C.G.tabs) (nd : (C.G.tabs.map (·.1)).Nodup) (qual : l.qual = X.env.qual ++ "<lambda>")
    (free : (l.scope.names.all fun y => !decide (y.2 = .free) || (decide (X.env.scope.names.lookup y.1 = some .cell) || decide (X.env.scope.names.lookup y.1 = some .free))) = true) (cells : X.env.cells = C.cl) (kwd : l.params.kw_defaults = []) : LamIn X C l c P where
  TB := TB
  code := code
  mem := mem
  uniq := fun q hq e => by
    have h : ∀ {L : List (Addr × Str)}, (L.map (·.1)).Nodup → (P, l.qual) ∈ L → q ∈ L → q.2 = l.qual := by
      intro L
      induction L with
      | nil => intro _ h; cases h
      | cons a L ih =>
        intro nd h1 h2
        rw [List.map_cons, List.nodup_cons] at nd
        rcases List.mem_cons.mp h1 with z1 | z1
        · rcases List.mem_cons.mp h2 with z2 | z2
          · rw [z2, ← z1]
          · exact absurd (List.mem_map.mpr ⟨q, z2, by rw [e, ← z1]⟩) nd.1
        · rcases List.mem_cons.mp h2 with z2 | z2
          · exact absurd (List.mem_map.mpr ⟨_, z1, by rw [← z2, e]⟩) nd.1
          · exact ih nd.2 z1 z2
    exact h nd mem hq
  qual := qual
  free := fun y hy e => by
    have h := List.all_eq_true.mp free y hy
    simp only [e, decide_true, Bool.not_true, Bool.false_or, Bool.or_eq_true, decide_eq_true_eq] at h
    exact h
  cells := cells
  kwd := kwd
def capB (N : List Str) (sc : Scope) (l : LamD) (cap : List Nat) : Bool :=
  decide (cap.map (fun j => N[j]?) = l.fr.map some) && (l.scope.names.all (fun y => !decide (y.2 = .free) || decide (y.1 ∈ l.fr)) && (l.fr.all (fun y => decide (sc.names.lookup y = some .cell)) && l.fr.all fun y => decide ((y, NameKind.free) ∈ l.scope.names)))
theorem capOk_of {X : Cx} {la : Nat → LamD} {mine : List Nat} {caps : Nat → List Nat} (h : (mine.all fun k => capB X.N X.env.scope (la k) (caps k)) = true) : ∀ k ∈ mine, CapOk X (la k) (caps k) := fun k hk => by
  have h := List.all_eq_true.mp h k hk
  unfold capB at h
  simp only [Bool.and_eq_true, decide_eq_true_eq, List.all_eq_true, Bool.or_eq_true, Bool.not_eq_true', decide_eq_false_iff_not] at h
  obtain ⟨h1, h2, h3, h4⟩ := h
  exact ⟨h1, fun y hy e => (h2 y hy).elim (fun z => absurd e z) id, h3, h4⟩
theorem takes_ncx {P : Program} {w : World} {K : PySem.W.Frag} {mg : Str → Option Value} {base : Heap} {N : List Str} {F : NdefX.NF} {f : Addr} {A : Around} {outer : List Env} {s : Shared} {H : Hp} {E : XK} :
    Takes (NdefX.ncx (L2.CX P w) P w K mg base N F f A outer s H E) (fun cls d _ H => E cls d H) := takes_of rfl rfl rfl rfl
theorem owns_ncx {P : Program} {w : World} {K : PySem.W.Frag} {mg : Str → Option Value} {base : Heap} {N : List Str} {F : NdefX.NF} {f : Addr} {A : Around} {outer : List Env} {s : Shared} {H : Hp} {E : XK} :
    PassesOwn (model P w) (NdefX.ncx (L2.CX P w) P w K mg base N F f A outer s H E).A (NdefX.ncx (L2.CX P w) P w K mg base N F f A outer s H E).env (NdefX.ncx (L2.CX P w) P w K mg base N F f A outer s H E).xe :=
  passes_of (X := NdefX.ncx (L2.CX P w) P w K mg base N F f A outer s H E) (K := fun e s'' => L2.CX P w outer H s E e s'') rfl
/-! ### keywords in another order -/
theorem perm_len {pl : List Nat} {n m : Nat} (h : (pl.all fun i => decide (i < m)) = true) (hn : pl.length = n) : ∀ vs : List V, vs.length = m → (permL pl vs).length = n := fun vs hv => by
  subst hn
  induction pl with
  | nil => rfl
  | cons i pl ih =>
    rw [List.all_cons, Bool.and_eq_true, decide_eq_true_eq] at h
    have e : vs[i]? = some (vs[i]'(by rw [hv]; exact h.1)) := List.getElem?_eq_getElem _
    unfold permL at ih ⊢
    rw [List.filterMap_cons, e]
    simp only [List.length_cons]
    rw [ih h.2]
/-! ### names of the module, the errors' classes -/
def excTab (K : PySem.W.Frag) (xs : List Str) : Bool := xs.all fun x => xs.all fun y => decide (PySem.W.exmOne K (.ref (He.ga K x)) (.ref (He.ga K y)) = some (y == x))
theorem excTab_ok {K : PySem.W.Frag} {xs : List Str} (h : excTab K xs = true) (nd : xs.Nodup) {ca : Nat → Addr} (hc : ∀ i x, xs[i]? = some x → ca i = He.ga K x) {n c : Nat} (hn : xs.length = n) (hcn : c < n) : ∀ k, k < n → PySem.W.exmOne K (.ref (ca k)) (.ref (ca c)) = some (c == k) := fun k hk => by
  subst hn
  have e1 : xs[k]? = some xs[k] := List.getElem?_eq_getElem hk
  have e2 : xs[c]? = some xs[c] := List.getElem?_eq_getElem hcn
  have h1 := List.all_eq_true.mp (List.all_eq_true.mp h xs[k] (List.getElem_mem hk)) xs[c] (List.getElem_mem hcn)
  rw [hc k _ e1, hc c _ e2, of_decide_eq_true h1]
  congr 1
  by_cases z : c = k
  · subst z; simp
  · have : xs[c] ≠ xs[k] := fun w => z ((List.getElem_inj nd).mp w)
    rw [beq_eq_false_iff_ne.mpr this, beq_eq_false_iff_ne.mpr z]
theorem names_own {X : Cx} {x : Str} {a : Addr} (hg : Gl X x) (hm : X.mg x = some (.ref a)) (hd : (x == ("__debug__" : Str)) = false) : Names X x (.ref a) := ⟨hg, hd, .inl hm⟩
/-! ### the Hook -/
/-- He's Hook, with the statics beside what the module's names reach -/
def asE (g : Addr → Option Obj) (n : Nat) : List Addr := He.asD g n ++ [cStatics]
def obsXE (n : Nat) (fa : List He.Fa) (fn : List He.DefD) (ts : List He.Tab) (tf : List He.Defn) (ex : PySem.W.Frag → Bool) (g : Addr → Option Obj) : He.AlX := (He.obsT fa fn ts (He.frT g (asE g n)), ex (He.frT g (asE g n)) && He.tabsB g tf (He.frT g (asE g n)))
theorem saysXE_of {n : Nat} {fa : List He.Fa} {fn : List He.DefD} {ts : List He.Tab} {tf : List He.Defn} {ex : PySem.W.Frag → Bool} {w : World} {h : Heap} (e : obsXE n fa fn ts tf ex h.get? = He.valX fn ts w) : He.SaysX fa fn ts tf ex w h (He.frT h.get? (asE h.get? n)) := by
  have e1 : He.obsT fa fn ts (He.frT h.get? (asE h.get? n)) = He.valT fn ts w := congrArg (fun z : He.AlX => z.1) e
  have e2 : (ex (He.frT h.get? (asE h.get? n)) && He.tabsB h.get? tf (He.frT h.get? (asE h.get? n))) = true := congrArg (fun z : He.AlX => z.2) e
  obtain ⟨h1, h2⟩ := Bool.and_eq_true_iff.mp e2
  have key : ∀ p ∈ tf, PySem.W.codeHdIn (He.frT h.get? (asE h.get? n)) (He.cT (He.frT h.get? (asE h.get? n)) p).1 (He.cT (He.frT h.get? (asE h.get? n)) p).2 = true ∧ ∃ o, h.get? (He.cT (He.frT h.get? (asE h.get? n)) p).2 = some o ∧ He.emptyTab o = true := fun p hp => by
    obtain ⟨h3, h4⟩ := Bool.and_eq_true_iff.mp (List.all_eq_true.mp h2 p hp)
    refine ⟨h3, ?_⟩
    cases q : h.get? (He.cT (He.frT h.get? (asE h.get? n)) p).2 with
    | none =>
      rw [q] at h4
      cases h4
    | some o =>
      rw [q] at h4
      exact ⟨o, rfl, h4⟩
  exact ⟨e1, h1, fun p hp => (key p hp).1, fun p hp => by
    obtain ⟨_, o, q, z⟩ := key p hp
    exact He.frT_none q z, fun p hp => by
    obtain ⟨_, o, q, z⟩ := key p hp
    rw [q, He.emptyTab_eq z]⟩
def hookE (n : Nat) (fa : List He.Fa) (fn : List He.DefD) (ts : List He.Tab) (tf : List He.Defn) (ex : PySem.W.Frag → Bool) (cs : List (Str × InW)) : PySem.W.Hook where
  α := He.AlX × List InW
  obs := fun s => (obsXE n fa fn ts tf ex s.heap.get?, cs.map fun c => initW (He.frT s.heap.get? (asE s.heap.get? n)) c.1)
  val := fun w => (He.valX fn ts w, cs.map (·.2))
  says := fun w h => ∃ K : PySem.W.Frag, K.In h ∧ He.SaysX fa fn ts tf ex w h K ∧ cs.map (fun c => initW K c.1) = cs.map (·.2)
  of := fun _ _ e => ⟨_, He.frT_in, saysXE_of (congrArg (fun z : He.AlX × List InW => z.1) e), congrArg (fun z : He.AlX × List InW => z.2) e⟩
  keeps := fun _ _ _ ⟨K, hK, c, q⟩ k => ⟨K, PySem.W.Frag.In.keeps hK k, ⟨c.t, c.more, c.hd, c.out, fun p hp => k _ _ (c.empty p hp)⟩, q⟩
def obE (n : Nat) (fa : List He.Fa) (fn : List He.DefD) (ts : List He.Tab) (tf : List He.Defn) (ex : PySem.W.Frag → Bool) (cs : List (Str × InW)) (s : PySem.W.SharedT) : He.AlX × List InW :=
  (obsXE n fa fn ts tf ex (HandSHeadRun.getT s), cs.map fun c => initW (He.frT (HandSHeadRun.getT s) (asE (HandSHeadRun.getT s) n)) c.1)
theorem obE_eq {n : Nat} {fa : List He.Fa} {fn : List He.DefD} {ts : List He.Tab} {tf : List He.Defn} {ex : PySem.W.Frag → Bool} {cs : List (Str × InW)} (s : PySem.W.SharedT) : obE n fa fn ts tf ex cs s = (hookE n fa fn ts tf ex cs).obs s.abs := by
  have e : HandSHeadRun.getT s = s.abs.heap.get? := funext (HandSHeadRun.getT_eq s)
  unfold obE
  rw [e]
  rfl
theorem initW_at {K : PySem.W.Frag} {cs : List (Str × InW)} (h : cs.map (fun c => initW K c.1) = cs.map (·.2)) {c : Str × InW} (hc : c ∈ cs) : initW K c.1 = c.2 := by
  induction cs with
  | nil => cases hc
  | cons a cs ih =>
    rw [List.map_cons, List.map_cons, List.cons.injEq] at h
    rcases List.mem_cons.mp hc with z | z
    · rw [z]; exact h.1
    · exact ih h.2 z
end Ev
namespace Ev
open PySem PySem.Spec PyProof.Rows L2
/-! ## 40. names of the module; short words of printed terms -/
section
variable {X : Cx} {C : EC} {x : Str} {p : Pos}
theorem pe_fGloI {i : Int} (hg : Gl X x) (hm : ∃ t, X.mg x = some (.int i t)) (hdb : (x == ("__debug__" : Str)) = false) : PE X (.Name x p) (tE C (fCon (.int i))) := by
  obtain ⟨t, hm⟩ := hm
  exact pe_fGlo (v := .int i) hg hm ⟨t, rfl⟩ hdb fun R b => by rw [RV]
theorem pe_fGloS {z : Str} (hg : Gl X x) (hm : ∃ t, X.mg x = some (.str z t)) (hz : z.length ≤ sizeLine) (hdb : (x == ("__debug__" : Str)) = false) : PE X (.Name x p) (tE C (fCon (.str z))) := by
  obtain ⟨t, hm⟩ := hm
  exact pe_fGlo (v := .str z) hg hm ⟨t, rfl⟩ hdb fun R b => by rw [RV]; exact ⟨rfl, hz⟩
theorem pe_fGloT {is : List Int} (hg : Gl X x) (hm : X.mg x = some (.ref (He.ga X.K x))) (ht : He.tupB X.K x (is.map He.Dv.int) = true) (hK : X.K = C.G.K) (hdb : (x == ("__debug__" : Str)) = false) : PE X (.Name x p) (tE C (fCon (.ro (.tup (is.map D.int))))) :=
  pe_fGlo (v := .ref (He.ga X.K x)) hg hm rfl hdb fun R b => rv_tupI ht (by rw [b.K, hK])
theorem pt_of_pw {e : Expr} {t : TT} (h : PW X e t) : PT X e t := h.pt
end
theorem hu65_of {k : Nat} {A : Around} (r : Rm k A) : A.units + 65 < cLine := by have := r.un; omega
theorem hu1_of {k : Nat} {A : Around} (r : Rm k A) : A.units + 1 < cLine := by have := r.un; omega
theorem boot_len' : bootBuiltins "len" = some (.builtin "len") := PySem.boot_len
theorem boot_list' : bootBuiltins "list" = some (.type "list") := by decide +kernel
theorem boot_int' : bootBuiltins "int" = some (.type "int") := by decide +kernel
theorem boot_all' : bootBuiltins "all" = some (.builtin "all") := by decide +kernel
theorem boot_any' : bootBuiltins "any" = some (.builtin "any") := by decide +kernel
theorem boot_max' : bootBuiltins "max" = some (.builtin "max") := by decide +kernel
theorem boot_min' : bootBuiltins "min" = some (.builtin "min") := by decide +kernel
theorem boot_abs' : bootBuiltins "abs" = some (.builtin "abs") := by decide +kernel
theorem boot_str' : bootBuiltins "str" = some (.type "str") := by decide +kernel
theorem boot_tuple' : bootBuiltins "tuple" = some (.type "tuple") := by decide +kernel
end Ev
namespace Ev
open PySem PySem.Spec PyProof.Rows L2
/-! ### the end -/
theorem funD_at {K : PySem.W.Frag} {fa : List He.Fa} {fn : List He.DefD} (c : He.SaysD fa fn K) (i : Nat) {d : He.DefD} (h : fn[i]? = some d) {x : Str} (ha : d.at_ = (x, none)) : FunD K d.name d.qual d.params d.body d.scope (d.dvs K) (d.kws K) (He.ga K x) (fdOf K x) :=
  funD_of c (List.mem_of_getElem? h) ha
theorem fact_at {K : PySem.W.Frag} {fa : List He.Fa} {fn : List He.DefD} (c : He.SaysD fa fn K) (i : Nat) {f : He.Fa} (h : fa[i]? = some f) : f.ok K = true := c.fact i h
theorem inW_at {K : PySem.W.Frag} {cs : List (Str × InW)} (h : cs.map (fun c => initW K c.1) = cs.map (·.2)) (i : Nat) {c : Str × InW} (hc : cs[i]? = some c) : initW K c.1 = c.2 := initW_at h (List.mem_of_getElem? hc)
theorem cx_no {P : Program} {w : World} {H : Hp} {s : Shared} {e : Value} {s' : Shared} (h : L2.CX P w [] H s (fun _ _ _ => False) e s') : False := by
  obtain ⟨_, _, _, _, _, _, _, _, _, _, _, _, h⟩ := h
  exact h
end Ev
namespace Ev
open PySem PySem.Spec PyProof.Rows L2
/-! ## 41. the reference language, for simp -/
section
variable {α β : Type}
@[simp] theorem ev_ok (a : α) (s : SS) (f : α → SS → Out β) : (Out.ok a s).bind f = f a s := (rfl)
@[simp] theorem ev_exc (c : Nat) (fs : List D) (s : SS) (f : α → SS → Out β) : (Out.exc c fs s : Out α).bind f = .exc c fs s := (rfl)
@[simp] theorem ev_no (f : α → SS → Out β) : (Out.no : Out α).bind f = .no := (rfl)
@[simp] theorem ev_fz (F : SS → Out Res) (S : SS) : fz F S = (F S).bind fun r S' => .ok r.toD S' := (rfl)
@[simp] theorem ev_fVar (i : Nat) (S : SS) : fVar i S = match S.dl[i]? with
  | some (.val d) => .ok (.val d) S
  | some (.own o) => .ok (.val o.toD) { S with dl := S.dl.set i (.val o.toD) }
  | _ => .no := (rfl)
@[simp] theorem ev_fCon (d : D) (S : SS) : fCon d S = .ok (.val d) S := (rfl)
@[simp] theorem ev_fOp2 (g : D → D → Option Res) (fa fb : SS → Out D) (S : SS) : fOp2 g fa fb S = (fa S).bind fun a S1 => (fb S1).bind fun b S2 => match g a b with
    | some r => .ok r S2
    | none => .no := (rfl)
@[simp] theorem ev_toV (f : SS → Out Bool) (S : SS) : toV f S = (f S).bind fun b S1 => .ok (.val (.bl b)) S1 := (rfl)
@[simp] theorem ev_fCmp (o : CmpOp) (fa fb : SS → Out D) (S : SS) : fCmp o fa fb S = (fa S).bind fun a S1 => (fb S1).bind fun b S2 => match cop o a b with
  | some k => .ok k S2
  | none => .no := (rfl)
@[simp] theorem ev_fChn (o o' : CmpOp) (fa fb fc : SS → Out D) (S : SS) : fChn o o' fa fb fc S = (fa S).bind fun a S1 => (fb S1).bind fun b S2 => match cop o a b with
  | some true => (fc S2).bind fun c S3 => match cop o' b c with
    | some k => .ok k S3
    | none => .no
  | some false => .ok false S2
  | none => .no := (rfl)
@[simp] theorem ev_fTru (f : SS → Out D) (S : SS) : fTru f S = (f S).bind fun d S1 => match truth d with
  | some b => .ok b S1
  | none => .no := (rfl)
@[simp] theorem ev_fTruV (i : Nat) (S : SS) : fTruV i S = match peek S i with
  | some d => match truth d with
    | some b => .ok b S
    | none => .no
  | none => .no := (rfl)
@[simp] theorem ev_fNot (f : SS → Out Bool) (S : SS) : fNot f S = (f S).bind fun b S1 => .ok (!b) S1 := (rfl)
@[simp] theorem ev_fAnd (f g : SS → Out Bool) (S : SS) : fAnd f g S = (f S).bind fun b S1 => if b = true then g S1 else .ok false S1 := (rfl)
@[simp] theorem ev_fOr (f g : SS → Out Bool) (S : SS) : fOr f g S = (f S).bind fun b S1 => if b = true then .ok true S1 else g S1 := (rfl)
@[simp] theorem ev_fAndV (f : SS → Out D) (g : SS → Out Res) (S : SS) : fAndV f g S = (f S).bind fun d S1 => match truth d with
  | some true => g S1
  | some false => .ok (.val d) S1
  | none => .no := (rfl)
@[simp] theorem ev_fOrV (f : SS → Out D) (g : SS → Out Res) (S : SS) : fOrV f g S = (f S).bind fun d S1 => match truth d with
  | some false => g S1
  | some true => .ok (.val d) S1
  | none => .no := (rfl)
@[simp] theorem ev_fIf (t : SS → Out Bool) (f g : SS → Out α) (S : SS) : fIf t f g S = (t S).bind fun b S1 => if b = true then f S1 else g S1 := (rfl)
@[simp] theorem ev_fIdx (fa fb : SS → Out D) (S : SS) : fIdx fa fb S = (fa S).bind fun a S1 => (fb S1).bind fun b S2 => match didx a b with
  | some d => .ok (.val d) S2
  | none => .no := (rfl)
@[simp] theorem ev_fHas (i : Nat) (f : SS → Out α) (S : SS) : fHas i f S = if holds S i = true then f S else .no := (rfl)
@[simp] theorem ev_holds (S : SS) (i : Nat) : holds S i = (peek S i).isSome := (rfl)
@[simp] theorem ev_peek (S : SS) (i : Nat) : peek S i = match S.dl[i]? with
  | some (.val (.ref k)) => (S.om[k]?).map Ob.toD
  | some (.val d) => some d
  | some (.own o) => some o.toD
  | _ => none := (rfl)
@[simp] theorem ev_fIdxV (i : Nat) (fb : SS → Out D) (S : SS) : fIdxV i fb S = if holds S i = true then ((fb S).bind fun b S1 => match peek S1 i with
  | some a => match didx a b with
    | some d => .ok (.val d) S1
    | none => .no
  | none => .no) else .no := (rfl)
@[simp] theorem ev_fNoPart (S : SS) : fNoPart S = .ok none S := (rfl)
@[simp] theorem ev_fPart (f : SS → Out D) (S : SS) : fPart f S = (f S).bind fun d S1 => match d.view with
  | .int i => .ok (some i) S1
  | _ => .no := (rfl)
@[simp] theorem ev_fSl (fa : SS → Out D) (fl fh : SS → Out (Option Int)) (S : SS) : fSl fa fl fh S = (fa S).bind fun a S1 => (fl S1).bind fun l S2 => (fh S2).bind fun h S3 => match dsl a l h with
  | some r => .ok r S3
  | none => .no := (rfl)
@[simp] theorem ev_fNil (S : SS) : fNil S = .ok [] S := (rfl)
@[simp] theorem ev_fCons (f : SS → Out D) (g : SS → Out (List D)) (S : SS) : fCons f g S = (f S).bind fun d S1 => (g S1).bind fun ds S2 => .ok (d :: ds) S2 := (rfl)
@[simp] theorem ev_fTup (g : SS → Out (List D)) (S : SS) : fTup g S = (g S).bind fun ds S1 => if ds.length ≤ sizeLine then .ok (.val (.tup ds)) S1 else .no := (rfl)
@[simp] theorem ev_fLst (g : SS → Out (List D)) (S : SS) : fLst g S = (g S).bind fun ds S1 => if ds.length ≤ sizeLine then .ok (.own (.lst ds)) S1 else .no := (rfl)
@[simp] theorem ev_fNext (S : SS) : fNext S = .ok .nx S := (rfl)
@[simp] theorem ev_fSeq (F G : SS → Out Fl) (S : SS) : fSeq F G S = (F S).bind fun fl S1 => match fl with
  | .nx => G S1
  | fl => .ok fl S1 := (rfl)
@[simp] theorem ev_fSet (i : Nat) (f : SS → Out Res) (S : SS) : fSet i f S = (f S).bind fun r S1 => .ok .nx (S1.put i r) := (rfl)
@[simp] theorem ev_fIfS (c : SS → Out Bool) (F G : SS → Out Fl) (S : SS) : fIfS c F G S = (c S).bind fun b S1 => if b = true then F S1 else G S1 := (rfl)
@[simp] theorem ev_fRet (f : SS → Out Res) (S : SS) : fRet f S = (f S).bind fun r S1 => .ok (.rt r) S1 := (rfl)
@[simp] theorem ev_fRetN (S : SS) : fRetN S = .ok (.rt (.val .non)) S := (rfl)
@[simp] theorem ev_fDrop (f : SS → Out Res) (S : SS) : fDrop f S = (f S).bind fun _ S1 => .ok .nx S1 := (rfl)
@[simp] theorem ev_fMove (i : Nat) (S : SS) : fMove i S = match S.dl[i]? with
  | some (.val d) => .ok (.val d) S
  | some (.own o) => .ok (.own o) (S.drop i)
  | _ => .no := (rfl)
@[simp] theorem ev_put (d : List Slot) (o : List Ob) (l : Nat) (i : Nat) (r : Res) : (SS.mk d o l).put i r = ⟨d.set i r.slot, o, l⟩ := (rfl)
@[simp] theorem ev_drop (d : List Slot) (o : List Ob) (l : Nat) (i : Nat) : (SS.mk d o l).drop i = ⟨d.set i .none, o, l⟩ := (rfl)
@[simp] theorem ev_back (S S' : SS) : S.back S' = ⟨S.dl, S'.om, S'.lc⟩ := (rfl)
@[simp] theorem ev_out (S : SS) : S.out = ⟨[], S.om, S.lc⟩ := (rfl)
@[simp] theorem ev_slot_val (d : D) : (Res.val d).slot = .val d := (rfl)
@[simp] theorem ev_slot_own (d : Ob) : (Res.own d).slot = .own d := (rfl)
@[simp] theorem ev_toD_val (d : D) : (Res.val d).toD = d := (rfl)
@[simp] theorem ev_toD_own (d : Ob) : (Res.own d).toD = d.toD := (rfl)
@[simp] theorem ev_toD_lst (d : List D) : (Ob.lst d).toD = .lst d := (rfl)
@[simp] theorem ev_toD_dct (d : List (DK × D)) : (Ob.dct d).toD = .dct d := (rfl)
@[simp] theorem ev_v_int (i : Int) : (D.int i).view = .int i := (rfl)
@[simp] theorem ev_v_non : (D.non).view = .non := (rfl)
@[simp] theorem ev_v_bl (i : Bool) : (D.bl i).view = .bl i := (rfl)
@[simp] theorem ev_v_str (i : Str) : (D.str i).view = .str i := (rfl)
@[simp] theorem ev_v_lst (i : List D) : (D.lst i).view = .lst i := (rfl)
@[simp] theorem ev_v_tup (i : List D) : (D.tup i).view = .tup i := (rfl)
@[simp] theorem ev_v_dct (i : List (DK × D)) : (D.dct i).view = .dct i := (rfl)
@[simp] theorem ev_v_lab (n : Nat) (d : D) : (D.lab n d).view = d.view := (rfl)
@[simp] theorem ev_v_ro (d : D) : (D.ro d).view = d.view := (rfl)
@[simp] theorem ev_fIter (f : SS → Out D) (S : SS) : fIter f S = (f S).bind fun d S1 => match itemsOf d with
  | some ds => .ok ds S1
  | none => .no := (rfl)
@[simp] theorem ev_fIts (g : SS → Out (List D)) (o : List D → Option (List D)) (S : SS) : fIts g o S = (g S).bind fun as S1 => match o as with
  | some ds => .ok ds S1
  | none => .no := (rfl)
@[simp] theorem ev_fItR (f : SS → Out D) (S : SS) : fItR f S = (f S).bind fun d S1 => match revOf d with
  | some ds => .ok ds S1
  | none => .no := (rfl)
@[simp] theorem ev_fForI (t : Tg) (fi : SS → Out (List D)) (F : SS → Out Fl) (S : SS) : fForI t fi F S = (fi S).bind fun ds S1 => fFor t F ds S1 := (rfl)
@[simp] theorem ev_fFor_nil (t : Tg) (F : SS → Out Fl) (S : SS) : fFor t F [] S = .ok .nx S := (rfl)
@[simp] theorem ev_gNil (S : SS) : Ev.gNil S = .ok [] S := (rfl)
@[simp] theorem ev_gEx (f : SS → Out D) (g : SS → Out (List AV)) (S : SS) : gEx f g S = (f S).bind fun d S1 => (g S1).bind fun as S2 => .ok (.dv d :: as) S2 := (rfl)
@[simp] theorem ev_gNm (i : Nat) (g : SS → Out (List AV)) (S : SS) : gNm i g S = if holds S i = true then ((g S).bind fun as S1 => .ok (.sl i :: as) S1) else .no := (rfl)
@[simp] theorem ev_dval (S : SS) (i : Nat) : dval S i = match S.dl[i]? with
  | some (.val d) => some d
  | some (.own o) => some o.toD
  | _ => none := (rfl)
@[simp] theorem ev_frz1 (d : List Slot) (o : List Ob) (l : Nat) (i : Nat) : (SS.mk d o l).frz1 i = match d[i]? with
  | some (.own u) => ⟨d.set i (.val u.toD), o, l⟩
  | _ => ⟨d, o, l⟩ := (rfl)
@[simp] theorem ev_fBlt (f : List D → Option Res) (g : SS → Out (List AV)) (S : SS) : fBlt f g S = (g S).bind fun as S1 => match resolveP S1 as with
  | none => .no
  | some ds => match f ds with
    | some r => .ok r S1
    | none => .no := (rfl)
@[simp] theorem ev_fMth (i : Nat) (f : List D → List D → Option (D × List D)) (g : SS → Out (List D)) (S : SS) : fMth i f g S = if onLst S i = true then ((g S).bind fun as S1 => match mget S1 i with
  | some (.lst xs) => match f xs as with
    | some (d, ys) => .ok (.val d) (mput S1 i (.lst ys))
    | none => .no
  | _ => .no) else .no := (rfl)
@[simp] theorem ev_mget (S : SS) (i : Nat) : mget S i = match S.dl[i]? with
  | some (.own o) => some o
  | some (.val (.ref k)) => S.om[k]?
  | _ => none := (rfl)
@[simp] theorem ev_mput (S : SS) (i : Nat) (o : Ob) : mput S i o = match S.dl[i]? with
  | some (.own _) => { S with dl := S.dl.set i (.own o) }
  | some (.val (.ref k)) => { S with om := S.om.set k o }
  | _ => S := (rfl)
@[simp] theorem ev_onLst (S : SS) (i : Nat) : onLst S i = match mget S i with
  | some (.lst _) => true
  | _ => false := (rfl)
@[simp] theorem ev_fStore (i : Nat) (fk fv : SS → Out D) (S : SS) : fStore i fk fv S = (fv S).bind fun v S1 => if (mget S1 i).isSome = true then (fk S1).bind fun k S2 => match mget S2 i with
  | some o => match obSet o k v with
    | some o' => .ok .nx (mput S2 i o')
    | none => .no
  | none => .no else .no := (rfl)
@[simp] theorem ev_fCallX (x : Bool) (f : Fun) (g : SS → Out (List AV)) (S : SS) : fCallX x f g S = (g S).bind fun as S1 => match resolve S1 as with
  | none => .no
  | some ds => callX x f as ds S1 := (rfl)
@[simp] theorem ev_fCallKX (x : Bool) (f : Fun) (p : List Nat) (g : SS → Out (List AV)) (S : SS) : fCallKX x f p g S = (g S).bind fun as S1 => match resolve S1 as with
  | none => .no
  | some ds => callX x f as (permL p ds) S1 := (rfl)
@[simp] theorem ev_fSetRef (i : Nat) (f : SS → Out Res) (S : SS) : fSetRef i f S = (f S).bind fun r S1 => match r with
  | .own o => .ok .nx (S1.share i o)
  | .val _ => .no := (rfl)
@[simp] theorem ev_share (d : List Slot) (o : List Ob) (l : Nat) (i : Nat) (u : Ob) : (SS.mk d o l).share i u = ⟨d.set i (.val (.ref o.length)), o ++ [u], l⟩ := (rfl)
@[simp] theorem ev_hNil (S : SS) : hNil S = .ok [] S := (rfl)
@[simp] theorem ev_hCons (f : SS → Out Res) (h : SS → Out (List Res)) (S : SS) : hCons f h S = (f S).bind fun r S1 => (h S1).bind fun rs S2 => .ok (r :: rs) S2 := (rfl)
@[simp] theorem ev_fPar (is : List Nat) (h : SS → Out (List Res)) (S : SS) : fPar is h S = (h S).bind fun rs S1 => if rs.length = is.length then .ok .nx (putRs is rs S1) else .no := (rfl)
@[simp] theorem ev_fUnp (t : Tg) (f : SS → Out D) (S : SS) : fUnp t f S = (f S).bind fun d S1 => match t.put d S1 with
  | some S2 => .ok .nx S2
  | none => .no := (rfl)
@[simp] theorem ev_fLc (t : Tg) (vs : List Nat) (fi : SS → Out (List D)) (c : SS → Out Bool) (f : SS → Out D) (S : SS) : fLc t vs fi c f S = (fi S).bind fun ds S1 => lcRun t vs c f ds S1 := (rfl)
@[simp] theorem ev_fYes (S : SS) : fYes S = .ok true S := (rfl)
@[simp] theorem ev_nm (i : Nat) (d : D) (S : SS) : (Tg.nm i).put d S = some (S.put i (.val d)) := (rfl)
@[simp] theorem ev_call (f : Fun) (as : List AV) (ds : List D) (S : SS) : callX false f as ds S = callWith f as ds S := (rfl)
@[simp] theorem ev_callT (f : Fun) (as : List AV) (ds : List D) (S : SS) : callX true f as ds S = if (noFns ds && S.om.all Ob.noFn) = true then callWith f as ds S else .no := (rfl)
@[simp] theorem ev_fRun (n : Nat) (body : SS → Out Fl) (ds : List D) (S : SS) : fRun n body ds S = match body { dl := ds.map .val ++ List.replicate (n - ds.length) .none, om := S.om, lc := S.lc } with
  | .ok (.rt r) S' => .ok r (S.back S')
  | .ok .nx S' => .ok (.val .non) (S.back S')
  | .ok _ _ => .no
  | .exc c fs S' => .exc c fs (S.back S')
  | .no => .no := (rfl)
@[simp] theorem ev_fIsi (Ts : List String) (g : SS → Out AV) (S : SS) : fIsi Ts g S = (g S).bind fun a S1 => match a.look S1 with
  | some d => match isIn d Ts with
    | some b => .ok (.val (.bl b)) S1
    | none => .no
  | none => .no := (rfl)
@[simp] theorem ev_oNm (i : Nat) (S : SS) : oNm i S = if holds S i = true then .ok (.sl i) S else .no := (rfl)
@[simp] theorem ev_oEx (f : SS → Out D) (S : SS) : oEx f S = (f S).bind fun d S1 => .ok (.dv d) S1 := (rfl)
@[simp] theorem ev_look_sl (S : SS) (i : Nat) : (AV.sl i).look S = peek S i := (rfl)
@[simp] theorem ev_look_dv (S : SS) (d : D) : (AV.dv d).look S = some d := (rfl)
@[simp] theorem ev_isIn (d : D) (Ts : List String) : isIn d Ts = d.ty.map fun t => Ts.any fun T => subTy t T := (rfl)
@[simp] theorem ev_ty (d : D) : d.ty = match d.view with
  | .non => some "NoneType"
  | .bl _ => some "bool"
  | .int _ => some "int"
  | .str _ => some "str"
  | .lst _ => some "list"
  | .tup _ => some "tuple"
  | .dct _ => some "dict"
  | _ => none := (rfl)
@[simp] theorem ev_is_non (a : D) : cop .Is a .non = some a.isNon := (rfl)
@[simp] theorem ev_isnot_non (a : D) : cop .IsNot a .non = some (!a.isNon) := (rfl)
@[simp] theorem ev_n_int (i : Int) : (D.int i).isNon = false := (rfl)
@[simp] theorem ev_n_bl (i : Bool) : (D.bl i).isNon = false := (rfl)
@[simp] theorem ev_n_str (i : Str) : (D.str i).isNon = false := (rfl)
@[simp] theorem ev_n_lst (i : List D) : (D.lst i).isNon = false := (rfl)
@[simp] theorem ev_n_tup (i : List D) : (D.tup i).isNon = false := (rfl)
@[simp] theorem ev_n_non : (D.non).isNon = true := (rfl)
@[simp] theorem ev_truth_bl (b : Bool) : truth (.bl b) = some b := (rfl)
@[simp] theorem ev_eq_int (i j : Int) : cop .Eq (.int i) (.int j) = some (i == j) := (rfl)
@[simp] theorem ev_ne_int (i j : Int) : cop .NotEq (.int i) (.int j) = some (!(i == j)) := (rfl)
@[simp] theorem ev_eq_bl (i j : Bool) : cop .Eq (.bl i) (.bl j) = some (i == j) := by cases i <;> cases j <;> rfl
@[simp] theorem ev_ne_bl (i j : Bool) : cop .NotEq (.bl i) (.bl j) = some (!(i == j)) := by cases i <;> cases j <;> rfl
end
end Ev
namespace Ev
open PySem PySem.Spec PyProof.Rows L2
/-- a loop whose turns all go on -/
theorem fFor_inv {P : Nat → SS → Prop} {t : Tg} {F : SS → Out Fl} : ∀ (ds : List D) (n : Nat) (S : SS), P n S → (∀ d ∈ ds, ∀ (m : Nat) (S : SS), m < n + ds.length → P m S → ∃ S1 S2, t.put d S = some S1 ∧ F S1 = .ok .nx S2 ∧ P (m + 1) S2) → ∃ S', fFor t F ds S = .ok .nx S' ∧ P (n + ds.length) S'
  | [], n, S, h, _ => ⟨S, rfl, h⟩
  | d :: ds, n, S, h, k => by
    obtain ⟨S1, S2, e1, e2, h2⟩ := k d List.mem_cons_self n S (by simp) h
    obtain ⟨S', e, h'⟩ := fFor_inv ds (n + 1) S2 h2 (fun d' hd m S hm h => k d' (List.mem_cons_of_mem _ hd) m S (by simp at hm ⊢; omega) h)
    refine ⟨S', ?_, by rw [List.length_cons, show n + (ds.length + 1) = n + 1 + ds.length by omega]; exact h'⟩
    simp only [fFor, e1, e2]
    exact e
end Ev
namespace K09
open PySem PySem.Spec PyProof.Rows L2 Ev
abbrev PP : Program := PySem.Challenge.pw_everytwo_k09_whole_fields
def top (i : Nat) : Stmt := PySem.Challenge.pw_everytwo_k09_whole_fields.main.body.getD i (.Pass ⟨0, 0, 0, 0⟩)
abbrev s_law_spring : Stmt := top 23
abbrev s_law_draw : Stmt := top 24
abbrev s_law_mixed : Stmt := top 26
abbrev s_law_same : Stmt := top 28
abbrev s_is_integer : Stmt := top 1
abbrev s_is_between : Stmt := top 2
abbrev s_check_field : Stmt := top 10
abbrev s_check_value : Stmt := top 11
abbrev s_base_of : Stmt := top 14
abbrev s_number_of : Stmt := top 13
abbrev s_digits : Stmt := top 12
abbrev s_sum_in : Stmt := top 15
abbrev s_plus : Stmt := top 18
abbrev s_lowered : Stmt := top 16
abbrev s_product_in : Stmt := top 17
abbrev s_by : Stmt := top 19
abbrev s_minus : Stmt := top 20
abbrev s_over : Stmt := top 21
abbrev s_law_very : Stmt := top 27
abbrev s_law_f_base : Stmt := top 29
abbrev s_law_f_number : Stmt := top 31
abbrev s_law_f_digits : Stmt := top 30
abbrev s_law_f_plus : Stmt := top 32
abbrev s_law_f_by : Stmt := top 33
abbrev s_law_f_met : Stmt := top 34
abbrev s_law_f_refused : Stmt := top 35
abbrev s_law : Stmt := top 36
def excN : List Str := ["BadField", "BadValue"]
def lam_0 : LamD := mkLam (kidE (kidX (kidS (kidS s_law_f_refused 0) 0)) 0) "_law_f_refused.<locals>.<lambda>" ["q", "thing"] (some 1)
def lam_1 : LamD := mkLam (kidE (kidX (kidS (kidS s_law_f_refused 0) 1)) 1) "_law_f_refused.<locals>.<lambda>" ["q", "thing"] (some 2)
def lam_2 : LamD := mkLam (kidE (kidX (kidS (kidS s_law_f_refused 0) 2)) 1) "_law_f_refused.<locals>.<lambda>" ["q", "thing"] (some 3)
def lam_3 : LamD := mkLam (kidE (kidX (kidS (kidS s_law_f_refused 0) 3)) 1) "_law_f_refused.<locals>.<lambda>" ["q", "thing"] (some 4)
def lam_4 : LamD := mkLam (kidE (kidX (kidS (kidS s_law_f_refused 0) 4)) 1) "_law_f_refused.<locals>.<lambda>" ["q", "thing"] (some 5)
def lam_5 : LamD := mkLam (kidE (kidX (kidS (kidS s_law_f_refused 0) 5)) 1) "_law_f_refused.<locals>.<lambda>" ["q", "thing"] (some 6)
def lam_6 : LamD := mkLam (kidE (kidE (kidX (kidS s_law_f_refused 1)) 1) 1) "_law_f_refused.<locals>.<lambda>" ["q"] none
def lam_7 : LamD := mkLam (kidE (kidX (kidS (kidS s_law 2) 0)) 0) "law.<locals>.<lambda>" ["thing"] (some 1)
def lam_8 : LamD := mkLam (kidE (kidX (kidS (kidS s_law 2) 1)) 1) "law.<locals>.<lambda>" ["thing"] (some 2)
def lam_9 : LamD := mkLam (kidE (kidX (kidS (kidS s_law 2) 2)) 1) "law.<locals>.<lambda>" ["thing"] (some 3)
def lam_10 : LamD := mkLam (kidE (kidX (kidS (kidS s_law 2) 3)) 1) "law.<locals>.<lambda>" ["thing"] (some 4)
def lamD : Nat → LamD := fun k => [lam_0, lam_1, lam_2, lam_3, lam_4, lam_5, lam_6, lam_7, lam_8, lam_9, lam_10].getD k noLam
def lamN : Nat → Nat := fun k => [0, 0, 0, 0, 0, 0, 0, 0, 0, 0, 0].getD k 0
def caps : Nat → List Nat := fun k => [[0, 1], [0, 1], [0, 1], [0, 1], [0, 1], [0, 1], [0], [8], [8], [8], [8]].getD k []
def G (K : PySem.W.Frag) : PG where
  K := K
  fa := fun _ => 0
  ca := fun i => He.ga K (excN.getD i "")
  xf := fun i => ([["q"], ["value"]] : List (List Str)).getD i []
  la := lamD
  tabs := [(He.tabOf K (He.codeOf K ("_law_f_refused", none)), "_law_f_refused.<locals>.<lambda>"), (He.tabOf K (He.codeOf K ("law", none)), "law.<locals>.<lambda>")]
structure AllI (K : PySem.W.Frag) (mg : Str → Option Value) : Prop where
  f_law_spring : FunD K "_law_spring" "_law_spring" (defArgs (top 23)) (defBody (top 23)) (defScope (top 23)) [] [] (He.ga K "_law_spring") (fdOf K "_law_spring")
  g_law_spring : mg "_law_spring" = some (.ref (He.ga K "_law_spring"))
  f_law_draw : FunD K "_law_draw" "_law_draw" (defArgs (top 24)) (defBody (top 24)) (defScope (top 24)) [] [] (He.ga K "_law_draw") (fdOf K "_law_draw")
  g_law_draw : mg "_law_draw" = some (.ref (He.ga K "_law_draw"))
  f_law_mixed : FunD K "_law_mixed" "_law_mixed" (defArgs (top 26)) (defBody (top 26)) (defScope (top 26)) [] [] (He.ga K "_law_mixed") (fdOf K "_law_mixed")
  g_law_mixed : mg "_law_mixed" = some (.ref (He.ga K "_law_mixed"))
  f_law_same : FunD K "_law_same" "_law_same" (defArgs (top 28)) (defBody (top 28)) (defScope (top 28)) [] [] (He.ga K "_law_same") (fdOf K "_law_same")
  g_law_same : mg "_law_same" = some (.ref (He.ga K "_law_same"))
  f_is_integer : FunD K "is_integer" "is_integer" (defArgs (top 1)) (defBody (top 1)) (defScope (top 1)) [] [] (He.ga K "is_integer") (fdOf K "is_integer")
  g_is_integer : mg "is_integer" = some (.ref (He.ga K "is_integer"))
  f_is_between : FunD K "is_between" "is_between" (defArgs (top 2)) (defBody (top 2)) (defScope (top 2)) [] [] (He.ga K "is_between") (fdOf K "is_between")
  g_is_between : mg "is_between" = some (.ref (He.ga K "is_between"))
  f_check_field : FunD K "check_field" "check_field" (defArgs (top 10)) (defBody (top 10)) (defScope (top 10)) [] [] (He.ga K "check_field") (fdOf K "check_field")
  g_check_field : mg "check_field" = some (.ref (He.ga K "check_field"))
  f_check_value : FunD K "check_value" "check_value" (defArgs (top 11)) (defBody (top 11)) (defScope (top 11)) [] [] (He.ga K "check_value") (fdOf K "check_value")
  g_check_value : mg "check_value" = some (.ref (He.ga K "check_value"))
  f_base_of : FunD K "base_of" "base_of" (defArgs (top 14)) (defBody (top 14)) (defScope (top 14)) [] [] (He.ga K "base_of") (fdOf K "base_of")
  g_base_of : mg "base_of" = some (.ref (He.ga K "base_of"))
  f_number_of : FunD K "number_of" "number_of" (defArgs (top 13)) (defBody (top 13)) (defScope (top 13)) [] [] (He.ga K "number_of") (fdOf K "number_of")
  g_number_of : mg "number_of" = some (.ref (He.ga K "number_of"))
  f_digits : FunD K "digits" "digits" (defArgs (top 12)) (defBody (top 12)) (defScope (top 12)) [] [] (He.ga K "digits") (fdOf K "digits")
  g_digits : mg "digits" = some (.ref (He.ga K "digits"))
  f_sum_in : FunD K "sum_in" "sum_in" (defArgs (top 15)) (defBody (top 15)) (defScope (top 15)) [] [] (He.ga K "sum_in") (fdOf K "sum_in")
  g_sum_in : mg "sum_in" = some (.ref (He.ga K "sum_in"))
  f_plus : FunD K "plus" "plus" (defArgs (top 18)) (defBody (top 18)) (defScope (top 18)) [] [] (He.ga K "plus") (fdOf K "plus")
  g_plus : mg "plus" = some (.ref (He.ga K "plus"))
  f_lowered : FunD K "lowered" "lowered" (defArgs (top 16)) (defBody (top 16)) (defScope (top 16)) [] [] (He.ga K "lowered") (fdOf K "lowered")
  g_lowered : mg "lowered" = some (.ref (He.ga K "lowered"))
  f_product_in : FunD K "product_in" "product_in" (defArgs (top 17)) (defBody (top 17)) (defScope (top 17)) [] [] (He.ga K "product_in") (fdOf K "product_in")
  g_product_in : mg "product_in" = some (.ref (He.ga K "product_in"))
  f_by : FunD K "by" "by" (defArgs (top 19)) (defBody (top 19)) (defScope (top 19)) [] [] (He.ga K "by") (fdOf K "by")
  g_by : mg "by" = some (.ref (He.ga K "by"))
  f_minus : FunD K "minus" "minus" (defArgs (top 20)) (defBody (top 20)) (defScope (top 20)) [] [] (He.ga K "minus") (fdOf K "minus")
  g_minus : mg "minus" = some (.ref (He.ga K "minus"))
  f_over : FunD K "over" "over" (defArgs (top 21)) (defBody (top 21)) (defScope (top 21)) [] [] (He.ga K "over") (fdOf K "over")
  g_over : mg "over" = some (.ref (He.ga K "over"))
  f_law_very : FunD K "_law_very" "_law_very" (defArgs (top 27)) (defBody (top 27)) (defScope (top 27)) [] [] (He.ga K "_law_very") (fdOf K "_law_very")
  g_law_very : mg "_law_very" = some (.ref (He.ga K "_law_very"))
  f_law_f_base : FunD K "_law_f_base" "_law_f_base" (defArgs (top 29)) (defBody (top 29)) (defScope (top 29)) [] [] (He.ga K "_law_f_base") (fdOf K "_law_f_base")
  g_law_f_base : mg "_law_f_base" = some (.ref (He.ga K "_law_f_base"))
  f_law_f_number : FunD K "_law_f_number" "_law_f_number" (defArgs (top 31)) (defBody (top 31)) (defScope (top 31)) [] [] (He.ga K "_law_f_number") (fdOf K "_law_f_number")
  g_law_f_number : mg "_law_f_number" = some (.ref (He.ga K "_law_f_number"))
  f_law_f_digits : FunD K "_law_f_digits" "_law_f_digits" (defArgs (top 30)) (defBody (top 30)) (defScope (top 30)) [] [] (He.ga K "_law_f_digits") (fdOf K "_law_f_digits")
  g_law_f_digits : mg "_law_f_digits" = some (.ref (He.ga K "_law_f_digits"))
  f_law_f_plus : FunD K "_law_f_plus" "_law_f_plus" (defArgs (top 32)) (defBody (top 32)) (defScope (top 32)) [] [] (He.ga K "_law_f_plus") (fdOf K "_law_f_plus")
  g_law_f_plus : mg "_law_f_plus" = some (.ref (He.ga K "_law_f_plus"))
  f_law_f_by : FunD K "_law_f_by" "_law_f_by" (defArgs (top 33)) (defBody (top 33)) (defScope (top 33)) [] [] (He.ga K "_law_f_by") (fdOf K "_law_f_by")
  g_law_f_by : mg "_law_f_by" = some (.ref (He.ga K "_law_f_by"))
  f_law_f_met : FunD K "_law_f_met" "_law_f_met" (defArgs (top 34)) (defBody (top 34)) (defScope (top 34)) [] [] (He.ga K "_law_f_met") (fdOf K "_law_f_met")
  g_law_f_met : mg "_law_f_met" = some (.ref (He.ga K "_law_f_met"))
  f_law_f_refused : FunD K "_law_f_refused" "_law_f_refused" (defArgs (top 35)) (defBody (top 35)) (defScope (top 35)) [] [] (He.ga K "_law_f_refused") (fdOf K "_law_f_refused")
  g_law_f_refused : mg "_law_f_refused" = some (.ref (He.ga K "_law_f_refused"))
  f_law : FunD K "law" "law" (defArgs (top 36)) (defBody (top 36)) (defScope (top 36)) [] [] (He.ga K "law") (fdOf K "law")
  g_law : mg "law" = some (.ref (He.ga K "law"))
  n_all : mg "all" = none
  n_bool : mg "bool" = none
  n_dict : mg "dict" = none
  n_enumerate : mg "enumerate" = none
  n_int : mg "int" = none
  n_isinstance : mg "isinstance" = none
  n_len : mg "len" = none
  n_list : mg "list" = none
  n_max : mg "max" = none
  n_range : mg "range" = none
  n_reversed : mg "reversed" = none
  n_str : mg "str" = none
  n_super : mg "super" = none
  n_tuple : mg "tuple" = none
  n_zip : mg "zip" = none
  g_SIZES : mg "SIZES" = some (.ref (He.ga K "SIZES"))
  c_SIZES : He.tupB K "SIZES" ([2, 3, 4, 5, 7, 8, 9].map He.Dv.int) = true
  g_BadField : mg "BadField" = some (.ref (He.ga K "BadField"))
  x_BadField : ExI PP K mg (He.ga K "BadField") (He.ma K (He.ga K "BadField") "__init__") (ccOf K "BadField") (cdOf K "BadField") ["q"] (defScope (initOf (top 6))) (defBody (initOf (top 6))).tail "BadField.__init__" (fdI K "BadField")
  xf_BadField : XfC K (He.ga K "BadField")
  g_BadValue : mg "BadValue" = some (.ref (He.ga K "BadValue"))
  x_BadValue : ExI PP K mg (He.ga K "BadValue") (He.ma K (He.ga K "BadValue") "__init__") (ccOf K "BadValue") (cdOf K "BadValue") ["value"] (defScope (initOf (top 7))) (defBody (initOf (top 7))).tail "BadValue.__init__" (fdI K "BadValue")
  xf_BadValue : XfC K (He.ga K "BadValue")
  xt : excTab K excN = true
  tn : ((G K).tabs.map (·.1)).Nodup
structure TBI (K : PySem.W.Frag) (mg : Str → Option Value) (base : Heap) : Prop where
  t_law_f_refused : LamX.TabB base mg (He.codeOf K ("_law_f_refused", none)) (He.tabOf K (He.codeOf K ("_law_f_refused", none)))
  t_law : LamX.TabB base mg (He.codeOf K ("law", none)) (He.tabOf K (He.codeOf K ("law", none)))
theorem exm_ok {K : PySem.W.Frag} {mg : Str → Option Value} (I : AllI K mg) (c : Nat) (hc : c < 2) : ∀ k, k < 2 → PySem.W.exmOne K (.ref ((G K).ca k)) (.ref ((G K).ca c)) = some (c == k) :=
  excTab_ok I.xt (by decide +kernel) (fun i x h => by show He.ga K (excN.getD i "") = _; rw [List.getD_eq_getElem?_getD, h]; rfl) (by rfl) hc
/-! ### _law_spring -/
theorem nd_law_spring : ([("script" : Str), ("turn" : Str), ("cell" : Str), ("mix" : Str), ("at" : Str), ("one" : Str)] : List Str).Nodup := by decide +kernel
theorem sc_law_spring : FnScope [("script" : Str), ("turn" : Str), ("cell" : Str), ("mix" : Str), ("at" : Str), ("one" : Str)] [("script" : Str), ("turn" : Str)] (defScope s_law_spring) := ⟨rfl, rfl, rfl, nd_law_spring, rfl, by decide +kernel, by decide +kernel⟩
theorem b_law_spring {K : PySem.W.Frag} {mg : Str → Option Value} (I : AllI K mg) : ∀ us : List Value, us.length = 2 → bindArgs (fdOf K "_law_spring") ⟨us, []⟩ = pure (([("script" : Str), ("turn" : Str)] : List Str).zip us) :=
  bind_fD (args := fun us => ⟨us, []⟩) (r := fun us => ([("script" : Str), ("turn" : Str)] : List Str).zip us) (ok := fun us => us.length = 2) I.f_law_spring fun _ _ _ _ _ _ us hl => match us, hl with | [_, _], _ => by kernel_rfl!
def law_springB : SS → Out Fl := (fSeq (fPar [2, 3] (hCons (fIf (fCmp .Lt (fz (fVar 1)) (fz (fBlt bLen (gNm 0 gNil)))) (fIdxV 0 (fz (fVar 1))) (fOp2 (bop .Add) (fz (fOp2 (bop .Mult) (fz (fCon (.int 7))) (fz (fVar 1)))) (fz (fBlt bLen (gNm 0 gNil))))) (hCons (fOp2 (bop .Add) (fz (fCon (.int 1009))) (fz (fOp2 (bop .Mult) (fz (fCon (.int 97))) (fz (fVar 1))))) hNil)))
  (fSeq (fForI (.tup [(.nm 4), (.nm 5)]) (fIts (fCons (fz (fSl (fz (fVar 0)) fNoPart (fPart (fz (fCon (.int 63)))))) fNil) enumOf)
  (fSet 3 (fOp2 (bop .Mod) (fz (fBlt bInt (gEx (fz (fOp2 (bop .Add) (fz (fOp2 (bop .Add) (fz (fOp2 (bop .Add) (fz (fOp2 (bop .Mult) (fz (fVar 3)) (fz (fCon (.int 69069))))) (fz (fVar 5)))) (fz (fOp2 (bop .Mult) (fz (fCon (.int 5))) (fz (fVar 4)))))) (fz (fCon (.int 1))))) gNil))) (fz (fCon (.int 2147483629))))))
  (fRet (fLst (fCons (fz (fIf (fCmp .GtE (fz (fVar 2)) (fz (fOp2 (bop .Pow) (fz (fCon (.int 10))) (fz (fCon (.int 18)))))) (fVar 2) (fCon (.int 0)))) (fCons (fz (fOp2 (bop .Mod) (fz (fBlt bInt (gEx (fz (fOp2 (bop .Add) (fz (fVar 3)) (fz (fOp2 (bop .Mult) (fz (fVar 2)) (fz (fCon (.int 31))))))) gNil))) (fz (fCon (.int 2147483647))))) (fCons (fz (fCon (.int 0))) fNil)))))))
def law_springF : Fun := fRun 6 law_springB
theorem ok_law_spring {w : World} {K : PySem.W.Frag} {mg : Str → Option Value} {base : Heap} (I : AllI K mg) (J : TBI K mg base) : FnG PP w K mg base 1 (He.ga K "_law_spring") (fdOf K "_law_spring") [("script" : Str), ("turn" : Str)] (spF (G K) 2 law_springF) := by
  have e : law_springF = fRun ([("script" : Str), ("turn" : Str), ("cell" : Str), ("mix" : Str), ("at" : Str), ("one" : Str)] : List Str).length law_springB := rfl
  rw [e]
  refine fn_fD (k := 0) (F := law_springB) I.f_law_spring sc_law_spring (by decide) fun cdv A outer s H E hr => ?_
  have hu65 := hu65_of hr
  have hu1 := hu1_of hr
  have nd := nd_law_spring
  exact (pss_fSeq (ps_fPar2 (i := 2) (j := 3) rfl nd rfl rfl (by decide) rfl rfl (pa_hCons rfl (pe_fIf (pt_fCmp hu65 rfl rfl (pe_fz (pe_fVar (i := 1) rfl (visP rfl) rfl rfl)) (pe_fz (pe_fBlt (by rfl) call_rLen blt_len (by rfl) I.n_len boot_len' (pa_gNm (i := 0) rfl (visP rfl) rfl rfl pa_gNil) (by decide) rfl rfl rfl))) (pe_fIdxV hu1 rfl (fun _ _ => rfl) (i := 0) rfl (visP rfl) rfl rfl (pe_fz (pe_fVar (i := 1) rfl (visP rfl) rfl rfl))) (pe_fBin rfl (pe_fz (pe_fBin rfl (pe_fz pe_fInt) (pe_fz (pe_fVar (i := 1) rfl (visP rfl) rfl rfl)))) (pe_fz (pe_fBlt (by rfl) call_rLen blt_len (by rfl) I.n_len boot_len' (pa_gNm (i := 0) rfl (visP rfl) rfl rfl pa_gNil) (by decide) rfl rfl rfl)))) (pa_hCons rfl (pe_fBin rfl (pe_fz pe_fInt) (pe_fz (pe_fBin rfl (pe_fz pe_fInt) (pe_fz (pe_fVar (i := 1) rfl (visP rfl) rfl rfl))))) pa_hNil)) rfl rfl)
  (pss_fSeq (ps_fFor owns_cx rfl (pi_fEnum (by rfl) (by rfl) I.n_enumerate (pa_fCons rfl (pe_fz (pe_fSl rfl (pe_fz (pe_fVar (i := 0) rfl (visP rfl) rfl rfl)) po_fNone (po_fSome (pe_fz pe_fInt)))) pa_fNil) rfl) (pg_fTup rfl rfl (pgs_fCons (pg_fNm (i := 4) nd rfl (locP rfl) (fnlP rfl)) (pgs_fCons (pg_fNm (i := 5) nd rfl (locP rfl) (fnlP rfl)) pgs_fNil rfl) rfl) rfl rfl)
  (pss_fOne (ps_fSet (i := 3) nd rfl (locP rfl) (pe_fBin rfl (pe_fz (pe_fBltT (by rfl) call_int1 blt_int (by rfl) I.n_int boot_int' (pa_gEx rfl (pe_fz (pe_fBin rfl (pe_fz (pe_fBin rfl (pe_fz (pe_fBin rfl (pe_fz (pe_fBin rfl (pe_fz (pe_fVar (i := 3) rfl (visP rfl) rfl rfl)) (pe_fz pe_fInt))) (pe_fz (pe_fVar (i := 5) rfl (visP rfl) rfl rfl)))) (pe_fz (pe_fBin rfl (pe_fz pe_fInt) (pe_fz (pe_fVar (i := 4) rfl (visP rfl) rfl rfl)))))) (pe_fz pe_fInt))) pa_gNil) (by decide) rfl rfl rfl)) (pe_fz pe_fInt)) rfl (fnlP rfl))) (fun _ => rfl))
  (pss_fOne (ps_fRet (pe_fLst (pa_fCons rfl (pe_fz (pe_fIf (pt_fCmp hu65 rfl rfl (pe_fz (pe_fVar (i := 2) rfl (visP rfl) rfl rfl)) (pe_fz (pe_fBin rfl (pe_fz pe_fInt) (pe_fz pe_fInt)))) (pe_fVar (i := 2) rfl (visP rfl) rfl rfl) pe_fInt)) (pa_fCons rfl (pe_fz (pe_fBin rfl (pe_fz (pe_fBltT (by rfl) call_int1 blt_int (by rfl) I.n_int boot_int' (pa_gEx rfl (pe_fz (pe_fBin rfl (pe_fz (pe_fVar (i := 3) rfl (visP rfl) rfl rfl)) (pe_fz (pe_fBin rfl (pe_fz (pe_fVar (i := 2) rfl (visP rfl) rfl rfl)) (pe_fz pe_fInt))))) pa_gNil) (by decide) rfl rfl rfl)) (pe_fz pe_fInt))) (pa_fCons rfl (pe_fz pe_fInt) pa_fNil))))))))
/-! ### _law_draw -/
theorem nd_law_draw : ([("spring" : Str), ("many" : Str), ("digit" : Str), ("mixed" : Str)] : List Str).Nodup := by decide +kernel
theorem sc_law_draw : FnScope [("spring" : Str), ("many" : Str), ("digit" : Str), ("mixed" : Str)] [("spring" : Str), ("many" : Str)] (defScope s_law_draw) := ⟨rfl, rfl, rfl, nd_law_draw, rfl, by decide +kernel, by decide +kernel⟩
theorem b_law_draw {K : PySem.W.Frag} {mg : Str → Option Value} (I : AllI K mg) : ∀ us : List Value, us.length = 2 → bindArgs (fdOf K "_law_draw") ⟨us, []⟩ = pure (([("spring" : Str), ("many" : Str)] : List Str).zip us) :=
  bind_fD (args := fun us => ⟨us, []⟩) (r := fun us => ([("spring" : Str), ("many" : Str)] : List Str).zip us) (ok := fun us => us.length = 2) I.f_law_draw fun _ _ _ _ _ _ us hl => match us, hl with | [_, _], _ => by kernel_rfl!
def law_drawB : SS → Out Fl := (fSeq (fIfS (fCmp .Gt (fz (fIdxV 0 (fz (fCon (.int 0))))) (fz (fCon (.int 0))))
  (fSeq (fSet 2 (fOp2 (bop .Mod) (fz (fBlt bInt (gEx (fz (fIdxV 0 (fz (fCon (.int 0))))) gNil))) (fz (fVar 1))))
  (fSeq (fStore 0 (fz (fCon (.int 0))) (fz (fOp2 (bop .FloorDiv) (fz (fIdxV 0 (fz (fCon (.int 0))))) (fz (fVar 1)))))
  (fRet (fMove 2))))
  fNext)
  (fSeq (fStore 0 (fz (fCon (.int 2))) (fz (fOp2 (bop .Add) (fz (fIdxV 0 (fz (fCon (.int 2))))) (fz (fCon (.int 1))))))
  (fSeq (fSet 3 (fOp2 (bop .Mod) (fz (fOp2 (bop .Pow) (fz (fBlt bInt (gEx (fz (fOp2 (bop .Add) (fz (fOp2 (bop .Add) (fz (fIdxV 0 (fz (fCon (.int 1))))) (fz (fOp2 (bop .Mult) (fz (fCon (.int 6364137))) (fz (fIdxV 0 (fz (fCon (.int 2))))))))) (fz (fCon (.int 1442695))))) gNil))) (fz (fCon (.int 3))))) (fz (fCon (.int 2147483647)))))
  (fRet (fOp2 (bop .Mod) (fz (fOp2 (bop .FloorDiv) (fz (fOp2 (bop .Mod) (fz (fOp2 (bop .Pow) (fz (fBlt bInt (gEx (fz (fOp2 (bop .Add) (fz (fOp2 (bop .Mult) (fz (fVar 3)) (fz (fCon (.int 48271))))) (fz (fOp2 (bop .Mult) (fz (fCon (.int 11))) (fz (fIdxV 0 (fz (fCon (.int 2))))))))) gNil))) (fz (fCon (.int 3))))) (fz (fCon (.int 2147483629))))) (fz (fCon (.int 8))))) (fz (fVar 1)))))))
def law_drawF : Fun := fRun 4 law_drawB
theorem ok_law_draw {w : World} {K : PySem.W.Frag} {mg : Str → Option Value} {base : Heap} (I : AllI K mg) (J : TBI K mg base) : FnG PP w K mg base 1 (He.ga K "_law_draw") (fdOf K "_law_draw") [("spring" : Str), ("many" : Str)] (spF (G K) 2 law_drawF) := by
  have e : law_drawF = fRun ([("spring" : Str), ("many" : Str), ("digit" : Str), ("mixed" : Str)] : List Str).length law_drawB := rfl
  rw [e]
  refine fn_fD (k := 0) (F := law_drawB) I.f_law_draw sc_law_draw (by decide) fun cdv A outer s H E hr => ?_
  have hu65 := hu65_of hr
  have hu1 := hu1_of hr
  have nd := nd_law_draw
  exact (pss_fSeq (ps_fIf (pt_fCmp hu65 rfl rfl (pe_fz (pe_fIdxV hu1 rfl (fun _ _ => rfl) (i := 0) rfl (visP rfl) rfl rfl (pe_fz pe_fInt))) (pe_fz pe_fInt))
  (pss_fSeq (ps_fSet (i := 2) nd rfl (locP rfl) (pe_fBin rfl (pe_fz (pe_fBltT (by rfl) call_int1 blt_int (by rfl) I.n_int boot_int' (pa_gEx rfl (pe_fz (pe_fIdxV hu1 rfl (fun _ _ => rfl) (i := 0) rfl (visP rfl) rfl rfl (pe_fz pe_fInt))) pa_gNil) (by decide) rfl rfl rfl)) (pe_fz (pe_fVar (i := 1) rfl (visP rfl) rfl rfl))) rfl (fnlP rfl))
  (pss_fSeq (ps_fStore hu1 (i := 0) rfl (visP rfl) rfl rfl (pe_fz pe_fInt) (pe_fz (pe_fBin rfl (pe_fz (pe_fIdxV hu1 rfl (fun _ _ => rfl) (i := 0) rfl (visP rfl) rfl rfl (pe_fz pe_fInt))) (pe_fz (pe_fVar (i := 1) rfl (visP rfl) rfl rfl)))) (fun _ => rfl) rfl rfl rfl)
  (pss_fOne (ps_fRet (pe_fMove (i := 2) rfl (visP rfl) rfl rfl)))))
  pss_fNext)
  (pss_fSeq (ps_fStore hu1 (i := 0) rfl (visP rfl) rfl rfl (pe_fz pe_fInt) (pe_fz (pe_fBin rfl (pe_fz (pe_fIdxV hu1 rfl (fun _ _ => rfl) (i := 0) rfl (visP rfl) rfl rfl (pe_fz pe_fInt))) (pe_fz pe_fInt))) (fun _ => rfl) rfl rfl rfl)
  (pss_fSeq (ps_fSet (i := 3) nd rfl (locP rfl) (pe_fBin rfl (pe_fz (pe_fBin rfl (pe_fz (pe_fBltT (by rfl) call_int1 blt_int (by rfl) I.n_int boot_int' (pa_gEx rfl (pe_fz (pe_fBin rfl (pe_fz (pe_fBin rfl (pe_fz (pe_fIdxV hu1 rfl (fun _ _ => rfl) (i := 0) rfl (visP rfl) rfl rfl (pe_fz pe_fInt))) (pe_fz (pe_fBin rfl (pe_fz pe_fInt) (pe_fz (pe_fIdxV hu1 rfl (fun _ _ => rfl) (i := 0) rfl (visP rfl) rfl rfl (pe_fz pe_fInt))))))) (pe_fz pe_fInt))) pa_gNil) (by decide) rfl rfl rfl)) (pe_fz pe_fInt))) (pe_fz pe_fInt)) rfl (fnlP rfl))
  (pss_fOne (ps_fRet (pe_fBin rfl (pe_fz (pe_fBin rfl (pe_fz (pe_fBin rfl (pe_fz (pe_fBin rfl (pe_fz (pe_fBltT (by rfl) call_int1 blt_int (by rfl) I.n_int boot_int' (pa_gEx rfl (pe_fz (pe_fBin rfl (pe_fz (pe_fBin rfl (pe_fz (pe_fVar (i := 3) rfl (visP rfl) rfl rfl)) (pe_fz pe_fInt))) (pe_fz (pe_fBin rfl (pe_fz pe_fInt) (pe_fz (pe_fIdxV hu1 rfl (fun _ _ => rfl) (i := 0) rfl (visP rfl) rfl rfl (pe_fz pe_fInt))))))) pa_gNil) (by decide) rfl rfl rfl)) (pe_fz pe_fInt))) (pe_fz pe_fInt))) (pe_fz pe_fInt))) (pe_fz (pe_fVar (i := 1) rfl (visP rfl) rfl rfl))))))))
/-! ### _law_mixed -/
theorem nd_law_mixed : ([("spring" : Str), ("some" : Str), ("left" : Str), ("k" : Str)] : List Str).Nodup := by decide +kernel
theorem sc_law_mixed : FnScope [("spring" : Str), ("some" : Str), ("left" : Str), ("k" : Str)] [("spring" : Str), ("some" : Str)] (defScope s_law_mixed) := ⟨rfl, rfl, rfl, nd_law_mixed, rfl, by decide +kernel, by decide +kernel⟩
theorem b_law_mixed {K : PySem.W.Frag} {mg : Str → Option Value} (I : AllI K mg) : ∀ us : List Value, us.length = 2 → bindArgs (fdOf K "_law_mixed") ⟨us, []⟩ = pure (([("spring" : Str), ("some" : Str)] : List Str).zip us) :=
  bind_fD (args := fun us => ⟨us, []⟩) (r := fun us => ([("spring" : Str), ("some" : Str)] : List Str).zip us) (ok := fun us => us.length = 2) I.f_law_mixed fun _ _ _ _ _ _ us hl => match us, hl with | [_, _], _ => by kernel_rfl!
def law_mixedB : SS → Out Fl := (fSeq (fSet 2 (fBlt bList (gNm 1 gNil)))
  (fRet (fLc (.nm 3) [3] (fIts (fCons (fz (fBlt bLen (gNm 2 gNil))) fNil) rng1) fYes (fz (fMth 2 mPopAt (fCons (fz (fCallX false law_drawF (gNm 0 (gEx (fz (fBlt bLen (gNm 2 gNil))) gNil)))) fNil))))))
def law_mixedF : Fun := fRun 4 law_mixedB
theorem ok_law_mixed {w : World} {K : PySem.W.Frag} {mg : Str → Option Value} {base : Heap} (I : AllI K mg) (J : TBI K mg base) : FnG PP w K mg base 2 (He.ga K "_law_mixed") (fdOf K "_law_mixed") [("spring" : Str), ("some" : Str)] (spF (G K) 2 law_mixedF) := by
  have e : law_mixedF = fRun ([("spring" : Str), ("some" : Str), ("left" : Str), ("k" : Str)] : List Str).length law_mixedB := rfl
  rw [e]
  refine fn_fD (k := 1) (F := law_mixedB) I.f_law_mixed sc_law_mixed (by decide) fun cdv A outer s H E hr => ?_
  have hu65 := hu65_of hr
  have hu1 := hu1_of hr
  have nd := nd_law_mixed
  exact (pss_fSeq (ps_fSet (i := 2) nd rfl (locP rfl) (pe_fBltT (by rfl) (call_rList (by rfl)) blt_list (by rfl) I.n_list boot_list' (pa_gNm (i := 1) rfl (visP rfl) rfl rfl pa_gNil) (by decide) rfl rfl rfl) rfl (fnlP rfl))
  (pss_fOne (ps_fRet (pe_fLc rfl nd (pi_fRng1 (by rfl) I.n_range (pa_fCons rfl (pe_fz (pe_fBlt (by rfl) call_rLen blt_len (by rfl) I.n_len boot_len' (pa_gNm (i := 2) rfl (visP rfl) rfl rfl pa_gNil) (by decide) rfl rfl rfl)) pa_fNil) rfl) (blkOk_by (own := [(("k" : Str), 3)]) (by rfl)) (by decide) (by decide) (fun bs bH bA bcl bfp => (pg_fNm (i := 3) nd rfl (locP rfl) (fnlP rfl))) (fun bs bH bA bcl bfp => pts_fNil) (fun bs bH bA bcl bfp => (pe_fz (pe_fMth rfl PySem.F.slot_list_pop PySem.F.type_list_pop mt_popAt mth_popAt (i := 2) rfl (visP rfl) rfl rfl (pa_fCons rfl (pe_fz (pe_fCall (ps := [("spring" : Str), ("many" : Str)]) (xb := false) (fun _ => ⟨rfl, rfl⟩) (ok_law_draw I J) (hr.mono (by omega)) (by rfl) I.g_law_draw I.f_law_draw.kp (b_law_draw I) takes0 (pa_gNm (i := 0) rfl (visP rfl) rfl rfl (pa_gEx rfl (pe_fz (pe_fBlt (by rfl) call_rLen blt_len (by rfl) I.n_len boot_len' (pa_gNm (i := 2) rfl (visP rfl) rfl rfl pa_gNil) (by decide) rfl rfl rfl)) pa_gNil)) rfl rfl rfl rfl (glNm (glEx glNil)))) pa_fNil) rfl rfl rfl rfl rfl))) (fun _ => rfl)))))
/-! ### _law_same -/
theorem nd_law_same : ([("found" : Str), ("due" : Str), ("is_alike" : Str), ("one" : Str), ("other" : Str)] : List Str).Nodup := by decide +kernel
theorem sc_law_same : FnScope [("found" : Str), ("due" : Str), ("is_alike" : Str), ("one" : Str), ("other" : Str)] [("found" : Str), ("due" : Str)] (defScope s_law_same) := ⟨rfl, rfl, rfl, nd_law_same, rfl, by decide +kernel, by decide +kernel⟩
theorem b_law_same {K : PySem.W.Frag} {mg : Str → Option Value} (I : AllI K mg) : ∀ us : List Value, us.length = 2 → bindArgs (fdOf K "_law_same") ⟨us, []⟩ = pure (([("found" : Str), ("due" : Str)] : List Str).zip us) :=
  bind_fD (args := fun us => ⟨us, []⟩) (r := fun us => ([("found" : Str), ("due" : Str)] : List Str).zip us) (ok := fun us => us.length = 2) I.f_law_same fun _ _ _ _ _ _ us hl => match us, hl with | [_, _], _ => by kernel_rfl!
def law_sameB (rec : Fun) : SS → Out Fl := (fSeq (fIfS (fTru (fz (fIsi ["dict"] (oNm 1))))
  fNo
  fNext)
  (fSeq (fIfS (fTru (fz (fIsi ["list", "tuple"] (oNm 1))))
  (fSeq (fIfS (fOr (fCmp .NotEq (fz (fIsi ["list"] (oNm 0))) (fz (fIsi ["list"] (oNm 1)))) (fCmp .NotEq (fz (fIsi ["tuple"] (oNm 0))) (fz (fIsi ["tuple"] (oNm 1)))))
  (fRet (fCon (.bl false)))
  fNext)
  (fRet (fAndV (fz (toV (fCmp .Eq (fz (fBlt bLen (gNm 0 gNil))) (fz (fBlt bLen (gNm 1 gNil)))))) (fBlt bAll (gEx (fz (fLc (.tup [(.nm 3), (.nm 4)]) [3, 4] (fIts (fCons (fz (fVar 0)) (fCons (fz (fVar 1)) fNil)) zipOf) fYes (fz (fCallX false rec (gNm 3 (gNm 4 gNil)))))) gNil)))))
  fNext)
  (fSeq (fSet 2 (fAndV (fz (toV (fCmp .Eq (fz (fIsi ["bool"] (oNm 0))) (fz (fIsi ["bool"] (oNm 1)))))) (toV (fCmp .Eq (fz (fIsi ["int"] (oNm 0))) (fz (fIsi ["int"] (oNm 1)))))))
  (fSeq (fIfS (fOr (fTru (fz (fIsi ["dict", "list", "tuple"] (oNm 0)))) (fOr (fNot (fTruV 2)) (fCmp .NotEq (fz (fIsi ["str"] (oNm 0))) (fz (fIsi ["str"] (oNm 1))))))
  (fRet (fCon (.bl false)))
  fNext)
  (fRet (fIf (fCmp .Is (fz (fVar 1)) (fz (fCon .non))) (toV (fCmp .Is (fz (fVar 0)) (fz (fCon .non)))) (toV (fCmp .Eq (fz (fVar 0)) (fz (fVar 1))))))))))
def law_sameF : Nat → Fun
  | 0 => fNone
  | n + 1 => fRun 5 (law_sameB (law_sameF n))
theorem ok_law_same {w : World} {K : PySem.W.Frag} {mg : Str → Option Value} {base : Heap} (I : AllI K mg) (J : TBI K mg base) : ∀ n : Nat, FnG PP w K mg base (0 + n) (He.ga K "_law_same") (fdOf K "_law_same") [("found" : Str), ("due" : Str)] (spF (G K) 2 (law_sameF n))
  | 0 => fng_none
  | n + 1 => by
    have ih := ok_law_same (w := w) (base := base) I J n
    have e : law_sameF (n + 1) = fRun ([("found" : Str), ("due" : Str), ("is_alike" : Str), ("one" : Str), ("other" : Str)] : List Str).length (law_sameB (law_sameF n)) := rfl
    rw [e]
    refine fn_fD (k := 0 + n) (F := law_sameB (law_sameF n)) I.f_law_same sc_law_same (by decide) fun cdv A outer s H E hr => ?_
    have hu65 := hu65_of hr
    have hu1 := hu1_of hr
    have nd := nd_law_same
    exact (pss_fSeq (ps_fIf (pt_fTru rfl (pe_fz (pe_fIsi1 (by rfl) (by rfl) I.n_isinstance (p1_nm (i := 1) rfl (visP rfl) rfl rfl) (.cons (by rfl) I.n_dict PyProof.Rows.boot_dict (by decide) rfl .nil) (by decide) rfl)) (fun _ => rfl))
  pss_fNo
  pss_fNext)
  (pss_fSeq (ps_fIf (pt_fTru rfl (pe_fz (pe_fIsiT (by rfl) (by rfl) I.n_isinstance (p1_nm (i := 1) rfl (visP rfl) rfl rfl) (.cons (by rfl) I.n_list PyProof.Rows.boot_list (by decide) rfl (.cons (by rfl) I.n_tuple PyProof.Rows.boot_tuple (by decide) rfl .nil)) (by decide) (by decide) rfl)) (fun _ => rfl))
  (pss_fSeq (ps_fIf (pt_of_pw (pw_fOr (pt_fCmp hu65 rfl rfl (pe_fz (pe_fIsi1 (by rfl) (by rfl) I.n_isinstance (p1_nm (i := 0) rfl (visP rfl) rfl rfl) (.cons (by rfl) I.n_list PyProof.Rows.boot_list (by decide) rfl .nil) (by decide) rfl)) (pe_fz (pe_fIsi1 (by rfl) (by rfl) I.n_isinstance (p1_nm (i := 1) rfl (visP rfl) rfl rfl) (.cons (by rfl) I.n_list PyProof.Rows.boot_list (by decide) rfl .nil) (by decide) rfl))) (pw_fOr1 (pt_fCmp hu65 rfl rfl (pe_fz (pe_fIsi1 (by rfl) (by rfl) I.n_isinstance (p1_nm (i := 0) rfl (visP rfl) rfl rfl) (.cons (by rfl) I.n_tuple PyProof.Rows.boot_tuple (by decide) rfl .nil) (by decide) rfl)) (pe_fz (pe_fIsi1 (by rfl) (by rfl) I.n_isinstance (p1_nm (i := 1) rfl (visP rfl) rfl rfl) (.cons (by rfl) I.n_tuple PyProof.Rows.boot_tuple (by decide) rfl .nil) (by decide) rfl))))))
  (pss_fOne (ps_fRet pe_fBl))
  pss_fNext)
  (pss_fOne (ps_fRet (pe_fAnd rfl (pe_fz (pe_fCmp hu65 rfl rfl (pe_fz (pe_fBlt (by rfl) call_rLen blt_len (by rfl) I.n_len boot_len' (pa_gNm (i := 0) rfl (visP rfl) rfl rfl pa_gNil) (by decide) rfl rfl rfl)) (pe_fz (pe_fBlt (by rfl) call_rLen blt_len (by rfl) I.n_len boot_len' (pa_gNm (i := 1) rfl (visP rfl) rfl rfl pa_gNil) (by decide) rfl rfl rfl)))) (pe_fOne (pe_fBlt (by rfl) (cr_all (by rfl)) blt_all (by rfl) I.n_all boot_all' (pa_gEx rfl (pe_fz (pe_fLc rfl nd (pi_fZip (by rfl) (by rfl) I.n_zip (pa_fCons rfl (pe_fz (pe_fVar (i := 0) rfl (visP rfl) rfl rfl)) (pa_fCons rfl (pe_fz (pe_fVar (i := 1) rfl (visP rfl) rfl rfl)) pa_fNil)) rfl rfl) (blkOk_by (own := [(("one" : Str), 3), (("other" : Str), 4)]) (by rfl)) (by decide) (by decide) (fun bs bH bA bcl bfp => (pg_fTup rfl rfl (pgs_fCons (pg_fNm (i := 3) nd rfl (locP rfl) (fnlP rfl)) (pgs_fCons (pg_fNm (i := 4) nd rfl (locP rfl) (fnlP rfl)) pgs_fNil rfl) rfl) rfl rfl)) (fun bs bH bA bcl bfp => pts_fNil) (fun bs bH bA bcl bfp => (pe_fz (pe_fCall (ps := [("found" : Str), ("due" : Str)]) (xb := false) (fun _ => ⟨rfl, rfl⟩) ih (hr.mono (by omega)) (by rfl) I.g_law_same I.f_law_same.kp (b_law_same I) takes0 (pa_gNm (i := 3) rfl (visP rfl) rfl rfl (pa_gNm (i := 4) rfl (visP rfl) rfl rfl pa_gNil)) rfl rfl rfl rfl (glNm (glNm glNil))))) (fun _ => rfl))) pa_gNil) (by decide) rfl rfl rfl))))))
  pss_fNext)
  (pss_fSeq (ps_fSet (i := 2) nd rfl (locP rfl) (pe_fAnd rfl (pe_fz (pe_fCmp hu65 rfl rfl (pe_fz (pe_fIsi1 (by rfl) (by rfl) I.n_isinstance (p1_nm (i := 0) rfl (visP rfl) rfl rfl) (.cons (by rfl) I.n_bool PyProof.Rows.boot_bool (by decide) rfl .nil) (by decide) rfl)) (pe_fz (pe_fIsi1 (by rfl) (by rfl) I.n_isinstance (p1_nm (i := 1) rfl (visP rfl) rfl rfl) (.cons (by rfl) I.n_bool PyProof.Rows.boot_bool (by decide) rfl .nil) (by decide) rfl)))) (pe_fOne (pe_fCmp hu65 rfl rfl (pe_fz (pe_fIsi1 (by rfl) (by rfl) I.n_isinstance (p1_nm (i := 0) rfl (visP rfl) rfl rfl) (.cons (by rfl) I.n_int PyProof.Rows.boot_int (by decide) rfl .nil) (by decide) rfl)) (pe_fz (pe_fIsi1 (by rfl) (by rfl) I.n_isinstance (p1_nm (i := 1) rfl (visP rfl) rfl rfl) (.cons (by rfl) I.n_int PyProof.Rows.boot_int (by decide) rfl .nil) (by decide) rfl))))) rfl (fnlP rfl))
  (pss_fSeq (ps_fIf (pt_of_pw (pw_fOr (pt_fTru rfl (pe_fz (pe_fIsiT (by rfl) (by rfl) I.n_isinstance (p1_nm (i := 0) rfl (visP rfl) rfl rfl) (.cons (by rfl) I.n_dict PyProof.Rows.boot_dict (by decide) rfl (.cons (by rfl) I.n_list PyProof.Rows.boot_list (by decide) rfl (.cons (by rfl) I.n_tuple PyProof.Rows.boot_tuple (by decide) rfl .nil))) (by decide) (by decide) rfl)) (fun _ => rfl)) (pw_fOr (pt_fNot (pt_fTruV rfl (i := 2) rfl (visP rfl) rfl rfl)) (pw_fOr1 (pt_fCmp hu65 rfl rfl (pe_fz (pe_fIsi1 (by rfl) (by rfl) I.n_isinstance (p1_nm (i := 0) rfl (visP rfl) rfl rfl) (.cons (by rfl) I.n_str PyProof.Rows.boot_str (by decide) rfl .nil) (by decide) rfl)) (pe_fz (pe_fIsi1 (by rfl) (by rfl) I.n_isinstance (p1_nm (i := 1) rfl (visP rfl) rfl rfl) (.cons (by rfl) I.n_str PyProof.Rows.boot_str (by decide) rfl .nil) (by decide) rfl)))))))
  (pss_fOne (ps_fRet pe_fBl))
  pss_fNext)
  (pss_fOne (ps_fRet (pe_fIf (pt_fCmp hu65 rfl rfl (pe_fz (pe_fVar (i := 1) rfl (visP rfl) rfl rfl)) (pe_fz pe_fNon)) (pe_fCmp hu65 rfl rfl (pe_fz (pe_fVar (i := 0) rfl (visP rfl) rfl rfl)) (pe_fz pe_fNon)) (pe_fCmp hu65 rfl rfl (pe_fz (pe_fVar (i := 0) rfl (visP rfl) rfl rfl)) (pe_fz (pe_fVar (i := 1) rfl (visP rfl) rfl rfl))))))))))
/-! ### is_integer -/
theorem nd_is_integer : ([("thing" : Str)] : List Str).Nodup := by decide +kernel
theorem sc_is_integer : FnScope [("thing" : Str)] [("thing" : Str)] (defScope s_is_integer) := ⟨rfl, rfl, rfl, nd_is_integer, rfl, by decide +kernel, by decide +kernel⟩
theorem b_is_integer {K : PySem.W.Frag} {mg : Str → Option Value} (I : AllI K mg) : ∀ us : List Value, us.length = 1 → bindArgs (fdOf K "is_integer") ⟨us, []⟩ = pure (([("thing" : Str)] : List Str).zip us) :=
  bind_fD (args := fun us => ⟨us, []⟩) (r := fun us => ([("thing" : Str)] : List Str).zip us) (ok := fun us => us.length = 1) I.f_is_integer fun _ _ _ _ _ _ us hl => match us, hl with | [_], _ => by kernel_rfl!
def is_integerB : SS → Out Fl := (fRet (fAndV (fz (fIsi ["int"] (oNm 0))) (toV (fNot (fTru (fz (fIsi ["bool"] (oNm 0))))))))
def is_integerF : Fun := fRun 1 is_integerB
theorem ok_is_integer {w : World} {K : PySem.W.Frag} {mg : Str → Option Value} {base : Heap} (I : AllI K mg) (J : TBI K mg base) : FnG PP w K mg base 1 (He.ga K "is_integer") (fdOf K "is_integer") [("thing" : Str)] (spF (G K) 1 is_integerF) := by
  have e : is_integerF = fRun ([("thing" : Str)] : List Str).length is_integerB := rfl
  rw [e]
  refine fn_fD (k := 0) (F := is_integerB) I.f_is_integer sc_is_integer (by decide) fun cdv A outer s H E hr => ?_
  have hu65 := hu65_of hr
  have hu1 := hu1_of hr
  have nd := nd_is_integer
  exact (pss_fOne (ps_fRet (pe_fAnd rfl (pe_fz (pe_fIsi1 (by rfl) (by rfl) I.n_isinstance (p1_nm (i := 0) rfl (visP rfl) rfl rfl) (.cons (by rfl) I.n_int PyProof.Rows.boot_int (by decide) rfl .nil) (by decide) rfl)) (pe_fOne (pe_fNot rfl (pe_fz (pe_fIsi1 (by rfl) (by rfl) I.n_isinstance (p1_nm (i := 0) rfl (visP rfl) rfl rfl) (.cons (by rfl) I.n_bool PyProof.Rows.boot_bool (by decide) rfl .nil) (by decide) rfl)))))))
/-! ### is_between -/
theorem nd_is_between : ([("thing" : Str), ("low" : Str), ("high" : Str)] : List Str).Nodup := by decide +kernel
theorem sc_is_between : FnScope [("thing" : Str), ("low" : Str), ("high" : Str)] [("thing" : Str), ("low" : Str), ("high" : Str)] (defScope s_is_between) := ⟨rfl, rfl, rfl, nd_is_between, rfl, by decide +kernel, by decide +kernel⟩
theorem b_is_between {K : PySem.W.Frag} {mg : Str → Option Value} (I : AllI K mg) : ∀ us : List Value, us.length = 3 → bindArgs (fdOf K "is_between") ⟨us, []⟩ = pure (([("thing" : Str), ("low" : Str), ("high" : Str)] : List Str).zip us) :=
  bind_fD (args := fun us => ⟨us, []⟩) (r := fun us => ([("thing" : Str), ("low" : Str), ("high" : Str)] : List Str).zip us) (ok := fun us => us.length = 3) I.f_is_between fun _ _ _ _ _ _ us hl => match us, hl with | [_, _, _], _ => by kernel_rfl!
def is_betweenB : SS → Out Fl := (fRet (fAndV (fz (fCallX false is_integerF (gNm 0 gNil))) (toV (fChn .LtE .LtE (fz (fVar 1)) (fz (fVar 0)) (fz (fVar 2))))))
def is_betweenF : Fun := fRun 3 is_betweenB
theorem ok_is_between {w : World} {K : PySem.W.Frag} {mg : Str → Option Value} {base : Heap} (I : AllI K mg) (J : TBI K mg base) : FnG PP w K mg base 2 (He.ga K "is_between") (fdOf K "is_between") [("thing" : Str), ("low" : Str), ("high" : Str)] (spF (G K) 3 is_betweenF) := by
  have e : is_betweenF = fRun ([("thing" : Str), ("low" : Str), ("high" : Str)] : List Str).length is_betweenB := rfl
  rw [e]
  refine fn_fD (k := 1) (F := is_betweenB) I.f_is_between sc_is_between (by decide) fun cdv A outer s H E hr => ?_
  have hu65 := hu65_of hr
  have hu1 := hu1_of hr
  have nd := nd_is_between
  exact (pss_fOne (ps_fRet (pe_fAnd rfl (pe_fz (pe_fCall (ps := [("thing" : Str)]) (xb := false) (fun _ => ⟨rfl, rfl⟩) (ok_is_integer I J) (hr.mono (by omega)) (by rfl) I.g_is_integer I.f_is_integer.kp (b_is_integer I) takes_cx (pa_gNm (i := 0) rfl (visP rfl) rfl rfl pa_gNil) rfl rfl rfl rfl (glNm glNil))) (pe_fOne (pe_fChn hu65 rfl rfl (pe_fz (pe_fVar (i := 1) rfl (visP rfl) rfl rfl)) (pe_fz (pe_fVar (i := 0) rfl (visP rfl) rfl rfl)) (pe_fz (pe_fVar (i := 2) rfl (visP rfl) rfl rfl)))))))
/-! ### check_field -/
theorem nd_check_field : ([("q" : Str)] : List Str).Nodup := by decide +kernel
theorem sc_check_field : FnScope [("q" : Str)] [("q" : Str)] (defScope s_check_field) := ⟨rfl, rfl, rfl, nd_check_field, rfl, by decide +kernel, by decide +kernel⟩
theorem b_check_field {K : PySem.W.Frag} {mg : Str → Option Value} (I : AllI K mg) : ∀ us : List Value, us.length = 1 → bindArgs (fdOf K "check_field") ⟨us, []⟩ = pure (([("q" : Str)] : List Str).zip us) :=
  bind_fD (args := fun us => ⟨us, []⟩) (r := fun us => ([("q" : Str)] : List Str).zip us) (ok := fun us => us.length = 1) I.f_check_field fun _ _ _ _ _ _ us hl => match us, hl with | [_], _ => by kernel_rfl!
def check_fieldB : SS → Out Fl := (fIfS (fOr (fNot (fTru (fz (fCallX false is_betweenF (gNm 0 (gEx (fz (fCon (.int 2))) (gEx (fz (fCon (.int 9))) gNil))))))) (fCmp .NotIn (fz (fVar 0)) (fz (fCon (.ro (.tup ([2, 3, 4, 5, 7, 8, 9].map D.int)))))))
  (fRaise 0 1 (fCons (fz (fVar 0)) fNil))
  fNext)
def check_fieldF : Fun := fRun 1 check_fieldB
theorem ok_check_field {w : World} {K : PySem.W.Frag} {mg : Str → Option Value} {base : Heap} (I : AllI K mg) (J : TBI K mg base) : FnG PP w K mg base 3 (He.ga K "check_field") (fdOf K "check_field") [("q" : Str)] (spF (G K) 1 check_fieldF) := by
  have e : check_fieldF = fRun ([("q" : Str)] : List Str).length check_fieldB := rfl
  rw [e]
  refine fn_fD (k := 2) (F := check_fieldB) I.f_check_field sc_check_field (by decide) fun cdv A outer s H E hr => ?_
  have hu65 := hu65_of hr
  have hu1 := hu1_of hr
  have nd := nd_check_field
  exact (pss_fOne (ps_fIf (pt_of_pw (pw_fOr (pt_fNot (pt_fTru rfl (pe_fz (pe_fCall (ps := [("thing" : Str), ("low" : Str), ("high" : Str)]) (xb := false) (fun _ => ⟨rfl, rfl⟩) (ok_is_between I J) (hr.mono (by omega)) (by rfl) I.g_is_between I.f_is_between.kp (b_is_between I) takes_cx (pa_gNm (i := 0) rfl (visP rfl) rfl rfl (pa_gEx rfl (pe_fz pe_fInt) (pa_gEx rfl (pe_fz pe_fInt) pa_gNil))) rfl rfl rfl rfl (glNm (glEx (glEx glNil))))) (fun _ => rfl))) (pw_fOr1 (pt_fCmp hu65 rfl rfl (pe_fz (pe_fVar (i := 0) rfl (visP rfl) rfl rfl)) (pe_fz (pe_fGloT (by rfl) I.g_SIZES I.c_SIZES rfl rfl))))))
  (pss_fOne (ps_fRaise (k := 0) rfl rfl takes_cx I.x_BadField rfl (hr.mono (by omega)) (by rfl) I.g_BadField (pa_fCons rfl (pe_fz (pe_fVar (i := 0) rfl (visP rfl) rfl rfl)) pa_fNil) rfl rfl rfl))
  pss_fNext))
/-! ### check_value -/
theorem nd_check_value : ([("q" : Str), ("value" : Str)] : List Str).Nodup := by decide +kernel
theorem sc_check_value : FnScope [("q" : Str), ("value" : Str)] [("q" : Str), ("value" : Str)] (defScope s_check_value) := ⟨rfl, rfl, rfl, nd_check_value, rfl, by decide +kernel, by decide +kernel⟩
theorem b_check_value {K : PySem.W.Frag} {mg : Str → Option Value} (I : AllI K mg) : ∀ us : List Value, us.length = 2 → bindArgs (fdOf K "check_value") ⟨us, []⟩ = pure (([("q" : Str), ("value" : Str)] : List Str).zip us) :=
  bind_fD (args := fun us => ⟨us, []⟩) (r := fun us => ([("q" : Str), ("value" : Str)] : List Str).zip us) (ok := fun us => us.length = 2) I.f_check_value fun _ _ _ _ _ _ us hl => match us, hl with | [_, _], _ => by kernel_rfl!
def check_valueB : SS → Out Fl := (fIfS (fNot (fTru (fz (fCallX false is_betweenF (gNm 1 (gEx (fz (fCon (.int 0))) (gEx (fz (fOp2 (bop .Sub) (fz (fVar 0)) (fz (fCon (.int 1))))) gNil)))))))
  (fRaise 1 1 (fCons (fz (fVar 1)) fNil))
  fNext)
def check_valueF : Fun := fRun 2 check_valueB
theorem ok_check_value {w : World} {K : PySem.W.Frag} {mg : Str → Option Value} {base : Heap} (I : AllI K mg) (J : TBI K mg base) : FnG PP w K mg base 3 (He.ga K "check_value") (fdOf K "check_value") [("q" : Str), ("value" : Str)] (spF (G K) 2 check_valueF) := by
  have e : check_valueF = fRun ([("q" : Str), ("value" : Str)] : List Str).length check_valueB := rfl
  rw [e]
  refine fn_fD (k := 2) (F := check_valueB) I.f_check_value sc_check_value (by decide) fun cdv A outer s H E hr => ?_
  have hu65 := hu65_of hr
  have hu1 := hu1_of hr
  have nd := nd_check_value
  exact (pss_fOne (ps_fIf (pt_fNot (pt_fTru rfl (pe_fz (pe_fCall (ps := [("thing" : Str), ("low" : Str), ("high" : Str)]) (xb := false) (fun _ => ⟨rfl, rfl⟩) (ok_is_between I J) (hr.mono (by omega)) (by rfl) I.g_is_between I.f_is_between.kp (b_is_between I) takes_cx (pa_gNm (i := 1) rfl (visP rfl) rfl rfl (pa_gEx rfl (pe_fz pe_fInt) (pa_gEx rfl (pe_fz (pe_fBin rfl (pe_fz (pe_fVar (i := 0) rfl (visP rfl) rfl rfl)) (pe_fz pe_fInt))) pa_gNil))) rfl rfl rfl rfl (glNm (glEx (glEx glNil))))) (fun _ => rfl)))
  (pss_fOne (ps_fRaise (k := 0) rfl rfl takes_cx I.x_BadValue rfl (hr.mono (by omega)) (by rfl) I.g_BadValue (pa_fCons rfl (pe_fz (pe_fVar (i := 1) rfl (visP rfl) rfl rfl)) pa_fNil) rfl rfl rfl))
  pss_fNext))
/-! ### base_of -/
theorem nd_base_of : ([("q" : Str)] : List Str).Nodup := by decide +kernel
theorem sc_base_of : FnScope [("q" : Str)] [("q" : Str)] (defScope s_base_of) := ⟨rfl, rfl, rfl, nd_base_of, rfl, by decide +kernel, by decide +kernel⟩
theorem b_base_of {K : PySem.W.Frag} {mg : Str → Option Value} (I : AllI K mg) : ∀ us : List Value, us.length = 1 → bindArgs (fdOf K "base_of") ⟨us, []⟩ = pure (([("q" : Str)] : List Str).zip us) :=
  bind_fD (args := fun us => ⟨us, []⟩) (r := fun us => ([("q" : Str)] : List Str).zip us) (ok := fun us => us.length = 1) I.f_base_of fun _ _ _ _ _ _ us hl => match us, hl with | [_], _ => by kernel_rfl!
def base_ofB : SS → Out Fl := (fSeq (fIfS (fCmp .In (fz (fVar 0)) (fz (fLst (fCons (fz (fCon (.int 4))) (fCons (fz (fCon (.int 8))) fNil)))))
  (fRet (fTup (fCons (fz (fCon (.int 2))) (fCons (fz (fIf (fCmp .Eq (fz (fVar 0)) (fz (fCon (.int 4)))) (fCon (.int 2)) (fCon (.int 3)))) fNil))))
  fNext)
  (fRet (fIf (fCmp .Eq (fz (fVar 0)) (fz (fCon (.int 9)))) (fTup (fCons (fz (fCon (.int 3))) (fCons (fz (fCon (.int 2))) fNil))) (fTup (fCons (fz (fVar 0)) (fCons (fz (fCon (.int 1))) fNil))))))
def base_ofF : Fun := fRun 1 base_ofB
theorem ok_base_of {w : World} {K : PySem.W.Frag} {mg : Str → Option Value} {base : Heap} (I : AllI K mg) (J : TBI K mg base) : FnG PP w K mg base 1 (He.ga K "base_of") (fdOf K "base_of") [("q" : Str)] (spF (G K) 1 base_ofF) := by
  have e : base_ofF = fRun ([("q" : Str)] : List Str).length base_ofB := rfl
  rw [e]
  refine fn_fD (k := 0) (F := base_ofB) I.f_base_of sc_base_of (by decide) fun cdv A outer s H E hr => ?_
  have hu65 := hu65_of hr
  have hu1 := hu1_of hr
  have nd := nd_base_of
  exact (pss_fSeq (ps_fIf (pt_fCmp hu65 rfl rfl (pe_fz (pe_fVar (i := 0) rfl (visP rfl) rfl rfl)) (pe_fz (pe_fLst (pa_fCons rfl (pe_fz pe_fInt) (pa_fCons rfl (pe_fz pe_fInt) pa_fNil)))))
  (pss_fOne (ps_fRet (pe_fTup (pa_fCons rfl (pe_fz pe_fInt) (pa_fCons rfl (pe_fz (pe_fIf (pt_fCmp hu65 rfl rfl (pe_fz (pe_fVar (i := 0) rfl (visP rfl) rfl rfl)) (pe_fz pe_fInt)) pe_fInt pe_fInt)) pa_fNil)))))
  pss_fNext)
  (pss_fOne (ps_fRet (pe_fIf (pt_fCmp hu65 rfl rfl (pe_fz (pe_fVar (i := 0) rfl (visP rfl) rfl rfl)) (pe_fz pe_fInt)) (pe_fTup (pa_fCons rfl (pe_fz pe_fInt) (pa_fCons rfl (pe_fz pe_fInt) pa_fNil))) (pe_fTup (pa_fCons rfl (pe_fz (pe_fVar (i := 0) rfl (visP rfl) rfl rfl)) (pa_fCons rfl (pe_fz pe_fInt) pa_fNil)))))))
/-! ### number_of -/
theorem nd_number_of : ([("figures" : Str), ("base" : Str), ("told" : Str), ("index" : Str)] : List Str).Nodup := by decide +kernel
theorem sc_number_of : FnScope [("figures" : Str), ("base" : Str), ("told" : Str), ("index" : Str)] [("figures" : Str), ("base" : Str)] (defScope s_number_of) := ⟨rfl, rfl, rfl, nd_number_of, rfl, by decide +kernel, by decide +kernel⟩
theorem b_number_of {K : PySem.W.Frag} {mg : Str → Option Value} (I : AllI K mg) : ∀ us : List Value, us.length = 2 → bindArgs (fdOf K "number_of") ⟨us, []⟩ = pure (([("figures" : Str), ("base" : Str)] : List Str).zip us) :=
  bind_fD (args := fun us => ⟨us, []⟩) (r := fun us => ([("figures" : Str), ("base" : Str)] : List Str).zip us) (ok := fun us => us.length = 2) I.f_number_of fun _ _ _ _ _ _ us hl => match us, hl with | [_, _], _ => by kernel_rfl!
def number_ofB : SS → Out Fl := (fSeq (fSet 2 (fCon (.int 0)))
  (fSeq (fForI (.nm 3) (fIts (fCons (fz (fOp2 (bop .Sub) (fz (fBlt bLen (gNm 0 gNil))) (fz (fCon (.int 1))))) (fCons (fz (fNeg (fz (fCon (.int 1))))) (fCons (fz (fNeg (fz (fCon (.int 1))))) fNil))) rng3)
  (fSet 2 (fOp2 (bop .Add) (fz (fOp2 (bop .Mult) (fz (fVar 2)) (fz (fVar 1)))) (fz (fOp2 (bop .Mod) (fz (fIdxV 0 (fz (fVar 3)))) (fz (fVar 1)))))))
  (fRet (fMove 2))))
def number_ofF : Fun := fRun 4 number_ofB
theorem ok_number_of {w : World} {K : PySem.W.Frag} {mg : Str → Option Value} {base : Heap} (I : AllI K mg) (J : TBI K mg base) : FnG PP w K mg base 1 (He.ga K "number_of") (fdOf K "number_of") [("figures" : Str), ("base" : Str)] (spF (G K) 2 number_ofF) := by
  have e : number_ofF = fRun ([("figures" : Str), ("base" : Str), ("told" : Str), ("index" : Str)] : List Str).length number_ofB := rfl
  rw [e]
  refine fn_fD (k := 0) (F := number_ofB) I.f_number_of sc_number_of (by decide) fun cdv A outer s H E hr => ?_
  have hu65 := hu65_of hr
  have hu1 := hu1_of hr
  have nd := nd_number_of
  exact (pss_fSeq (ps_fSet (i := 2) nd rfl (locP rfl) pe_fInt rfl (fnlP rfl))
  (pss_fSeq (ps_fFor owns_cx rfl (pi_fRng3 (by rfl) I.n_range (pa_fCons rfl (pe_fz (pe_fBin rfl (pe_fz (pe_fBlt (by rfl) call_rLen blt_len (by rfl) I.n_len boot_len' (pa_gNm (i := 0) rfl (visP rfl) rfl rfl pa_gNil) (by decide) rfl rfl rfl)) (pe_fz pe_fInt))) (pa_fCons rfl (pe_fz (pe_fNeg (pe_fz pe_fInt))) (pa_fCons rfl (pe_fz (pe_fNeg (pe_fz pe_fInt))) pa_fNil))) rfl rfl) (pg_fNm (i := 3) nd rfl (locP rfl) (fnlP rfl))
  (pss_fOne (ps_fSet (i := 2) nd rfl (locP rfl) (pe_fBin rfl (pe_fz (pe_fBin rfl (pe_fz (pe_fVar (i := 2) rfl (visP rfl) rfl rfl)) (pe_fz (pe_fVar (i := 1) rfl (visP rfl) rfl rfl)))) (pe_fz (pe_fBin rfl (pe_fz (pe_fIdxV hu1 rfl (fun _ _ => rfl) (i := 0) rfl (visP rfl) rfl rfl (pe_fz (pe_fVar (i := 3) rfl (visP rfl) rfl rfl)))) (pe_fz (pe_fVar (i := 1) rfl (visP rfl) rfl rfl))))) rfl (fnlP rfl))) (fun _ => rfl))
  (pss_fOne (ps_fRet (pe_fMove (i := 2) rfl (visP rfl) rfl rfl)))))
/-! ### digits -/
theorem nd_digits : ([("number" : Str), ("base" : Str), ("many" : Str), ("told" : Str), ("left" : Str), ("_" : Str)] : List Str).Nodup := by decide +kernel
theorem sc_digits : FnScope [("number" : Str), ("base" : Str), ("many" : Str), ("told" : Str), ("left" : Str), ("_" : Str)] [("number" : Str), ("base" : Str), ("many" : Str)] (defScope s_digits) := ⟨rfl, rfl, rfl, nd_digits, rfl, by decide +kernel, by decide +kernel⟩
theorem b_digits {K : PySem.W.Frag} {mg : Str → Option Value} (I : AllI K mg) : ∀ us : List Value, us.length = 3 → bindArgs (fdOf K "digits") ⟨us, []⟩ = pure (([("number" : Str), ("base" : Str), ("many" : Str)] : List Str).zip us) :=
  bind_fD (args := fun us => ⟨us, []⟩) (r := fun us => ([("number" : Str), ("base" : Str), ("many" : Str)] : List Str).zip us) (ok := fun us => us.length = 3) I.f_digits fun _ _ _ _ _ _ us hl => match us, hl with | [_, _, _], _ => by kernel_rfl!
def digitsB : SS → Out Fl := (fSeq (fSet 3 (fLst fNil))
  (fSeq (fSet 4 (fVar 0))
  (fSeq (fForI (.nm 5) (fIts (fCons (fz (fVar 2)) fNil) rng1)
  (fSeq (fDrop (fMth 3 mAppend (fCons (fz (fOp2 (bop .Mod) (fz (fVar 4)) (fz (fVar 1)))) fNil)))
  (fSet 4 (fOp2 (bop .FloorDiv) (fz (fVar 4)) (fz (fVar 1))))))
  (fRet (fMove 3)))))
def digitsF : Fun := fRun 6 digitsB
theorem ok_digits {w : World} {K : PySem.W.Frag} {mg : Str → Option Value} {base : Heap} (I : AllI K mg) (J : TBI K mg base) : FnG PP w K mg base 1 (He.ga K "digits") (fdOf K "digits") [("number" : Str), ("base" : Str), ("many" : Str)] (spF (G K) 3 digitsF) := by
  have e : digitsF = fRun ([("number" : Str), ("base" : Str), ("many" : Str), ("told" : Str), ("left" : Str), ("_" : Str)] : List Str).length digitsB := rfl
  rw [e]
  refine fn_fD (k := 0) (F := digitsB) I.f_digits sc_digits (by decide) fun cdv A outer s H E hr => ?_
  have hu65 := hu65_of hr
  have hu1 := hu1_of hr
  have nd := nd_digits
  exact (pss_fSeq (ps_fSet (i := 3) nd rfl (locP rfl) (pe_fLst pa_fNil) rfl (fnlP rfl))
  (pss_fSeq (ps_fSet (i := 4) nd rfl (locP rfl) (pe_fVar (i := 0) rfl (visP rfl) rfl rfl) rfl (fnlP rfl))
  (pss_fSeq (ps_fFor owns_cx rfl (pi_fRng1 (by rfl) I.n_range (pa_fCons rfl (pe_fz (pe_fVar (i := 2) rfl (visP rfl) rfl rfl)) pa_fNil) rfl) (pg_fNm (i := 5) nd rfl (locP rfl) (fnlP rfl))
  (pss_fSeq (ps_fDrop (pe_fMth rfl PySem.F.slot_list_append PySem.F.type_list_append mt_append mth_append (i := 3) rfl (visP rfl) rfl rfl (pa_fCons rfl (pe_fz (pe_fBin rfl (pe_fz (pe_fVar (i := 4) rfl (visP rfl) rfl rfl)) (pe_fz (pe_fVar (i := 1) rfl (visP rfl) rfl rfl)))) pa_fNil) rfl rfl rfl rfl rfl) rfl)
  (pss_fOne (ps_fSet (i := 4) nd rfl (locP rfl) (pe_fBin rfl (pe_fz (pe_fVar (i := 4) rfl (visP rfl) rfl rfl)) (pe_fz (pe_fVar (i := 1) rfl (visP rfl) rfl rfl))) rfl (fnlP rfl)))) (fun _ => rfl))
  (pss_fOne (ps_fRet (pe_fMove (i := 3) rfl (visP rfl) rfl rfl))))))
/-! ### sum_in -/
theorem nd_sum_in : ([("q" : Str), ("one" : Str), ("other" : Str), ("base" : Str), ("many" : Str), ("pairs" : Str), ("first" : Str), ("second" : Str)] : List Str).Nodup := by decide +kernel
theorem sc_sum_in : FnScope [("q" : Str), ("one" : Str), ("other" : Str), ("base" : Str), ("many" : Str), ("pairs" : Str), ("first" : Str), ("second" : Str)] [("q" : Str), ("one" : Str), ("other" : Str)] (defScope s_sum_in) := ⟨rfl, rfl, rfl, nd_sum_in, rfl, by decide +kernel, by decide +kernel⟩
theorem b_sum_in {K : PySem.W.Frag} {mg : Str → Option Value} (I : AllI K mg) : ∀ us : List Value, us.length = 3 → bindArgs (fdOf K "sum_in") ⟨us, []⟩ = pure (([("q" : Str), ("one" : Str), ("other" : Str)] : List Str).zip us) :=
  bind_fD (args := fun us => ⟨us, []⟩) (r := fun us => ([("q" : Str), ("one" : Str), ("other" : Str)] : List Str).zip us) (ok := fun us => us.length = 3) I.f_sum_in fun _ _ _ _ _ _ us hl => match us, hl with | [_, _, _], _ => by kernel_rfl!
def sum_inB : SS → Out Fl := (fSeq (fUnp (.tup [(.nm 3), (.nm 4)]) (fz (fCallX false base_ofF (gNm 0 gNil))))
  (fZipRet 5 (fCons (fz (fCallX false digitsF (gNm 1 (gNm 3 (gNm 4 gNil))))) (fCons (fz (fCallX false digitsF (gNm 2 (gNm 3 (gNm 4 gNil))))) fNil)) (.tup [(.nm 6), (.nm 7)]) [6, 7] fYes (fz (fOp2 (bop .Add) (fz (fVar 6)) (fz (fVar 7)))) false number_ofF 2 (gNm 3 gNil)))
def sum_inF : Fun := fRun 8 sum_inB
theorem ok_sum_in {w : World} {K : PySem.W.Frag} {mg : Str → Option Value} {base : Heap} (I : AllI K mg) (J : TBI K mg base) : FnG PP w K mg base 2 (He.ga K "sum_in") (fdOf K "sum_in") [("q" : Str), ("one" : Str), ("other" : Str)] (spF (G K) 3 sum_inF) := by
  have e : sum_inF = fRun ([("q" : Str), ("one" : Str), ("other" : Str), ("base" : Str), ("many" : Str), ("pairs" : Str), ("first" : Str), ("second" : Str)] : List Str).length sum_inB := rfl
  rw [e]
  refine fn_fD (k := 1) (F := sum_inB) I.f_sum_in sc_sum_in (by decide) fun cdv A outer s H E hr => ?_
  have hu65 := hu65_of hr
  have hu1 := hu1_of hr
  have nd := nd_sum_in
  exact (pss_fSeq (ps_fUnp (pe_fz (pe_fCall (ps := [("q" : Str)]) (xb := false) (fun _ => ⟨rfl, rfl⟩) (ok_base_of I J) (hr.mono (by omega)) (by rfl) I.g_base_of I.f_base_of.kp (b_base_of I) takes_cx (pa_gNm (i := 0) rfl (visP rfl) rfl rfl pa_gNil) rfl rfl rfl rfl (glNm glNil))) (pg_fTup rfl rfl (pgs_fCons (pg_fNm (i := 3) nd rfl (locP rfl) (fnlP rfl)) (pgs_fCons (pg_fNm (i := 4) nd rfl (locP rfl) (fnlP rfl)) pgs_fNil rfl) rfl) rfl rfl) rfl rfl rfl)
  (pss_zip (ps := [("figures" : Str), ("base" : Str)]) rfl (xb := false) (i := 5) (own := [(("first" : Str), 6), (("second" : Str), 7)]) (fun _ => ⟨rfl, rfl⟩) rfl rfl nd rfl (locP rfl) (visP rfl) rfl rfl (by rfl) I.n_zip (pa_fCons rfl (pe_fz (pe_fCall (ps := [("number" : Str), ("base" : Str), ("many" : Str)]) (xb := false) (fun _ => ⟨rfl, rfl⟩) (ok_digits I J) (hr.mono (by omega)) (by rfl) I.g_digits I.f_digits.kp (b_digits I) takes_cx (pa_gNm (i := 1) rfl (visP rfl) rfl rfl (pa_gNm (i := 3) rfl (visP rfl) rfl rfl (pa_gNm (i := 4) rfl (visP rfl) rfl rfl pa_gNil))) rfl rfl rfl rfl (glNm (glNm (glNm glNil))))) (pa_fCons rfl (pe_fz (pe_fCall (ps := [("number" : Str), ("base" : Str), ("many" : Str)]) (xb := false) (fun _ => ⟨rfl, rfl⟩) (ok_digits I J) (hr.mono (by omega)) (by rfl) I.g_digits I.f_digits.kp (b_digits I) takes_cx (pa_gNm (i := 2) rfl (visP rfl) rfl rfl (pa_gNm (i := 3) rfl (visP rfl) rfl rfl (pa_gNm (i := 4) rfl (visP rfl) rfl rfl pa_gNil))) rfl rfl rfl rfl (glNm (glNm (glNm glNil))))) pa_fNil)) rfl rfl rfl (fnlP rfl) (blkOk_by (by rfl)) (by decide) (by decide) (fun bs bH bA bcl bfp => (pg_fTup rfl rfl (pgs_fCons (pg_fNm (i := 6) nd rfl (locP rfl) (fnlP rfl)) (pgs_fCons (pg_fNm (i := 7) nd rfl (locP rfl) (fnlP rfl)) pgs_fNil rfl) rfl) rfl rfl)) (fun bs bH bA bcl bfp => pts_fNil) (fun bs bH bA bcl bfp => (pe_fz (pe_fBin rfl (pe_fz (pe_fVar (i := 6) rfl (visP rfl) rfl rfl)) (pe_fz (pe_fVar (i := 7) rfl (visP rfl) rfl rfl))))) (fun _ => rfl) (ok_number_of I J) (hr.mono (by omega)) (by rfl) I.g_number_of I.f_number_of.kp (b_number_of I) takes_cx (pa_gNm (i := 3) rfl (visP rfl) rfl rfl pa_gNil) rfl rfl rfl))
/-! ### plus -/
theorem nd_plus : ([("q" : Str), ("one" : Str), ("other" : Str)] : List Str).Nodup := by decide +kernel
theorem sc_plus : FnScope [("q" : Str), ("one" : Str), ("other" : Str)] [("q" : Str), ("one" : Str), ("other" : Str)] (defScope s_plus) := ⟨rfl, rfl, rfl, nd_plus, rfl, by decide +kernel, by decide +kernel⟩
theorem b_plus {K : PySem.W.Frag} {mg : Str → Option Value} (I : AllI K mg) : ∀ us : List Value, us.length = 3 → bindArgs (fdOf K "plus") ⟨us, []⟩ = pure (([("q" : Str), ("one" : Str), ("other" : Str)] : List Str).zip us) :=
  bind_fD (args := fun us => ⟨us, []⟩) (r := fun us => ([("q" : Str), ("one" : Str), ("other" : Str)] : List Str).zip us) (ok := fun us => us.length = 3) I.f_plus fun _ _ _ _ _ _ us hl => match us, hl with | [_, _, _], _ => by kernel_rfl!
theorem kb_plus_other_one_q {K : PySem.W.Frag} {mg : Str → Option Value} (I : AllI K mg) : ∀ ws : List Value, (permL [2, 1, 0] ws).length = 3 → ws.length = 3 → bindArgs (fdOf K "plus") ⟨[], ([("other" : Str), ("one" : Str), ("q" : Str)] : List Str).zip ws⟩ = pure (([("q" : Str), ("one" : Str), ("other" : Str)] : List Str).zip (permL [2, 1, 0] ws)) := fun ws _ h2 =>
  bind_fD (args := fun ws => ⟨[], ([("other" : Str), ("one" : Str), ("q" : Str)] : List Str).zip ws⟩) (r := fun ws => ([("q" : Str), ("one" : Str), ("other" : Str)] : List Str).zip (permL [2, 1, 0] ws)) (ok := fun ws => ws.length = 3) I.f_plus (fun _ _ _ _ _ _ ws hl => match ws, hl with | [_, _, _], _ => by kernel_rfl!) ws h2
def plusB : SS → Out Fl := (fSeq (fDrop (fCallX false check_fieldF (gNm 0 gNil)))
  (fSeq (fDrop (fCallX false check_valueF (gNm 0 (gNm 1 gNil))))
  (fSeq (fDrop (fCallX false check_valueF (gNm 0 (gNm 2 gNil))))
  (fRet (fCallX false sum_inF (gNm 0 (gNm 1 (gNm 2 gNil))))))))
def plusF : Fun := fRun 3 plusB
theorem ok_plus {w : World} {K : PySem.W.Frag} {mg : Str → Option Value} {base : Heap} (I : AllI K mg) (J : TBI K mg base) : FnG PP w K mg base 4 (He.ga K "plus") (fdOf K "plus") [("q" : Str), ("one" : Str), ("other" : Str)] (spF (G K) 3 plusF) := by
  have e : plusF = fRun ([("q" : Str), ("one" : Str), ("other" : Str)] : List Str).length plusB := rfl
  rw [e]
  refine fn_fD (k := 3) (F := plusB) I.f_plus sc_plus (by decide) fun cdv A outer s H E hr => ?_
  have hu65 := hu65_of hr
  have hu1 := hu1_of hr
  have nd := nd_plus
  exact (pss_fSeq (ps_fDrop (pe_fCall (ps := [("q" : Str)]) (xb := false) (fun _ => ⟨rfl, rfl⟩) (ok_check_field I J) (hr.mono (by omega)) (by rfl) I.g_check_field I.f_check_field.kp (b_check_field I) takes_cx (pa_gNm (i := 0) rfl (visP rfl) rfl rfl pa_gNil) rfl rfl rfl rfl (glNm glNil)) rfl)
  (pss_fSeq (ps_fDrop (pe_fCall (ps := [("q" : Str), ("value" : Str)]) (xb := false) (fun _ => ⟨rfl, rfl⟩) (ok_check_value I J) (hr.mono (by omega)) (by rfl) I.g_check_value I.f_check_value.kp (b_check_value I) takes_cx (pa_gNm (i := 0) rfl (visP rfl) rfl rfl (pa_gNm (i := 1) rfl (visP rfl) rfl rfl pa_gNil)) rfl rfl rfl rfl (glNm (glNm glNil))) rfl)
  (pss_fSeq (ps_fDrop (pe_fCall (ps := [("q" : Str), ("value" : Str)]) (xb := false) (fun _ => ⟨rfl, rfl⟩) (ok_check_value I J) (hr.mono (by omega)) (by rfl) I.g_check_value I.f_check_value.kp (b_check_value I) takes_cx (pa_gNm (i := 0) rfl (visP rfl) rfl rfl (pa_gNm (i := 2) rfl (visP rfl) rfl rfl pa_gNil)) rfl rfl rfl rfl (glNm (glNm glNil))) rfl)
  (pss_fOne (ps_fRet (pe_fCall (ps := [("q" : Str), ("one" : Str), ("other" : Str)]) (xb := false) (fun _ => ⟨rfl, rfl⟩) (ok_sum_in I J) (hr.mono (by omega)) (by rfl) I.g_sum_in I.f_sum_in.kp (b_sum_in I) takes_cx (pa_gNm (i := 0) rfl (visP rfl) rfl rfl (pa_gNm (i := 1) rfl (visP rfl) rfl rfl (pa_gNm (i := 2) rfl (visP rfl) rfl rfl pa_gNil))) rfl rfl rfl rfl (glNm (glNm (glNm glNil)))))))))
/-! ### lowered -/
theorem nd_lowered : ([("figures" : Str), ("q" : Str), ("told" : Str)] : List Str).Nodup := by decide +kernel
theorem sc_lowered : FnScope [("figures" : Str), ("q" : Str), ("told" : Str)] [("figures" : Str), ("q" : Str)] (defScope s_lowered) := ⟨rfl, rfl, rfl, nd_lowered, rfl, by decide +kernel, by decide +kernel⟩
theorem b_lowered {K : PySem.W.Frag} {mg : Str → Option Value} (I : AllI K mg) : ∀ us : List Value, us.length = 2 → bindArgs (fdOf K "lowered") ⟨us, []⟩ = pure (([("figures" : Str), ("q" : Str)] : List Str).zip us) :=
  bind_fD (args := fun us => ⟨us, []⟩) (r := fun us => ([("figures" : Str), ("q" : Str)] : List Str).zip us) (ok := fun us => us.length = 2) I.f_lowered fun _ _ _ _ _ _ us hl => match us, hl with | [_, _], _ => by kernel_rfl!
def loweredB : SS → Out Fl := (fSeq (fSet 2 (fBlt bList (gNm 0 gNil)))
  (fSeq (fIfS (fCmp .Eq (fz (fVar 1)) (fz (fCon (.int 9))))
  (fRet (fLst (fCons (fz (fOp2 (bop .Sub) (fz (fIdxV 2 (fz (fCon (.int 0))))) (fz (fIdxV 2 (fz (fCon (.int 2))))))) (fCons (fz (fIdxV 2 (fz (fCon (.int 1))))) fNil))))
  fNext)
  (fSeq (fIfS (fCmp .Eq (fz (fVar 1)) (fz (fCon (.int 4))))
  (fRet (fLst (fCons (fz (fOp2 (bop .Add) (fz (fIdxV 2 (fz (fCon (.int 0))))) (fz (fIdxV 2 (fz (fCon (.int 2))))))) (fCons (fz (fOp2 (bop .Add) (fz (fIdxV 2 (fz (fCon (.int 1))))) (fz (fIdxV 2 (fz (fCon (.int 2))))))) fNil))))
  fNext)
  (fSeq (fAugI (fun i j => i + j) 2 (fz (fCon (.int 2))) (fz (fIdxV 2 (fz (fCon (.int 4))))))
  (fSeq (fAugI (fun i j => i + j) 2 (fz (fCon (.int 1))) (fz (fOp2 (bop .Add) (fz (fIdxV 2 (fz (fCon (.int 4))))) (fz (fIdxV 2 (fz (fCon (.int 3))))))))
  (fSeq (fAugI (fun i j => i + j) 2 (fz (fCon (.int 0))) (fz (fIdxV 2 (fz (fCon (.int 3))))))
  (fRet (fSl (fz (fVar 2)) fNoPart (fPart (fz (fCon (.int 3))))))))))))
def loweredF : Fun := fRun 3 loweredB
theorem ok_lowered {w : World} {K : PySem.W.Frag} {mg : Str → Option Value} {base : Heap} (I : AllI K mg) (J : TBI K mg base) : FnG PP w K mg base 1 (He.ga K "lowered") (fdOf K "lowered") [("figures" : Str), ("q" : Str)] (spF (G K) 2 loweredF) := by
  have e : loweredF = fRun ([("figures" : Str), ("q" : Str), ("told" : Str)] : List Str).length loweredB := rfl
  rw [e]
  refine fn_fD (k := 0) (F := loweredB) I.f_lowered sc_lowered (by decide) fun cdv A outer s H E hr => ?_
  have hu65 := hu65_of hr
  have hu1 := hu1_of hr
  have nd := nd_lowered
  exact (pss_fSeq (ps_fSet (i := 2) nd rfl (locP rfl) (pe_fBltT (by rfl) (call_rList (by rfl)) blt_list (by rfl) I.n_list boot_list' (pa_gNm (i := 0) rfl (visP rfl) rfl rfl pa_gNil) (by decide) rfl rfl rfl) rfl (fnlP rfl))
  (pss_fSeq (ps_fIf (pt_fCmp hu65 rfl rfl (pe_fz (pe_fVar (i := 1) rfl (visP rfl) rfl rfl)) (pe_fz pe_fInt))
  (pss_fOne (ps_fRet (pe_fLst (pa_fCons rfl (pe_fz (pe_fBin rfl (pe_fz (pe_fIdxV hu1 rfl (fun _ _ => rfl) (i := 2) rfl (visP rfl) rfl rfl (pe_fz pe_fInt))) (pe_fz (pe_fIdxV hu1 rfl (fun _ _ => rfl) (i := 2) rfl (visP rfl) rfl rfl (pe_fz pe_fInt))))) (pa_fCons rfl (pe_fz (pe_fIdxV hu1 rfl (fun _ _ => rfl) (i := 2) rfl (visP rfl) rfl rfl (pe_fz pe_fInt))) pa_fNil)))))
  pss_fNext)
  (pss_fSeq (ps_fIf (pt_fCmp hu65 rfl rfl (pe_fz (pe_fVar (i := 1) rfl (visP rfl) rfl rfl)) (pe_fz pe_fInt))
  (pss_fOne (ps_fRet (pe_fLst (pa_fCons rfl (pe_fz (pe_fBin rfl (pe_fz (pe_fIdxV hu1 rfl (fun _ _ => rfl) (i := 2) rfl (visP rfl) rfl rfl (pe_fz pe_fInt))) (pe_fz (pe_fIdxV hu1 rfl (fun _ _ => rfl) (i := 2) rfl (visP rfl) rfl rfl (pe_fz pe_fInt))))) (pa_fCons rfl (pe_fz (pe_fBin rfl (pe_fz (pe_fIdxV hu1 rfl (fun _ _ => rfl) (i := 2) rfl (visP rfl) rfl rfl (pe_fz pe_fInt))) (pe_fz (pe_fIdxV hu1 rfl (fun _ _ => rfl) (i := 2) rfl (visP rfl) rfl rfl (pe_fz pe_fInt))))) pa_fNil)))))
  pss_fNext)
  (pss_fSeq (ps_fAugI hu1 ip_add (i := 2) rfl (visP rfl) rfl rfl (pe_fz pe_fInt) (pe_fz (pe_fIdxV hu1 rfl (fun _ _ => rfl) (i := 2) rfl (visP rfl) rfl rfl (pe_fz pe_fInt))) (fun _ _ _ => rfl))
  (pss_fSeq (ps_fAugI hu1 ip_add (i := 2) rfl (visP rfl) rfl rfl (pe_fz pe_fInt) (pe_fz (pe_fBin rfl (pe_fz (pe_fIdxV hu1 rfl (fun _ _ => rfl) (i := 2) rfl (visP rfl) rfl rfl (pe_fz pe_fInt))) (pe_fz (pe_fIdxV hu1 rfl (fun _ _ => rfl) (i := 2) rfl (visP rfl) rfl rfl (pe_fz pe_fInt))))) (fun _ _ _ => rfl))
  (pss_fSeq (ps_fAugI hu1 ip_add (i := 2) rfl (visP rfl) rfl rfl (pe_fz pe_fInt) (pe_fz (pe_fIdxV hu1 rfl (fun _ _ => rfl) (i := 2) rfl (visP rfl) rfl rfl (pe_fz pe_fInt))) (fun _ _ _ => rfl))
  (pss_fOne (ps_fRet (pe_fSl rfl (pe_fz (pe_fVar (i := 2) rfl (visP rfl) rfl rfl)) po_fNone (po_fSome (pe_fz pe_fInt)))))))))))
/-! ### product_in -/
theorem nd_product_in : ([("q" : Str), ("one" : Str), ("other" : Str), ("base" : Str), ("many" : Str), ("first" : Str), ("second" : Str), ("whole" : Str), ("index" : Str), ("figure" : Str), ("place" : Str), ("other_figure" : Str), ("_" : Str)] : List Str).Nodup := by decide +kernel
theorem sc_product_in : FnScope [("q" : Str), ("one" : Str), ("other" : Str), ("base" : Str), ("many" : Str), ("first" : Str), ("second" : Str), ("whole" : Str), ("index" : Str), ("figure" : Str), ("place" : Str), ("other_figure" : Str), ("_" : Str)] [("q" : Str), ("one" : Str), ("other" : Str)] (defScope s_product_in) := ⟨rfl, rfl, rfl, nd_product_in, rfl, by decide +kernel, by decide +kernel⟩
theorem b_product_in {K : PySem.W.Frag} {mg : Str → Option Value} (I : AllI K mg) : ∀ us : List Value, us.length = 3 → bindArgs (fdOf K "product_in") ⟨us, []⟩ = pure (([("q" : Str), ("one" : Str), ("other" : Str)] : List Str).zip us) :=
  bind_fD (args := fun us => ⟨us, []⟩) (r := fun us => ([("q" : Str), ("one" : Str), ("other" : Str)] : List Str).zip us) (ok := fun us => us.length = 3) I.f_product_in fun _ _ _ _ _ _ us hl => match us, hl with | [_, _, _], _ => by kernel_rfl!
def product_inB : SS → Out Fl := (fSeq (fUnp (.tup [(.nm 3), (.nm 4)]) (fz (fCallX false base_ofF (gNm 0 gNil))))
  (fSeq (fIfS (fCmp .Eq (fz (fVar 4)) (fz (fCon (.int 1))))
  (fRet (fOp2 (bop .Mod) (fz (fOp2 (bop .Mult) (fz (fVar 1)) (fz (fVar 2)))) (fz (fVar 0))))
  fNext)
  (fSeq (fPar [5, 6] (hCons (fCallX false digitsF (gNm 1 (gNm 3 (gNm 4 gNil)))) (hCons (fCallX false digitsF (gNm 2 (gNm 3 (gNm 4 gNil)))) hNil)))
  (fSeq (fSet 7 (fLc (.nm 12) [12] (fIts (fCons (fz (fOp2 (bop .Sub) (fz (fOp2 (bop .Mult) (fz (fCon (.int 2))) (fz (fVar 4)))) (fz (fCon (.int 1))))) fNil) rng1) fYes (fz (fCon (.int 0)))))
  (fSeq (fForI (.tup [(.nm 8), (.nm 9)]) (fIts (fCons (fz (fVar 5)) fNil) enumOf)
  (fForI (.tup [(.nm 10), (.nm 11)]) (fIts (fCons (fz (fVar 6)) fNil) enumOf)
  (fAugI (fun i j => i + j) 7 (fz (fOp2 (bop .Add) (fz (fVar 8)) (fz (fVar 10)))) (fz (fOp2 (bop .Mult) (fz (fVar 9)) (fz (fVar 11)))))))
  (fRet (fCallX false number_ofF (gEx (fz (fCallX false loweredF (gNm 7 (gNm 0 gNil)))) (gNm 3 gNil)))))))))
def product_inF : Fun := fRun 13 product_inB
theorem ok_product_in {w : World} {K : PySem.W.Frag} {mg : Str → Option Value} {base : Heap} (I : AllI K mg) (J : TBI K mg base) : FnG PP w K mg base 2 (He.ga K "product_in") (fdOf K "product_in") [("q" : Str), ("one" : Str), ("other" : Str)] (spF (G K) 3 product_inF) := by
  have e : product_inF = fRun ([("q" : Str), ("one" : Str), ("other" : Str), ("base" : Str), ("many" : Str), ("first" : Str), ("second" : Str), ("whole" : Str), ("index" : Str), ("figure" : Str), ("place" : Str), ("other_figure" : Str), ("_" : Str)] : List Str).length product_inB := rfl
  rw [e]
  refine fn_fD (k := 1) (F := product_inB) I.f_product_in sc_product_in (by decide) fun cdv A outer s H E hr => ?_
  have hu65 := hu65_of hr
  have hu1 := hu1_of hr
  have nd := nd_product_in
  exact (pss_fSeq (ps_fUnp (pe_fz (pe_fCall (ps := [("q" : Str)]) (xb := false) (fun _ => ⟨rfl, rfl⟩) (ok_base_of I J) (hr.mono (by omega)) (by rfl) I.g_base_of I.f_base_of.kp (b_base_of I) takes_cx (pa_gNm (i := 0) rfl (visP rfl) rfl rfl pa_gNil) rfl rfl rfl rfl (glNm glNil))) (pg_fTup rfl rfl (pgs_fCons (pg_fNm (i := 3) nd rfl (locP rfl) (fnlP rfl)) (pgs_fCons (pg_fNm (i := 4) nd rfl (locP rfl) (fnlP rfl)) pgs_fNil rfl) rfl) rfl rfl) rfl rfl rfl)
  (pss_fSeq (ps_fIf (pt_fCmp hu65 rfl rfl (pe_fz (pe_fVar (i := 4) rfl (visP rfl) rfl rfl)) (pe_fz pe_fInt))
  (pss_fOne (ps_fRet (pe_fBin rfl (pe_fz (pe_fBin rfl (pe_fz (pe_fVar (i := 1) rfl (visP rfl) rfl rfl)) (pe_fz (pe_fVar (i := 2) rfl (visP rfl) rfl rfl)))) (pe_fz (pe_fVar (i := 0) rfl (visP rfl) rfl rfl)))))
  pss_fNext)
  (pss_fSeq (ps_fPar2 (i := 5) (j := 6) rfl nd rfl rfl (by decide) rfl rfl (pa_hCons rfl (pe_fCall (ps := [("number" : Str), ("base" : Str), ("many" : Str)]) (xb := false) (fun _ => ⟨rfl, rfl⟩) (ok_digits I J) (hr.mono (by omega)) (by rfl) I.g_digits I.f_digits.kp (b_digits I) takes_cx (pa_gNm (i := 1) rfl (visP rfl) rfl rfl (pa_gNm (i := 3) rfl (visP rfl) rfl rfl (pa_gNm (i := 4) rfl (visP rfl) rfl rfl pa_gNil))) rfl rfl rfl rfl (glNm (glNm (glNm glNil)))) (pa_hCons rfl (pe_fCall (ps := [("number" : Str), ("base" : Str), ("many" : Str)]) (xb := false) (fun _ => ⟨rfl, rfl⟩) (ok_digits I J) (hr.mono (by omega)) (by rfl) I.g_digits I.f_digits.kp (b_digits I) takes_cx (pa_gNm (i := 2) rfl (visP rfl) rfl rfl (pa_gNm (i := 3) rfl (visP rfl) rfl rfl (pa_gNm (i := 4) rfl (visP rfl) rfl rfl pa_gNil))) rfl rfl rfl rfl (glNm (glNm (glNm glNil)))) pa_hNil)) rfl rfl)
  (pss_fSeq (ps_fSetLc (j := 7) rfl nd rfl rfl rfl (pi_fRng1 (by rfl) I.n_range (pa_fCons rfl (pe_fz (pe_fBin rfl (pe_fz (pe_fBin rfl (pe_fz pe_fInt) (pe_fz (pe_fVar (i := 4) rfl (visP rfl) rfl rfl)))) (pe_fz pe_fInt))) pa_fNil) rfl) (blkOk_by (own := [(("_" : Str), 12)]) (by rfl)) (by decide) (by decide) (fun bs bH bA bcl bfp => (pg_fNm (i := 12) nd rfl (locP rfl) (fnlP rfl))) (fun bs bH bA bcl bfp => pts_fNil) (fun bs bH bA bcl bfp => (pe_fz pe_fInt)) (fun _ => rfl))
  (pss_fSeq (ps_fFor owns_cx rfl (pi_fEnum (by rfl) (by rfl) I.n_enumerate (pa_fCons rfl (pe_fz (pe_fVar (i := 5) rfl (visP rfl) rfl rfl)) pa_fNil) rfl) (pg_fTup rfl rfl (pgs_fCons (pg_fNm (i := 8) nd rfl (locP rfl) (fnlP rfl)) (pgs_fCons (pg_fNm (i := 9) nd rfl (locP rfl) (fnlP rfl)) pgs_fNil rfl) rfl) rfl rfl)
  (pss_fOne (ps_fFor owns_cx rfl (pi_fEnum (by rfl) (by rfl) I.n_enumerate (pa_fCons rfl (pe_fz (pe_fVar (i := 6) rfl (visP rfl) rfl rfl)) pa_fNil) rfl) (pg_fTup rfl rfl (pgs_fCons (pg_fNm (i := 10) nd rfl (locP rfl) (fnlP rfl)) (pgs_fCons (pg_fNm (i := 11) nd rfl (locP rfl) (fnlP rfl)) pgs_fNil rfl) rfl) rfl rfl)
  (pss_fOne (ps_fAugI hu1 ip_add (i := 7) rfl (visP rfl) rfl rfl (pe_fz (pe_fBin rfl (pe_fz (pe_fVar (i := 8) rfl (visP rfl) rfl rfl)) (pe_fz (pe_fVar (i := 10) rfl (visP rfl) rfl rfl)))) (pe_fz (pe_fBin rfl (pe_fz (pe_fVar (i := 9) rfl (visP rfl) rfl rfl)) (pe_fz (pe_fVar (i := 11) rfl (visP rfl) rfl rfl)))) (fun _ _ _ => rfl))) (fun _ => rfl))) (fun _ => rfl))
  (pss_fOne (ps_fRet (pe_fCall (ps := [("figures" : Str), ("base" : Str)]) (xb := false) (fun _ => ⟨rfl, rfl⟩) (ok_number_of I J) (hr.mono (by omega)) (by rfl) I.g_number_of I.f_number_of.kp (b_number_of I) takes_cx (pa_gEx rfl (pe_fz (pe_fCall (ps := [("figures" : Str), ("q" : Str)]) (xb := false) (fun _ => ⟨rfl, rfl⟩) (ok_lowered I J) (hr.mono (by omega)) (by rfl) I.g_lowered I.f_lowered.kp (b_lowered I) takes_cx (pa_gNm (i := 7) rfl (visP rfl) rfl rfl (pa_gNm (i := 0) rfl (visP rfl) rfl rfl pa_gNil)) rfl rfl rfl rfl (glNm (glNm glNil)))) (pa_gNm (i := 3) rfl (visP rfl) rfl rfl pa_gNil)) rfl rfl rfl rfl (glEx (glNm glNil))))))))))
/-! ### by -/
theorem nd_by : ([("q" : Str), ("one" : Str), ("other" : Str)] : List Str).Nodup := by decide +kernel
theorem sc_by : FnScope [("q" : Str), ("one" : Str), ("other" : Str)] [("q" : Str), ("one" : Str), ("other" : Str)] (defScope s_by) := ⟨rfl, rfl, rfl, nd_by, rfl, by decide +kernel, by decide +kernel⟩
theorem b_by {K : PySem.W.Frag} {mg : Str → Option Value} (I : AllI K mg) : ∀ us : List Value, us.length = 3 → bindArgs (fdOf K "by") ⟨us, []⟩ = pure (([("q" : Str), ("one" : Str), ("other" : Str)] : List Str).zip us) :=
  bind_fD (args := fun us => ⟨us, []⟩) (r := fun us => ([("q" : Str), ("one" : Str), ("other" : Str)] : List Str).zip us) (ok := fun us => us.length = 3) I.f_by fun _ _ _ _ _ _ us hl => match us, hl with | [_, _, _], _ => by kernel_rfl!
theorem kb_by_other_one_q {K : PySem.W.Frag} {mg : Str → Option Value} (I : AllI K mg) : ∀ ws : List Value, (permL [2, 1, 0] ws).length = 3 → ws.length = 3 → bindArgs (fdOf K "by") ⟨[], ([("other" : Str), ("one" : Str), ("q" : Str)] : List Str).zip ws⟩ = pure (([("q" : Str), ("one" : Str), ("other" : Str)] : List Str).zip (permL [2, 1, 0] ws)) := fun ws _ h2 =>
  bind_fD (args := fun ws => ⟨[], ([("other" : Str), ("one" : Str), ("q" : Str)] : List Str).zip ws⟩) (r := fun ws => ([("q" : Str), ("one" : Str), ("other" : Str)] : List Str).zip (permL [2, 1, 0] ws)) (ok := fun ws => ws.length = 3) I.f_by (fun _ _ _ _ _ _ ws hl => match ws, hl with | [_, _, _], _ => by kernel_rfl!) ws h2
def byB : SS → Out Fl := (fSeq (fDrop (fCallX false check_fieldF (gNm 0 gNil)))
  (fSeq (fDrop (fCallX false check_valueF (gNm 0 (gNm 1 gNil))))
  (fSeq (fDrop (fCallX false check_valueF (gNm 0 (gNm 2 gNil))))
  (fRet (fCallX false product_inF (gNm 0 (gNm 1 (gNm 2 gNil))))))))
def byF : Fun := fRun 3 byB
theorem ok_by {w : World} {K : PySem.W.Frag} {mg : Str → Option Value} {base : Heap} (I : AllI K mg) (J : TBI K mg base) : FnG PP w K mg base 4 (He.ga K "by") (fdOf K "by") [("q" : Str), ("one" : Str), ("other" : Str)] (spF (G K) 3 byF) := by
  have e : byF = fRun ([("q" : Str), ("one" : Str), ("other" : Str)] : List Str).length byB := rfl
  rw [e]
  refine fn_fD (k := 3) (F := byB) I.f_by sc_by (by decide) fun cdv A outer s H E hr => ?_
  have hu65 := hu65_of hr
  have hu1 := hu1_of hr
  have nd := nd_by
  exact (pss_fSeq (ps_fDrop (pe_fCall (ps := [("q" : Str)]) (xb := false) (fun _ => ⟨rfl, rfl⟩) (ok_check_field I J) (hr.mono (by omega)) (by rfl) I.g_check_field I.f_check_field.kp (b_check_field I) takes_cx (pa_gNm (i := 0) rfl (visP rfl) rfl rfl pa_gNil) rfl rfl rfl rfl (glNm glNil)) rfl)
  (pss_fSeq (ps_fDrop (pe_fCall (ps := [("q" : Str), ("value" : Str)]) (xb := false) (fun _ => ⟨rfl, rfl⟩) (ok_check_value I J) (hr.mono (by omega)) (by rfl) I.g_check_value I.f_check_value.kp (b_check_value I) takes_cx (pa_gNm (i := 0) rfl (visP rfl) rfl rfl (pa_gNm (i := 1) rfl (visP rfl) rfl rfl pa_gNil)) rfl rfl rfl rfl (glNm (glNm glNil))) rfl)
  (pss_fSeq (ps_fDrop (pe_fCall (ps := [("q" : Str), ("value" : Str)]) (xb := false) (fun _ => ⟨rfl, rfl⟩) (ok_check_value I J) (hr.mono (by omega)) (by rfl) I.g_check_value I.f_check_value.kp (b_check_value I) takes_cx (pa_gNm (i := 0) rfl (visP rfl) rfl rfl (pa_gNm (i := 2) rfl (visP rfl) rfl rfl pa_gNil)) rfl rfl rfl rfl (glNm (glNm glNil))) rfl)
  (pss_fOne (ps_fRet (pe_fCall (ps := [("q" : Str), ("one" : Str), ("other" : Str)]) (xb := false) (fun _ => ⟨rfl, rfl⟩) (ok_product_in I J) (hr.mono (by omega)) (by rfl) I.g_product_in I.f_product_in.kp (b_product_in I) takes_cx (pa_gNm (i := 0) rfl (visP rfl) rfl rfl (pa_gNm (i := 1) rfl (visP rfl) rfl rfl (pa_gNm (i := 2) rfl (visP rfl) rfl rfl pa_gNil))) rfl rfl rfl rfl (glNm (glNm (glNm glNil)))))))))
/-! ### minus -/
theorem nd_minus : ([("q" : Str), ("one" : Str), ("other" : Str)] : List Str).Nodup := by decide +kernel
theorem sc_minus : FnScope [("q" : Str), ("one" : Str), ("other" : Str)] [("q" : Str), ("one" : Str)] (defScope s_minus) := ⟨rfl, rfl, rfl, nd_minus, rfl, by decide +kernel, by decide +kernel⟩
theorem b_minus {K : PySem.W.Frag} {mg : Str → Option Value} (I : AllI K mg) : ∀ us : List Value, us.length = 2 → bindArgs (fdOf K "minus") ⟨us, []⟩ = pure (([("q" : Str), ("one" : Str)] : List Str).zip us) :=
  bind_fD (args := fun us => ⟨us, []⟩) (r := fun us => ([("q" : Str), ("one" : Str)] : List Str).zip us) (ok := fun us => us.length = 2) I.f_minus fun _ _ _ _ _ _ us hl => match us, hl with | [_, _], _ => by kernel_rfl!
theorem kb_minus_one_q {K : PySem.W.Frag} {mg : Str → Option Value} (I : AllI K mg) : ∀ ws : List Value, (permL [1, 0] ws).length = 2 → ws.length = 2 → bindArgs (fdOf K "minus") ⟨[], ([("one" : Str), ("q" : Str)] : List Str).zip ws⟩ = pure (([("q" : Str), ("one" : Str)] : List Str).zip (permL [1, 0] ws)) := fun ws _ h2 =>
  bind_fD (args := fun ws => ⟨[], ([("one" : Str), ("q" : Str)] : List Str).zip ws⟩) (r := fun ws => ([("q" : Str), ("one" : Str)] : List Str).zip (permL [1, 0] ws)) (ok := fun ws => ws.length = 2) I.f_minus (fun _ _ _ _ _ _ ws hl => match ws, hl with | [_, _], _ => by kernel_rfl!) ws h2
def minusB : SS → Out Fl := (fSeq (fDrop (fCallX false check_fieldF (gNm 0 gNil)))
  (fSeq (fDrop (fCallX false check_valueF (gNm 0 (gNm 1 gNil))))
  (fRet (fIdx (fz (fLc (.nm 2) [2] (fIts (fCons (fz (fVar 0)) fNil) rng1) (fCmp .Eq (fz (fCallX false sum_inF (gNm 0 (gNm 1 (gNm 2 gNil))))) (fz (fCon (.int 0)))) (fz (fVar 2)))) (fz (fCon (.int 0)))))))
def minusF : Fun := fRun 3 minusB
theorem ok_minus {w : World} {K : PySem.W.Frag} {mg : Str → Option Value} {base : Heap} (I : AllI K mg) (J : TBI K mg base) : FnG PP w K mg base 4 (He.ga K "minus") (fdOf K "minus") [("q" : Str), ("one" : Str)] (spF (G K) 2 minusF) := by
  have e : minusF = fRun ([("q" : Str), ("one" : Str), ("other" : Str)] : List Str).length minusB := rfl
  rw [e]
  refine fn_fD (k := 3) (F := minusB) I.f_minus sc_minus (by decide) fun cdv A outer s H E hr => ?_
  have hu65 := hu65_of hr
  have hu1 := hu1_of hr
  have nd := nd_minus
  exact (pss_fSeq (ps_fDrop (pe_fCall (ps := [("q" : Str)]) (xb := false) (fun _ => ⟨rfl, rfl⟩) (ok_check_field I J) (hr.mono (by omega)) (by rfl) I.g_check_field I.f_check_field.kp (b_check_field I) takes_cx (pa_gNm (i := 0) rfl (visP rfl) rfl rfl pa_gNil) rfl rfl rfl rfl (glNm glNil)) rfl)
  (pss_fSeq (ps_fDrop (pe_fCall (ps := [("q" : Str), ("value" : Str)]) (xb := false) (fun _ => ⟨rfl, rfl⟩) (ok_check_value I J) (hr.mono (by omega)) (by rfl) I.g_check_value I.f_check_value.kp (b_check_value I) takes_cx (pa_gNm (i := 0) rfl (visP rfl) rfl rfl (pa_gNm (i := 1) rfl (visP rfl) rfl rfl pa_gNil)) rfl rfl rfl rfl (glNm (glNm glNil))) rfl)
  (pss_fOne (ps_fRet (pe_fIdx hu1 rfl (fun _ _ => rfl) (pe_fz (pe_fLc rfl nd (pi_fRng1 (by rfl) I.n_range (pa_fCons rfl (pe_fz (pe_fVar (i := 0) rfl (visP rfl) rfl rfl)) pa_fNil) rfl) (blkOk_by (own := [(("other" : Str), 2)]) (by rfl)) (by decide) (by decide) (fun bs bH bA bcl bfp => (pg_fNm (i := 2) nd rfl (locP rfl) (fnlP rfl))) (fun bs bH bA bcl bfp => (pts_fOne (pt_fCmp hu65 rfl rfl (pe_fz (pe_fCall (ps := [("q" : Str), ("one" : Str), ("other" : Str)]) (xb := false) (fun _ => ⟨rfl, rfl⟩) (ok_sum_in I J) (hr.mono (by omega)) (by rfl) I.g_sum_in I.f_sum_in.kp (b_sum_in I) takes0 (pa_gNm (i := 0) rfl (visP rfl) rfl rfl (pa_gNm (i := 1) rfl (visP rfl) rfl rfl (pa_gNm (i := 2) rfl (visP rfl) rfl rfl pa_gNil))) rfl rfl rfl rfl (glNm (glNm (glNm glNil))))) (pe_fz pe_fInt)))) (fun bs bH bA bcl bfp => (pe_fz (pe_fVar (i := 2) rfl (visP rfl) rfl rfl))) (fun _ => rfl))) (pe_fz pe_fInt))))))
/-! ### over -/
theorem nd_over : ([("q" : Str), ("one" : Str), ("other" : Str)] : List Str).Nodup := by decide +kernel
theorem sc_over : FnScope [("q" : Str), ("one" : Str), ("other" : Str)] [("q" : Str), ("one" : Str)] (defScope s_over) := ⟨rfl, rfl, rfl, nd_over, rfl, by decide +kernel, by decide +kernel⟩
theorem b_over {K : PySem.W.Frag} {mg : Str → Option Value} (I : AllI K mg) : ∀ us : List Value, us.length = 2 → bindArgs (fdOf K "over") ⟨us, []⟩ = pure (([("q" : Str), ("one" : Str)] : List Str).zip us) :=
  bind_fD (args := fun us => ⟨us, []⟩) (r := fun us => ([("q" : Str), ("one" : Str)] : List Str).zip us) (ok := fun us => us.length = 2) I.f_over fun _ _ _ _ _ _ us hl => match us, hl with | [_, _], _ => by kernel_rfl!
theorem kb_over_one_q {K : PySem.W.Frag} {mg : Str → Option Value} (I : AllI K mg) : ∀ ws : List Value, (permL [1, 0] ws).length = 2 → ws.length = 2 → bindArgs (fdOf K "over") ⟨[], ([("one" : Str), ("q" : Str)] : List Str).zip ws⟩ = pure (([("q" : Str), ("one" : Str)] : List Str).zip (permL [1, 0] ws)) := fun ws _ h2 =>
  bind_fD (args := fun ws => ⟨[], ([("one" : Str), ("q" : Str)] : List Str).zip ws⟩) (r := fun ws => ([("q" : Str), ("one" : Str)] : List Str).zip (permL [1, 0] ws)) (ok := fun ws => ws.length = 2) I.f_over (fun _ _ _ _ _ _ ws hl => match ws, hl with | [_, _], _ => by kernel_rfl!) ws h2
def overB : SS → Out Fl := (fSeq (fDrop (fCallX false check_fieldF (gNm 0 gNil)))
  (fSeq (fDrop (fCallX false check_valueF (gNm 0 (gNm 1 gNil))))
  (fSeq (fIfS (fCmp .Eq (fz (fVar 1)) (fz (fCon (.int 0))))
  (fRaise 1 1 (fCons (fz (fVar 1)) fNil))
  fNext)
  (fRet (fIdx (fz (fLc (.nm 2) [2] (fIts (fCons (fz (fVar 0)) fNil) rng1) (fCmp .Eq (fz (fCallX false product_inF (gNm 0 (gNm 1 (gNm 2 gNil))))) (fz (fCon (.int 1)))) (fz (fVar 2)))) (fz (fCon (.int 0))))))))
def overF : Fun := fRun 3 overB
theorem ok_over {w : World} {K : PySem.W.Frag} {mg : Str → Option Value} {base : Heap} (I : AllI K mg) (J : TBI K mg base) : FnG PP w K mg base 4 (He.ga K "over") (fdOf K "over") [("q" : Str), ("one" : Str)] (spF (G K) 2 overF) := by
  have e : overF = fRun ([("q" : Str), ("one" : Str), ("other" : Str)] : List Str).length overB := rfl
  rw [e]
  refine fn_fD (k := 3) (F := overB) I.f_over sc_over (by decide) fun cdv A outer s H E hr => ?_
  have hu65 := hu65_of hr
  have hu1 := hu1_of hr
  have nd := nd_over
  exact (pss_fSeq (ps_fDrop (pe_fCall (ps := [("q" : Str)]) (xb := false) (fun _ => ⟨rfl, rfl⟩) (ok_check_field I J) (hr.mono (by omega)) (by rfl) I.g_check_field I.f_check_field.kp (b_check_field I) takes_cx (pa_gNm (i := 0) rfl (visP rfl) rfl rfl pa_gNil) rfl rfl rfl rfl (glNm glNil)) rfl)
  (pss_fSeq (ps_fDrop (pe_fCall (ps := [("q" : Str), ("value" : Str)]) (xb := false) (fun _ => ⟨rfl, rfl⟩) (ok_check_value I J) (hr.mono (by omega)) (by rfl) I.g_check_value I.f_check_value.kp (b_check_value I) takes_cx (pa_gNm (i := 0) rfl (visP rfl) rfl rfl (pa_gNm (i := 1) rfl (visP rfl) rfl rfl pa_gNil)) rfl rfl rfl rfl (glNm (glNm glNil))) rfl)
  (pss_fSeq (ps_fIf (pt_fCmp hu65 rfl rfl (pe_fz (pe_fVar (i := 1) rfl (visP rfl) rfl rfl)) (pe_fz pe_fInt))
  (pss_fOne (ps_fRaise (k := 0) rfl rfl takes_cx I.x_BadValue rfl (hr.mono (by omega)) (by rfl) I.g_BadValue (pa_fCons rfl (pe_fz (pe_fVar (i := 1) rfl (visP rfl) rfl rfl)) pa_fNil) rfl rfl rfl))
  pss_fNext)
  (pss_fOne (ps_fRet (pe_fIdx hu1 rfl (fun _ _ => rfl) (pe_fz (pe_fLc rfl nd (pi_fRng1 (by rfl) I.n_range (pa_fCons rfl (pe_fz (pe_fVar (i := 0) rfl (visP rfl) rfl rfl)) pa_fNil) rfl) (blkOk_by (own := [(("other" : Str), 2)]) (by rfl)) (by decide) (by decide) (fun bs bH bA bcl bfp => (pg_fNm (i := 2) nd rfl (locP rfl) (fnlP rfl))) (fun bs bH bA bcl bfp => (pts_fOne (pt_fCmp hu65 rfl rfl (pe_fz (pe_fCall (ps := [("q" : Str), ("one" : Str), ("other" : Str)]) (xb := false) (fun _ => ⟨rfl, rfl⟩) (ok_product_in I J) (hr.mono (by omega)) (by rfl) I.g_product_in I.f_product_in.kp (b_product_in I) takes0 (pa_gNm (i := 0) rfl (visP rfl) rfl rfl (pa_gNm (i := 1) rfl (visP rfl) rfl rfl (pa_gNm (i := 2) rfl (visP rfl) rfl rfl pa_gNil))) rfl rfl rfl rfl (glNm (glNm (glNm glNil))))) (pe_fz pe_fInt)))) (fun bs bH bA bcl bfp => (pe_fz (pe_fVar (i := 2) rfl (visP rfl) rfl rfl))) (fun _ => rfl))) (pe_fz pe_fInt)))))))
/-! ### _law_very -/
theorem nd_law_very : ([("kept" : Str), ("thing" : Str), ("found" : Str)] : List Str).Nodup := by decide +kernel
theorem sc_law_very : FnScope [("kept" : Str), ("thing" : Str), ("found" : Str)] [("kept" : Str), ("thing" : Str)] (defScope s_law_very) := ⟨rfl, rfl, rfl, nd_law_very, rfl, by decide +kernel, by decide +kernel⟩
theorem b_law_very {K : PySem.W.Frag} {mg : Str → Option Value} (I : AllI K mg) : ∀ us : List Value, us.length = 2 → bindArgs (fdOf K "_law_very") ⟨us, []⟩ = pure (([("kept" : Str), ("thing" : Str)] : List Str).zip us) :=
  bind_fD (args := fun us => ⟨us, []⟩) (r := fun us => ([("kept" : Str), ("thing" : Str)] : List Str).zip us) (ok := fun us => us.length = 2) I.f_law_very fun _ _ _ _ _ _ us hl => match us, hl with | [_, _], _ => by kernel_rfl!
def law_veryB : SS → Out Fl := (fSeq (fIfS (fTru (fz (fIsi ["list"] (oNm 1))))
  fVeryL
  fNext)
  (fSeq (fIfS (fTru (fz (fIsi ["dict"] (oNm 1))))
  fNo
  fNext)
  (fSeq (fIfS (fOr (fTru (fz (fIsi ["tuple", "str", "bool", "int"] (oNm 1)))) (fCmp .Is (fz (fVar 1)) (fz (fCon .non))))
  (fRet (fCallX false (law_sameF 6) (gNm 0 (gNm 1 gNil))))
  fNext)
  (fRet (toV (fCmp .Eq (fz (fVar 0)) (fz (fVar 1))))))))
def law_veryF : Fun := fRun 3 law_veryB
theorem ok_law_very {w : World} {K : PySem.W.Frag} {mg : Str → Option Value} {base : Heap} (I : AllI K mg) (J : TBI K mg base) : FnG PP w K mg base 8 (He.ga K "_law_very") (fdOf K "_law_very") [("kept" : Str), ("thing" : Str)] (spF (G K) 2 law_veryF) := by
  have e : law_veryF = fRun ([("kept" : Str), ("thing" : Str), ("found" : Str)] : List Str).length law_veryB := rfl
  rw [e]
  refine fn_fD (k := 7) (F := law_veryB) I.f_law_very sc_law_very (by decide) fun cdv A outer s H E hr => ?_
  have hu65 := hu65_of hr
  have hu1 := hu1_of hr
  have nd := nd_law_very
  exact (pss_fSeq (ps_fIf (pt_fTru rfl (pe_fz (pe_fIsi1 (by rfl) (by rfl) I.n_isinstance (p1_nm (i := 1) rfl (visP rfl) rfl rfl) (.cons (by rfl) I.n_list PyProof.Rows.boot_list (by decide) rfl .nil) (by decide) rfl)) (fun _ => rfl))
  (pss_mono (pss_veryL (C := ⟨G K, [], ce0, fun cls d _ H => E cls d H⟩) ⟨rfl, nd, rfl, rfl, rfl, rfl, rfl, rfl, rfl, I.n_isinstance, rfl, I.n_len, fun _ => .cons rfl I.n_list PyProof.Rows.boot_list (by decide) rfl .nil⟩ rfl rfl rfl rfl rfl rfl rfl) (fun _ _ _ => veryL_run))
  pss_fNext)
  (pss_fSeq (ps_fIf (pt_fTru rfl (pe_fz (pe_fIsi1 (by rfl) (by rfl) I.n_isinstance (p1_nm (i := 1) rfl (visP rfl) rfl rfl) (.cons (by rfl) I.n_dict PyProof.Rows.boot_dict (by decide) rfl .nil) (by decide) rfl)) (fun _ => rfl))
  pss_fNo
  pss_fNext)
  (pss_fSeq (ps_fIf (pt_of_pw (pw_fOr (pt_fTru rfl (pe_fz (pe_fIsiT (by rfl) (by rfl) I.n_isinstance (p1_nm (i := 1) rfl (visP rfl) rfl rfl) (.cons (by rfl) I.n_tuple PyProof.Rows.boot_tuple (by decide) rfl (.cons (by rfl) I.n_str PyProof.Rows.boot_str (by decide) rfl (.cons (by rfl) I.n_bool PyProof.Rows.boot_bool (by decide) rfl (.cons (by rfl) I.n_int PyProof.Rows.boot_int (by decide) rfl .nil)))) (by decide) (by decide) rfl)) (fun _ => rfl)) (pw_fOr1 (pt_fCmp hu65 rfl rfl (pe_fz (pe_fVar (i := 1) rfl (visP rfl) rfl rfl)) (pe_fz pe_fNon)))))
  (pss_fOne (ps_fRet (pe_fCall (ps := [("found" : Str), ("due" : Str)]) (xb := false) (fun _ => ⟨rfl, rfl⟩) (ok_law_same I J 6) (hr.mono (by omega)) (by rfl) I.g_law_same I.f_law_same.kp (b_law_same I) takes_cx (pa_gNm (i := 0) rfl (visP rfl) rfl rfl (pa_gNm (i := 1) rfl (visP rfl) rfl rfl pa_gNil)) rfl rfl rfl rfl (glNm (glNm glNil)))))
  pss_fNext)
  (pss_fOne (ps_fRet (pe_fCmp hu65 rfl rfl (pe_fz (pe_fVar (i := 0) rfl (visP rfl) rfl rfl)) (pe_fz (pe_fVar (i := 1) rfl (visP rfl) rfl rfl))))))))
/-! ### _law_f_base -/
theorem nd_law_f_base : ([("q" : Str)] : List Str).Nodup := by decide +kernel
theorem sc_law_f_base : FnScope [("q" : Str)] [("q" : Str)] (defScope s_law_f_base) := ⟨rfl, rfl, rfl, nd_law_f_base, rfl, by decide +kernel, by decide +kernel⟩
theorem b_law_f_base {K : PySem.W.Frag} {mg : Str → Option Value} (I : AllI K mg) : ∀ us : List Value, us.length = 1 → bindArgs (fdOf K "_law_f_base") ⟨us, []⟩ = pure (([("q" : Str)] : List Str).zip us) :=
  bind_fD (args := fun us => ⟨us, []⟩) (r := fun us => ([("q" : Str)] : List Str).zip us) (ok := fun us => us.length = 1) I.f_law_f_base fun _ _ _ _ _ _ us hl => match us, hl with | [_], _ => by kernel_rfl!
def law_f_baseB : SS → Out Fl := (fSeq (fIfS (fCmp .Eq (fz (fVar 0)) (fz (fCon (.int 4))))
  (fRet (fTup (fCons (fz (fCon (.int 2))) (fCons (fz (fLst (fCons (fz (fCon (.int 1))) (fCons (fz (fCon (.int 1))) fNil)))) fNil))))
  fNext)
  (fSeq (fIfS (fCmp .Eq (fz (fVar 0)) (fz (fCon (.int 8))))
  (fRet (fTup (fCons (fz (fCon (.int 2))) (fCons (fz (fLst (fCons (fz (fCon (.int 1))) (fCons (fz (fCon (.int 1))) (fCons (fz (fCon (.int 0))) fNil))))) fNil))))
  fNext)
  (fRet (fIf (fCmp .Eq (fz (fVar 0)) (fz (fCon (.int 9)))) (fTup (fCons (fz (fCon (.int 3))) (fCons (fz (fLst (fCons (fz (fCon (.int 2))) (fCons (fz (fCon (.int 0))) fNil)))) fNil))) (fTup (fCons (fz (fVar 0)) (fCons (fz (fLst fNil)) fNil)))))))
def law_f_baseF : Fun := fRun 1 law_f_baseB
theorem ok_law_f_base {w : World} {K : PySem.W.Frag} {mg : Str → Option Value} {base : Heap} (I : AllI K mg) (J : TBI K mg base) : FnG PP w K mg base 1 (He.ga K "_law_f_base") (fdOf K "_law_f_base") [("q" : Str)] (spF (G K) 1 law_f_baseF) := by
  have e : law_f_baseF = fRun ([("q" : Str)] : List Str).length law_f_baseB := rfl
  rw [e]
  refine fn_fD (k := 0) (F := law_f_baseB) I.f_law_f_base sc_law_f_base (by decide) fun cdv A outer s H E hr => ?_
  have hu65 := hu65_of hr
  have hu1 := hu1_of hr
  have nd := nd_law_f_base
  exact (pss_fSeq (ps_fIf (pt_fCmp hu65 rfl rfl (pe_fz (pe_fVar (i := 0) rfl (visP rfl) rfl rfl)) (pe_fz pe_fInt))
  (pss_fOne (ps_fRet (pe_fTup (pa_fCons rfl (pe_fz pe_fInt) (pa_fCons rfl (pe_fz (pe_fLst (pa_fCons rfl (pe_fz pe_fInt) (pa_fCons rfl (pe_fz pe_fInt) pa_fNil)))) pa_fNil)))))
  pss_fNext)
  (pss_fSeq (ps_fIf (pt_fCmp hu65 rfl rfl (pe_fz (pe_fVar (i := 0) rfl (visP rfl) rfl rfl)) (pe_fz pe_fInt))
  (pss_fOne (ps_fRet (pe_fTup (pa_fCons rfl (pe_fz pe_fInt) (pa_fCons rfl (pe_fz (pe_fLst (pa_fCons rfl (pe_fz pe_fInt) (pa_fCons rfl (pe_fz pe_fInt) (pa_fCons rfl (pe_fz pe_fInt) pa_fNil))))) pa_fNil)))))
  pss_fNext)
  (pss_fOne (ps_fRet (pe_fIf (pt_fCmp hu65 rfl rfl (pe_fz (pe_fVar (i := 0) rfl (visP rfl) rfl rfl)) (pe_fz pe_fInt)) (pe_fTup (pa_fCons rfl (pe_fz pe_fInt) (pa_fCons rfl (pe_fz (pe_fLst (pa_fCons rfl (pe_fz pe_fInt) (pa_fCons rfl (pe_fz pe_fInt) pa_fNil)))) pa_fNil))) (pe_fTup (pa_fCons rfl (pe_fz (pe_fVar (i := 0) rfl (visP rfl) rfl rfl)) (pa_fCons rfl (pe_fz (pe_fLst pa_fNil)) pa_fNil))))))))
/-! ### _law_f_number -/
theorem nd_law_f_number : ([("digits_v" : Str), ("base" : Str), ("found" : Str), ("digit" : Str)] : List Str).Nodup := by decide +kernel
theorem sc_law_f_number : FnScope [("digits_v" : Str), ("base" : Str), ("found" : Str), ("digit" : Str)] [("digits_v" : Str), ("base" : Str)] (defScope s_law_f_number) := ⟨rfl, rfl, rfl, nd_law_f_number, rfl, by decide +kernel, by decide +kernel⟩
theorem b_law_f_number {K : PySem.W.Frag} {mg : Str → Option Value} (I : AllI K mg) : ∀ us : List Value, us.length = 2 → bindArgs (fdOf K "_law_f_number") ⟨us, []⟩ = pure (([("digits_v" : Str), ("base" : Str)] : List Str).zip us) :=
  bind_fD (args := fun us => ⟨us, []⟩) (r := fun us => ([("digits_v" : Str), ("base" : Str)] : List Str).zip us) (ok := fun us => us.length = 2) I.f_law_f_number fun _ _ _ _ _ _ us hl => match us, hl with | [_, _], _ => by kernel_rfl!
def law_f_numberB : SS → Out Fl := (fSeq (fSet 2 (fCon (.int 0)))
  (fSeq (fForI (.nm 3) (fItR (fz (fVar 0)))
  (fSet 2 (fOp2 (bop .Add) (fz (fOp2 (bop .Mult) (fz (fVar 2)) (fz (fVar 1)))) (fz (fOp2 (bop .Mod) (fz (fVar 3)) (fz (fVar 1)))))))
  (fRet (fMove 2))))
def law_f_numberF : Fun := fRun 4 law_f_numberB
theorem ok_law_f_number {w : World} {K : PySem.W.Frag} {mg : Str → Option Value} {base : Heap} (I : AllI K mg) (J : TBI K mg base) : FnG PP w K mg base 1 (He.ga K "_law_f_number") (fdOf K "_law_f_number") [("digits_v" : Str), ("base" : Str)] (spF (G K) 2 law_f_numberF) := by
  have e : law_f_numberF = fRun ([("digits_v" : Str), ("base" : Str), ("found" : Str), ("digit" : Str)] : List Str).length law_f_numberB := rfl
  rw [e]
  refine fn_fD (k := 0) (F := law_f_numberB) I.f_law_f_number sc_law_f_number (by decide) fun cdv A outer s H E hr => ?_
  have hu65 := hu65_of hr
  have hu1 := hu1_of hr
  have nd := nd_law_f_number
  exact (pss_fSeq (ps_fSet (i := 2) nd rfl (locP rfl) pe_fInt rfl (fnlP rfl))
  (pss_fSeq (ps_fFor owns_cx rfl (pi_fRev (by rfl) (by rfl) I.n_reversed (pe_fz (pe_fVar (i := 0) rfl (visP rfl) rfl rfl)) rfl) (pg_fNm (i := 3) nd rfl (locP rfl) (fnlP rfl))
  (pss_fOne (ps_fSet (i := 2) nd rfl (locP rfl) (pe_fBin rfl (pe_fz (pe_fBin rfl (pe_fz (pe_fVar (i := 2) rfl (visP rfl) rfl rfl)) (pe_fz (pe_fVar (i := 1) rfl (visP rfl) rfl rfl)))) (pe_fz (pe_fBin rfl (pe_fz (pe_fVar (i := 3) rfl (visP rfl) rfl rfl)) (pe_fz (pe_fVar (i := 1) rfl (visP rfl) rfl rfl))))) rfl (fnlP rfl))) (fun _ => rfl))
  (pss_fOne (ps_fRet (pe_fMove (i := 2) rfl (visP rfl) rfl rfl)))))
/-! ### _law_f_digits -/
theorem nd_law_f_digits : ([("number" : Str), ("base" : Str), ("many" : Str), ("found" : Str), ("k" : Str)] : List Str).Nodup := by decide +kernel
theorem sc_law_f_digits : FnScope [("number" : Str), ("base" : Str), ("many" : Str), ("found" : Str), ("k" : Str)] [("number" : Str), ("base" : Str), ("many" : Str)] (defScope s_law_f_digits) := ⟨rfl, rfl, rfl, nd_law_f_digits, rfl, by decide +kernel, by decide +kernel⟩
theorem b_law_f_digits {K : PySem.W.Frag} {mg : Str → Option Value} (I : AllI K mg) : ∀ us : List Value, us.length = 3 → bindArgs (fdOf K "_law_f_digits") ⟨us, []⟩ = pure (([("number" : Str), ("base" : Str), ("many" : Str)] : List Str).zip us) :=
  bind_fD (args := fun us => ⟨us, []⟩) (r := fun us => ([("number" : Str), ("base" : Str), ("many" : Str)] : List Str).zip us) (ok := fun us => us.length = 3) I.f_law_f_digits fun _ _ _ _ _ _ us hl => match us, hl with | [_, _, _], _ => by kernel_rfl!
def law_f_digitsB : SS → Out Fl := (fSeq (fSet 3 (fLst fNil))
  (fSeq (fForI (.nm 4) (fIts (fCons (fz (fVar 2)) fNil) rng1)
  (fSeq (fDrop (fMth 3 mAppend (fCons (fz (fOp2 (bop .Mod) (fz (fVar 0)) (fz (fVar 1)))) fNil)))
  (fSet 0 (fOp2 (bop .FloorDiv) (fz (fVar 0)) (fz (fVar 1))))))
  (fRet (fMove 3))))
def law_f_digitsF : Fun := fRun 5 law_f_digitsB
theorem ok_law_f_digits {w : World} {K : PySem.W.Frag} {mg : Str → Option Value} {base : Heap} (I : AllI K mg) (J : TBI K mg base) : FnG PP w K mg base 1 (He.ga K "_law_f_digits") (fdOf K "_law_f_digits") [("number" : Str), ("base" : Str), ("many" : Str)] (spF (G K) 3 law_f_digitsF) := by
  have e : law_f_digitsF = fRun ([("number" : Str), ("base" : Str), ("many" : Str), ("found" : Str), ("k" : Str)] : List Str).length law_f_digitsB := rfl
  rw [e]
  refine fn_fD (k := 0) (F := law_f_digitsB) I.f_law_f_digits sc_law_f_digits (by decide) fun cdv A outer s H E hr => ?_
  have hu65 := hu65_of hr
  have hu1 := hu1_of hr
  have nd := nd_law_f_digits
  exact (pss_fSeq (ps_fSet (i := 3) nd rfl (locP rfl) (pe_fLst pa_fNil) rfl (fnlP rfl))
  (pss_fSeq (ps_fFor owns_cx rfl (pi_fRng1 (by rfl) I.n_range (pa_fCons rfl (pe_fz (pe_fVar (i := 2) rfl (visP rfl) rfl rfl)) pa_fNil) rfl) (pg_fNm (i := 4) nd rfl (locP rfl) (fnlP rfl))
  (pss_fSeq (ps_fDrop (pe_fMth rfl PySem.F.slot_list_append PySem.F.type_list_append mt_append mth_append (i := 3) rfl (visP rfl) rfl rfl (pa_fCons rfl (pe_fz (pe_fBin rfl (pe_fz (pe_fVar (i := 0) rfl (visP rfl) rfl rfl)) (pe_fz (pe_fVar (i := 1) rfl (visP rfl) rfl rfl)))) pa_fNil) rfl rfl rfl rfl rfl) rfl)
  (pss_fOne (ps_fSet (i := 0) nd rfl (locP rfl) (pe_fBin rfl (pe_fz (pe_fVar (i := 0) rfl (visP rfl) rfl rfl)) (pe_fz (pe_fVar (i := 1) rfl (visP rfl) rfl rfl))) rfl (fnlP rfl)))) (fun _ => rfl))
  (pss_fOne (ps_fRet (pe_fMove (i := 3) rfl (visP rfl) rfl rfl)))))
/-! ### _law_f_plus -/
theorem nd_law_f_plus : ([("q" : Str), ("one" : Str), ("other" : Str), ("base" : Str), ("low" : Str), ("many" : Str), ("first" : Str), ("second" : Str)] : List Str).Nodup := by decide +kernel
theorem sc_law_f_plus : FnScope [("q" : Str), ("one" : Str), ("other" : Str), ("base" : Str), ("low" : Str), ("many" : Str), ("first" : Str), ("second" : Str)] [("q" : Str), ("one" : Str), ("other" : Str)] (defScope s_law_f_plus) := ⟨rfl, rfl, rfl, nd_law_f_plus, rfl, by decide +kernel, by decide +kernel⟩
theorem b_law_f_plus {K : PySem.W.Frag} {mg : Str → Option Value} (I : AllI K mg) : ∀ us : List Value, us.length = 3 → bindArgs (fdOf K "_law_f_plus") ⟨us, []⟩ = pure (([("q" : Str), ("one" : Str), ("other" : Str)] : List Str).zip us) :=
  bind_fD (args := fun us => ⟨us, []⟩) (r := fun us => ([("q" : Str), ("one" : Str), ("other" : Str)] : List Str).zip us) (ok := fun us => us.length = 3) I.f_law_f_plus fun _ _ _ _ _ _ us hl => match us, hl with | [_, _, _], _ => by kernel_rfl!
def law_f_plusB : SS → Out Fl := (fSeq (fUnp (.tup [(.nm 3), (.nm 4)]) (fz (fCallX false law_f_baseF (gNm 0 gNil))))
  (fSeq (fSet 5 (fBlt (bTwo maxI) (gEx (fz (fCon (.int 1))) (gEx (fz (fBlt bLen (gNm 4 gNil))) gNil))))
  (fRet (fCallX false law_f_numberF (gEx (fz (fLc (.tup [(.nm 6), (.nm 7)]) [6, 7] (fIts (fCons (fz (fCallX false law_f_digitsF (gNm 1 (gNm 3 (gNm 5 gNil))))) (fCons (fz (fCallX false law_f_digitsF (gNm 2 (gNm 3 (gNm 5 gNil))))) fNil)) zipOf) fYes (fz (fOp2 (bop .Add) (fz (fVar 6)) (fz (fVar 7)))))) (gNm 3 gNil))))))
def law_f_plusF : Fun := fRun 8 law_f_plusB
theorem ok_law_f_plus {w : World} {K : PySem.W.Frag} {mg : Str → Option Value} {base : Heap} (I : AllI K mg) (J : TBI K mg base) : FnG PP w K mg base 2 (He.ga K "_law_f_plus") (fdOf K "_law_f_plus") [("q" : Str), ("one" : Str), ("other" : Str)] (spF (G K) 3 law_f_plusF) := by
  have e : law_f_plusF = fRun ([("q" : Str), ("one" : Str), ("other" : Str), ("base" : Str), ("low" : Str), ("many" : Str), ("first" : Str), ("second" : Str)] : List Str).length law_f_plusB := rfl
  rw [e]
  refine fn_fD (k := 1) (F := law_f_plusB) I.f_law_f_plus sc_law_f_plus (by decide) fun cdv A outer s H E hr => ?_
  have hu65 := hu65_of hr
  have hu1 := hu1_of hr
  have nd := nd_law_f_plus
  exact (pss_fSeq (ps_fUnp (pe_fz (pe_fCall (ps := [("q" : Str)]) (xb := false) (fun _ => ⟨rfl, rfl⟩) (ok_law_f_base I J) (hr.mono (by omega)) (by rfl) I.g_law_f_base I.f_law_f_base.kp (b_law_f_base I) takes_cx (pa_gNm (i := 0) rfl (visP rfl) rfl rfl pa_gNil) rfl rfl rfl rfl (glNm glNil))) (pg_fTup rfl rfl (pgs_fCons (pg_fNm (i := 3) nd rfl (locP rfl) (fnlP rfl)) (pgs_fCons (pg_fNm (i := 4) nd rfl (locP rfl) (fnlP rfl)) pgs_fNil rfl) rfl) rfl rfl) rfl rfl rfl)
  (pss_fSeq (ps_fSet (i := 5) nd rfl (locP rfl) (pe_fBlt (by rfl) (call_max2 (by rfl)) blt_two (by rfl) I.n_max boot_max' (pa_gEx rfl (pe_fz pe_fInt) (pa_gEx rfl (pe_fz (pe_fBlt (by rfl) call_rLen blt_len (by rfl) I.n_len boot_len' (pa_gNm (i := 4) rfl (visP rfl) rfl rfl pa_gNil) (by decide) rfl rfl rfl)) pa_gNil)) (by decide) rfl rfl rfl) rfl (fnlP rfl))
  (pss_fOne (ps_fRet (pe_fCall (ps := [("digits_v" : Str), ("base" : Str)]) (xb := false) (fun _ => ⟨rfl, rfl⟩) (ok_law_f_number I J) (hr.mono (by omega)) (by rfl) I.g_law_f_number I.f_law_f_number.kp (b_law_f_number I) takes_cx (pa_gEx rfl (pe_fz (pe_fLc rfl nd (pi_fZip (by rfl) (by rfl) I.n_zip (pa_fCons rfl (pe_fz (pe_fCall (ps := [("number" : Str), ("base" : Str), ("many" : Str)]) (xb := false) (fun _ => ⟨rfl, rfl⟩) (ok_law_f_digits I J) (hr.mono (by omega)) (by rfl) I.g_law_f_digits I.f_law_f_digits.kp (b_law_f_digits I) takes_cx (pa_gNm (i := 1) rfl (visP rfl) rfl rfl (pa_gNm (i := 3) rfl (visP rfl) rfl rfl (pa_gNm (i := 5) rfl (visP rfl) rfl rfl pa_gNil))) rfl rfl rfl rfl (glNm (glNm (glNm glNil))))) (pa_fCons rfl (pe_fz (pe_fCall (ps := [("number" : Str), ("base" : Str), ("many" : Str)]) (xb := false) (fun _ => ⟨rfl, rfl⟩) (ok_law_f_digits I J) (hr.mono (by omega)) (by rfl) I.g_law_f_digits I.f_law_f_digits.kp (b_law_f_digits I) takes_cx (pa_gNm (i := 2) rfl (visP rfl) rfl rfl (pa_gNm (i := 3) rfl (visP rfl) rfl rfl (pa_gNm (i := 5) rfl (visP rfl) rfl rfl pa_gNil))) rfl rfl rfl rfl (glNm (glNm (glNm glNil))))) pa_fNil)) rfl rfl) (blkOk_by (own := [(("first" : Str), 6), (("second" : Str), 7)]) (by rfl)) (by decide) (by decide) (fun bs bH bA bcl bfp => (pg_fTup rfl rfl (pgs_fCons (pg_fNm (i := 6) nd rfl (locP rfl) (fnlP rfl)) (pgs_fCons (pg_fNm (i := 7) nd rfl (locP rfl) (fnlP rfl)) pgs_fNil rfl) rfl) rfl rfl)) (fun bs bH bA bcl bfp => pts_fNil) (fun bs bH bA bcl bfp => (pe_fz (pe_fBin rfl (pe_fz (pe_fVar (i := 6) rfl (visP rfl) rfl rfl)) (pe_fz (pe_fVar (i := 7) rfl (visP rfl) rfl rfl))))) (fun _ => rfl))) (pa_gNm (i := 3) rfl (visP rfl) rfl rfl pa_gNil)) rfl rfl rfl rfl (glEx (glNm glNil)))))))
/-! ### _law_f_by -/
theorem nd_law_f_by : ([("q" : Str), ("one" : Str), ("other" : Str), ("base" : Str), ("low" : Str), ("many" : Str), ("found" : Str), ("row" : Str), ("digit" : Str), ("top" : Str), ("first" : Str), ("second" : Str)] : List Str).Nodup := by decide +kernel
theorem sc_law_f_by : FnScope [("q" : Str), ("one" : Str), ("other" : Str), ("base" : Str), ("low" : Str), ("many" : Str), ("found" : Str), ("row" : Str), ("digit" : Str), ("top" : Str), ("first" : Str), ("second" : Str)] [("q" : Str), ("one" : Str), ("other" : Str)] (defScope s_law_f_by) := ⟨rfl, rfl, rfl, nd_law_f_by, rfl, by decide +kernel, by decide +kernel⟩
theorem b_law_f_by {K : PySem.W.Frag} {mg : Str → Option Value} (I : AllI K mg) : ∀ us : List Value, us.length = 3 → bindArgs (fdOf K "_law_f_by") ⟨us, []⟩ = pure (([("q" : Str), ("one" : Str), ("other" : Str)] : List Str).zip us) :=
  bind_fD (args := fun us => ⟨us, []⟩) (r := fun us => ([("q" : Str), ("one" : Str), ("other" : Str)] : List Str).zip us) (ok := fun us => us.length = 3) I.f_law_f_by fun _ _ _ _ _ _ us hl => match us, hl with | [_, _, _], _ => by kernel_rfl!
def law_f_byB : SS → Out Fl := (fSeq (fUnp (.tup [(.nm 3), (.nm 4)]) (fz (fCallX false law_f_baseF (gNm 0 gNil))))
  (fSeq (fSet 5 (fBlt (bTwo maxI) (gEx (fz (fCon (.int 1))) (gEx (fz (fBlt bLen (gNm 4 gNil))) gNil))))
  (fSeq (fPar [6, 7] (hCons (fOp2 (bop .Mult) (fz (fLst (fCons (fz (fCon (.int 0))) fNil))) (fz (fVar 5))) (hCons (fCallX false law_f_digitsF (gNm 1 (gNm 3 (gNm 5 gNil)))) hNil)))
  (fSeq (fForI (.nm 8) (fIter (fz (fCallX false law_f_digitsF (gNm 2 (gNm 3 (gNm 5 gNil))))))
  (fSeq (fSet 6 (fLc (.tup [(.nm 10), (.nm 11)]) [10, 11] (fIts (fCons (fz (fVar 6)) (fCons (fz (fVar 7)) fNil)) zipOf) fYes (fz (fOp2 (bop .Add) (fz (fVar 10)) (fz (fOp2 (bop .Mult) (fz (fVar 8)) (fz (fVar 11))))))))
  (fSeq (fSet 9 (fIdxV 7 (fz (fNeg (fz (fCon (.int 1)))))))
  (fSeq (fSet 7 (fOp2 (bop .Add) (fz (fLst (fCons (fz (fCon (.int 0))) fNil))) (fz (fSl (fz (fVar 7)) fNoPart (fPart (fz (fNeg (fz (fCon (.int 1))))))))))
  (fSet 7 (fIf (fTruV 4) (fLc (.tup [(.nm 10), (.nm 11)]) [10, 11] (fIts (fCons (fz (fVar 7)) (fCons (fz (fVar 4)) fNil)) zipOf) fYes (fz (fOp2 (bop .Add) (fz (fVar 10)) (fz (fOp2 (bop .Mult) (fz (fVar 9)) (fz (fVar 11))))))) (fVar 7)))))))
  (fRet (fCallX false law_f_numberF (gNm 6 (gNm 3 gNil))))))))
def law_f_byF : Fun := fRun 12 law_f_byB
theorem ok_law_f_by {w : World} {K : PySem.W.Frag} {mg : Str → Option Value} {base : Heap} (I : AllI K mg) (J : TBI K mg base) : FnG PP w K mg base 2 (He.ga K "_law_f_by") (fdOf K "_law_f_by") [("q" : Str), ("one" : Str), ("other" : Str)] (spF (G K) 3 law_f_byF) := by
  have e : law_f_byF = fRun ([("q" : Str), ("one" : Str), ("other" : Str), ("base" : Str), ("low" : Str), ("many" : Str), ("found" : Str), ("row" : Str), ("digit" : Str), ("top" : Str), ("first" : Str), ("second" : Str)] : List Str).length law_f_byB := rfl
  rw [e]
  refine fn_fD (k := 1) (F := law_f_byB) I.f_law_f_by sc_law_f_by (by decide) fun cdv A outer s H E hr => ?_
  have hu65 := hu65_of hr
  have hu1 := hu1_of hr
  have nd := nd_law_f_by
  exact (pss_fSeq (ps_fUnp (pe_fz (pe_fCall (ps := [("q" : Str)]) (xb := false) (fun _ => ⟨rfl, rfl⟩) (ok_law_f_base I J) (hr.mono (by omega)) (by rfl) I.g_law_f_base I.f_law_f_base.kp (b_law_f_base I) takes_cx (pa_gNm (i := 0) rfl (visP rfl) rfl rfl pa_gNil) rfl rfl rfl rfl (glNm glNil))) (pg_fTup rfl rfl (pgs_fCons (pg_fNm (i := 3) nd rfl (locP rfl) (fnlP rfl)) (pgs_fCons (pg_fNm (i := 4) nd rfl (locP rfl) (fnlP rfl)) pgs_fNil rfl) rfl) rfl rfl) rfl rfl rfl)
  (pss_fSeq (ps_fSet (i := 5) nd rfl (locP rfl) (pe_fBlt (by rfl) (call_max2 (by rfl)) blt_two (by rfl) I.n_max boot_max' (pa_gEx rfl (pe_fz pe_fInt) (pa_gEx rfl (pe_fz (pe_fBlt (by rfl) call_rLen blt_len (by rfl) I.n_len boot_len' (pa_gNm (i := 4) rfl (visP rfl) rfl rfl pa_gNil) (by decide) rfl rfl rfl)) pa_gNil)) (by decide) rfl rfl rfl) rfl (fnlP rfl))
  (pss_fSeq (ps_fPar2 (i := 6) (j := 7) rfl nd rfl rfl (by decide) rfl rfl (pa_hCons rfl (pe_fBin rfl (pe_fz (pe_fLst (pa_fCons rfl (pe_fz pe_fInt) pa_fNil))) (pe_fz (pe_fVar (i := 5) rfl (visP rfl) rfl rfl))) (pa_hCons rfl (pe_fCall (ps := [("number" : Str), ("base" : Str), ("many" : Str)]) (xb := false) (fun _ => ⟨rfl, rfl⟩) (ok_law_f_digits I J) (hr.mono (by omega)) (by rfl) I.g_law_f_digits I.f_law_f_digits.kp (b_law_f_digits I) takes_cx (pa_gNm (i := 1) rfl (visP rfl) rfl rfl (pa_gNm (i := 3) rfl (visP rfl) rfl rfl (pa_gNm (i := 5) rfl (visP rfl) rfl rfl pa_gNil))) rfl rfl rfl rfl (glNm (glNm (glNm glNil)))) pa_hNil)) rfl rfl)
  (pss_fSeq (ps_fFor owns_cx rfl (pi_fIter rfl (pe_fz (pe_fCall (ps := [("number" : Str), ("base" : Str), ("many" : Str)]) (xb := false) (fun _ => ⟨rfl, rfl⟩) (ok_law_f_digits I J) (hr.mono (by omega)) (by rfl) I.g_law_f_digits I.f_law_f_digits.kp (b_law_f_digits I) takes_cx (pa_gNm (i := 2) rfl (visP rfl) rfl rfl (pa_gNm (i := 3) rfl (visP rfl) rfl rfl (pa_gNm (i := 5) rfl (visP rfl) rfl rfl pa_gNil))) rfl rfl rfl rfl (glNm (glNm (glNm glNil)))))) (pg_fNm (i := 8) nd rfl (locP rfl) (fnlP rfl))
  (pss_fSeq (ps_fSetLc (j := 6) rfl nd rfl rfl rfl (pi_fZip (by rfl) (by rfl) I.n_zip (pa_fCons rfl (pe_fz (pe_fVar (i := 6) rfl (visP rfl) rfl rfl)) (pa_fCons rfl (pe_fz (pe_fVar (i := 7) rfl (visP rfl) rfl rfl)) pa_fNil)) rfl rfl) (blkOk_by (own := [(("first" : Str), 10), (("second" : Str), 11)]) (by rfl)) (by decide) (by decide) (fun bs bH bA bcl bfp => (pg_fTup rfl rfl (pgs_fCons (pg_fNm (i := 10) nd rfl (locP rfl) (fnlP rfl)) (pgs_fCons (pg_fNm (i := 11) nd rfl (locP rfl) (fnlP rfl)) pgs_fNil rfl) rfl) rfl rfl)) (fun bs bH bA bcl bfp => pts_fNil) (fun bs bH bA bcl bfp => (pe_fz (pe_fBin rfl (pe_fz (pe_fVar (i := 10) rfl (visP rfl) rfl rfl)) (pe_fz (pe_fBin rfl (pe_fz (pe_fVar (i := 8) rfl (visP rfl) rfl rfl)) (pe_fz (pe_fVar (i := 11) rfl (visP rfl) rfl rfl))))))) (fun _ => rfl))
  (pss_fSeq (ps_fSet (i := 9) nd rfl (locP rfl) (pe_fIdxV hu1 rfl (fun _ _ => rfl) (i := 7) rfl (visP rfl) rfl rfl (pe_fz (pe_fNeg (pe_fz pe_fInt)))) rfl (fnlP rfl))
  (pss_fSeq (ps_fSet (i := 7) nd rfl (locP rfl) (pe_fBin rfl (pe_fz (pe_fLst (pa_fCons rfl (pe_fz pe_fInt) pa_fNil))) (pe_fz (pe_fSl rfl (pe_fz (pe_fVar (i := 7) rfl (visP rfl) rfl rfl)) po_fNone (po_fSome (pe_fz (pe_fNeg (pe_fz pe_fInt))))))) rfl (fnlP rfl))
  (pss_fOne (ps_fSet (i := 7) nd rfl (locP rfl) (pe_fIf (pt_fTruV rfl (i := 4) rfl (visP rfl) rfl rfl) (pe_fLc rfl nd (pi_fZip (by rfl) (by rfl) I.n_zip (pa_fCons rfl (pe_fz (pe_fVar (i := 7) rfl (visP rfl) rfl rfl)) (pa_fCons rfl (pe_fz (pe_fVar (i := 4) rfl (visP rfl) rfl rfl)) pa_fNil)) rfl rfl) (blkOk_by (own := [(("first" : Str), 10), (("second" : Str), 11)]) (by rfl)) (by decide) (by decide) (fun bs bH bA bcl bfp => (pg_fTup rfl rfl (pgs_fCons (pg_fNm (i := 10) nd rfl (locP rfl) (fnlP rfl)) (pgs_fCons (pg_fNm (i := 11) nd rfl (locP rfl) (fnlP rfl)) pgs_fNil rfl) rfl) rfl rfl)) (fun bs bH bA bcl bfp => pts_fNil) (fun bs bH bA bcl bfp => (pe_fz (pe_fBin rfl (pe_fz (pe_fVar (i := 10) rfl (visP rfl) rfl rfl)) (pe_fz (pe_fBin rfl (pe_fz (pe_fVar (i := 9) rfl (visP rfl) rfl rfl)) (pe_fz (pe_fVar (i := 11) rfl (visP rfl) rfl rfl))))))) (fun _ => rfl)) (pe_fVar (i := 7) rfl (visP rfl) rfl rfl)) rfl (fnlP rfl)))))) (fun _ => rfl))
  (pss_fOne (ps_fRet (pe_fCall (ps := [("digits_v" : Str), ("base" : Str)]) (xb := false) (fun _ => ⟨rfl, rfl⟩) (ok_law_f_number I J) (hr.mono (by omega)) (by rfl) I.g_law_f_number I.f_law_f_number.kp (b_law_f_number I) takes_cx (pa_gNm (i := 6) rfl (visP rfl) rfl rfl (pa_gNm (i := 3) rfl (visP rfl) rfl rfl pa_gNil)) rfl rfl rfl rfl (glNm (glNm glNil)))))))))
/-! ### lambda 0 of _law_f_refused -/
theorem nd_lam0 : ([("one" : Str), ("q" : Str), ("thing" : Str)] : List Str).Nodup := by decide +kernel
def lam0B : SS → Out Res := (fCallX true plusF (gNm 1 (gNm 2 (gEx (fz (fCon .non)) gNil))))
def lam0F : Fun := fRunE 3 lam0B
theorem lamok0 {w : World} {K : PySem.W.Frag} {mg : Str → Option Value} {base : Heap} (I : AllI K mg) (J : TBI K mg base) : LamG PP w K mg base 5 lam_0 0 (spFc (G K) (0 + (dvs lam_0).length + lam_0.fr.length) lam0F) := by
  have e : lam0F = fRunE ([("one" : Str), ("q" : Str), ("thing" : Str)] : List Str).length lam0B := rfl
  rw [e]
  refine lam_fOf (k := 4) (N := [("one" : Str), ("q" : Str), ("thing" : Str)]) (ps := [("one" : Str)]) (F := lam0B) (NdefX.nscope_by rfl) ⟨rfl, rfl, fun _ _ _ _ _ _ => ⟨_, rfl, fun _ => rfl⟩⟩ fun A outer s H E ce cl f c hr hce => ?_
  have hu65 := hu65_of hr
  have hu1 := hu1_of hr
  have nd := nd_lam0
  exact (pe_fCall (ps := [("q" : Str), ("one" : Str), ("other" : Str)]) (xb := true) (fun h => by cases h) (ok_plus I J) (hr.mono (by omega)) (by rfl) I.g_plus I.f_plus.kp (b_plus I) takes_ncx (pa_gNm (i := 1) rfl (visP rfl) rfl rfl (pa_gNm (i := 2) rfl (visP rfl) rfl rfl (pa_gEx rfl (pe_fz pe_fNon) pa_gNil))) rfl rfl rfl rfl (glNm (glNm (glEx glNil))))
/-! ### lambda 1 of _law_f_refused -/
theorem nd_lam1 : ([("two" : Str), ("q" : Str), ("thing" : Str)] : List Str).Nodup := by decide +kernel
def lam1B : SS → Out Res := (fCallX true plusF (gNm 1 (gEx (fz (fCon (.int 0))) (gNm 2 gNil))))
def lam1F : Fun := fRunE 3 lam1B
theorem lamok1 {w : World} {K : PySem.W.Frag} {mg : Str → Option Value} {base : Heap} (I : AllI K mg) (J : TBI K mg base) : LamG PP w K mg base 5 lam_1 0 (spFc (G K) (0 + (dvs lam_1).length + lam_1.fr.length) lam1F) := by
  have e : lam1F = fRunE ([("two" : Str), ("q" : Str), ("thing" : Str)] : List Str).length lam1B := rfl
  rw [e]
  refine lam_fOf (k := 4) (N := [("two" : Str), ("q" : Str), ("thing" : Str)]) (ps := [("two" : Str)]) (F := lam1B) (NdefX.nscope_by rfl) ⟨rfl, rfl, fun _ _ _ _ _ _ => ⟨_, rfl, fun _ => rfl⟩⟩ fun A outer s H E ce cl f c hr hce => ?_
  have hu65 := hu65_of hr
  have hu1 := hu1_of hr
  have nd := nd_lam1
  exact (pe_fCall (ps := [("q" : Str), ("one" : Str), ("other" : Str)]) (xb := true) (fun h => by cases h) (ok_plus I J) (hr.mono (by omega)) (by rfl) I.g_plus I.f_plus.kp (b_plus I) takes_ncx (pa_gNm (i := 1) rfl (visP rfl) rfl rfl (pa_gEx rfl (pe_fz pe_fInt) (pa_gNm (i := 2) rfl (visP rfl) rfl rfl pa_gNil))) rfl rfl rfl rfl (glNm (glEx (glNm glNil))))
/-! ### lambda 2 of _law_f_refused -/
theorem nd_lam2 : ([("three" : Str), ("q" : Str), ("thing" : Str)] : List Str).Nodup := by decide +kernel
def lam2B : SS → Out Res := (fCallX true byF (gNm 1 (gNm 2 (gEx (fz (fCon .non)) gNil))))
def lam2F : Fun := fRunE 3 lam2B
theorem lamok2 {w : World} {K : PySem.W.Frag} {mg : Str → Option Value} {base : Heap} (I : AllI K mg) (J : TBI K mg base) : LamG PP w K mg base 5 lam_2 0 (spFc (G K) (0 + (dvs lam_2).length + lam_2.fr.length) lam2F) := by
  have e : lam2F = fRunE ([("three" : Str), ("q" : Str), ("thing" : Str)] : List Str).length lam2B := rfl
  rw [e]
  refine lam_fOf (k := 4) (N := [("three" : Str), ("q" : Str), ("thing" : Str)]) (ps := [("three" : Str)]) (F := lam2B) (NdefX.nscope_by rfl) ⟨rfl, rfl, fun _ _ _ _ _ _ => ⟨_, rfl, fun _ => rfl⟩⟩ fun A outer s H E ce cl f c hr hce => ?_
  have hu65 := hu65_of hr
  have hu1 := hu1_of hr
  have nd := nd_lam2
  exact (pe_fCall (ps := [("q" : Str), ("one" : Str), ("other" : Str)]) (xb := true) (fun h => by cases h) (ok_by I J) (hr.mono (by omega)) (by rfl) I.g_by I.f_by.kp (b_by I) takes_ncx (pa_gNm (i := 1) rfl (visP rfl) rfl rfl (pa_gNm (i := 2) rfl (visP rfl) rfl rfl (pa_gEx rfl (pe_fz pe_fNon) pa_gNil))) rfl rfl rfl rfl (glNm (glNm (glEx glNil))))
/-! ### lambda 3 of _law_f_refused -/
theorem nd_lam3 : ([("four" : Str), ("q" : Str), ("thing" : Str)] : List Str).Nodup := by decide +kernel
def lam3B : SS → Out Res := (fCallX true byF (gNm 1 (gEx (fz (fCon (.int 0))) (gNm 2 gNil))))
def lam3F : Fun := fRunE 3 lam3B
theorem lamok3 {w : World} {K : PySem.W.Frag} {mg : Str → Option Value} {base : Heap} (I : AllI K mg) (J : TBI K mg base) : LamG PP w K mg base 5 lam_3 0 (spFc (G K) (0 + (dvs lam_3).length + lam_3.fr.length) lam3F) := by
  have e : lam3F = fRunE ([("four" : Str), ("q" : Str), ("thing" : Str)] : List Str).length lam3B := rfl
  rw [e]
  refine lam_fOf (k := 4) (N := [("four" : Str), ("q" : Str), ("thing" : Str)]) (ps := [("four" : Str)]) (F := lam3B) (NdefX.nscope_by rfl) ⟨rfl, rfl, fun _ _ _ _ _ _ => ⟨_, rfl, fun _ => rfl⟩⟩ fun A outer s H E ce cl f c hr hce => ?_
  have hu65 := hu65_of hr
  have hu1 := hu1_of hr
  have nd := nd_lam3
  exact (pe_fCall (ps := [("q" : Str), ("one" : Str), ("other" : Str)]) (xb := true) (fun h => by cases h) (ok_by I J) (hr.mono (by omega)) (by rfl) I.g_by I.f_by.kp (b_by I) takes_ncx (pa_gNm (i := 1) rfl (visP rfl) rfl rfl (pa_gEx rfl (pe_fz pe_fInt) (pa_gNm (i := 2) rfl (visP rfl) rfl rfl pa_gNil))) rfl rfl rfl rfl (glNm (glEx (glNm glNil))))
/-! ### lambda 4 of _law_f_refused -/
theorem nd_lam4 : ([("five" : Str), ("q" : Str), ("thing" : Str)] : List Str).Nodup := by decide +kernel
def lam4B : SS → Out Res := (fCallX true minusF (gNm 1 (gNm 2 gNil)))
def lam4F : Fun := fRunE 3 lam4B
theorem lamok4 {w : World} {K : PySem.W.Frag} {mg : Str → Option Value} {base : Heap} (I : AllI K mg) (J : TBI K mg base) : LamG PP w K mg base 5 lam_4 0 (spFc (G K) (0 + (dvs lam_4).length + lam_4.fr.length) lam4F) := by
  have e : lam4F = fRunE ([("five" : Str), ("q" : Str), ("thing" : Str)] : List Str).length lam4B := rfl
  rw [e]
  refine lam_fOf (k := 4) (N := [("five" : Str), ("q" : Str), ("thing" : Str)]) (ps := [("five" : Str)]) (F := lam4B) (NdefX.nscope_by rfl) ⟨rfl, rfl, fun _ _ _ _ _ _ => ⟨_, rfl, fun _ => rfl⟩⟩ fun A outer s H E ce cl f c hr hce => ?_
  have hu65 := hu65_of hr
  have hu1 := hu1_of hr
  have nd := nd_lam4
  exact (pe_fCall (ps := [("q" : Str), ("one" : Str)]) (xb := true) (fun h => by cases h) (ok_minus I J) (hr.mono (by omega)) (by rfl) I.g_minus I.f_minus.kp (b_minus I) takes_ncx (pa_gNm (i := 1) rfl (visP rfl) rfl rfl (pa_gNm (i := 2) rfl (visP rfl) rfl rfl pa_gNil)) rfl rfl rfl rfl (glNm (glNm glNil)))
/-! ### lambda 5 of _law_f_refused -/
theorem nd_lam5 : ([("six" : Str), ("q" : Str), ("thing" : Str)] : List Str).Nodup := by decide +kernel
def lam5B : SS → Out Res := (fCallX true overF (gNm 1 (gNm 2 gNil)))
def lam5F : Fun := fRunE 3 lam5B
theorem lamok5 {w : World} {K : PySem.W.Frag} {mg : Str → Option Value} {base : Heap} (I : AllI K mg) (J : TBI K mg base) : LamG PP w K mg base 5 lam_5 0 (spFc (G K) (0 + (dvs lam_5).length + lam_5.fr.length) lam5F) := by
  have e : lam5F = fRunE ([("six" : Str), ("q" : Str), ("thing" : Str)] : List Str).length lam5B := rfl
  rw [e]
  refine lam_fOf (k := 4) (N := [("six" : Str), ("q" : Str), ("thing" : Str)]) (ps := [("six" : Str)]) (F := lam5B) (NdefX.nscope_by rfl) ⟨rfl, rfl, fun _ _ _ _ _ _ => ⟨_, rfl, fun _ => rfl⟩⟩ fun A outer s H E ce cl f c hr hce => ?_
  have hu65 := hu65_of hr
  have hu1 := hu1_of hr
  have nd := nd_lam5
  exact (pe_fCall (ps := [("q" : Str), ("one" : Str)]) (xb := true) (fun h => by cases h) (ok_over I J) (hr.mono (by omega)) (by rfl) I.g_over I.f_over.kp (b_over I) takes_ncx (pa_gNm (i := 1) rfl (visP rfl) rfl rfl (pa_gNm (i := 2) rfl (visP rfl) rfl rfl pa_gNil)) rfl rfl rfl rfl (glNm (glNm glNil)))
/-! ### lambda 6 of _law_f_refused -/
theorem nd_lam6 : ([("q" : Str)] : List Str).Nodup := by decide +kernel
def lam6B : SS → Out Res := (fCallX true overF (gNm 0 (gEx (fz (fCon (.int 0))) gNil)))
def lam6F : Fun := fRunE 1 lam6B
theorem lamok6 {w : World} {K : PySem.W.Frag} {mg : Str → Option Value} {base : Heap} (I : AllI K mg) (J : TBI K mg base) : LamG PP w K mg base 5 lam_6 0 (spFc (G K) (0 + (dvs lam_6).length + lam_6.fr.length) lam6F) := by
  have e : lam6F = fRunE ([("q" : Str)] : List Str).length lam6B := rfl
  rw [e]
  refine lam_fOf (k := 4) (N := [("q" : Str)]) (ps := []) (F := lam6B) (NdefX.nscope_by rfl) ⟨rfl, fun _ _ _ _ _ us hl => match us, hl with | [], _ => by kernel_rfl!⟩ fun A outer s H E ce cl f c hr hce => ?_
  have hu65 := hu65_of hr
  have hu1 := hu1_of hr
  have nd := nd_lam6
  exact (pe_fCall (ps := [("q" : Str), ("one" : Str)]) (xb := true) (fun h => by cases h) (ok_over I J) (hr.mono (by omega)) (by rfl) I.g_over I.f_over.kp (b_over I) takes_ncx (pa_gNm (i := 0) rfl (visP rfl) rfl rfl (pa_gEx rfl (pe_fz pe_fInt) pa_gNil)) rfl rfl rfl rfl (glNm (glEx glNil)))
/-! ### lambda 7 of law -/
theorem nd_lam7 : ([("one" : Str), ("thing" : Str)] : List Str).Nodup := by decide +kernel
def lam7B : SS → Out Res := (fCallX true plusF (gNm 1 (gEx (fz (fCon .non)) (gEx (fz (fCon .non)) gNil))))
def lam7F : Fun := fRunE 2 lam7B
theorem lamok7 {w : World} {K : PySem.W.Frag} {mg : Str → Option Value} {base : Heap} (I : AllI K mg) (J : TBI K mg base) : LamG PP w K mg base 5 lam_7 0 (spFc (G K) (0 + (dvs lam_7).length + lam_7.fr.length) lam7F) := by
  have e : lam7F = fRunE ([("one" : Str), ("thing" : Str)] : List Str).length lam7B := rfl
  rw [e]
  refine lam_fOf (k := 4) (N := [("one" : Str), ("thing" : Str)]) (ps := [("one" : Str)]) (F := lam7B) (NdefX.nscope_by rfl) ⟨rfl, rfl, fun _ _ _ _ _ _ => ⟨_, rfl, fun _ => rfl⟩⟩ fun A outer s H E ce cl f c hr hce => ?_
  have hu65 := hu65_of hr
  have hu1 := hu1_of hr
  have nd := nd_lam7
  exact (pe_fCall (ps := [("q" : Str), ("one" : Str), ("other" : Str)]) (xb := true) (fun h => by cases h) (ok_plus I J) (hr.mono (by omega)) (by rfl) I.g_plus I.f_plus.kp (b_plus I) takes_ncx (pa_gNm (i := 1) rfl (visP rfl) rfl rfl (pa_gEx rfl (pe_fz pe_fNon) (pa_gEx rfl (pe_fz pe_fNon) pa_gNil))) rfl rfl rfl rfl (glNm (glEx (glEx glNil))))
/-! ### lambda 8 of law -/
theorem nd_lam8 : ([("two" : Str), ("thing" : Str)] : List Str).Nodup := by decide +kernel
def lam8B : SS → Out Res := (fCallX true byF (gNm 1 (gEx (fz (fCon .non)) (gEx (fz (fCon .non)) gNil))))
def lam8F : Fun := fRunE 2 lam8B
theorem lamok8 {w : World} {K : PySem.W.Frag} {mg : Str → Option Value} {base : Heap} (I : AllI K mg) (J : TBI K mg base) : LamG PP w K mg base 5 lam_8 0 (spFc (G K) (0 + (dvs lam_8).length + lam_8.fr.length) lam8F) := by
  have e : lam8F = fRunE ([("two" : Str), ("thing" : Str)] : List Str).length lam8B := rfl
  rw [e]
  refine lam_fOf (k := 4) (N := [("two" : Str), ("thing" : Str)]) (ps := [("two" : Str)]) (F := lam8B) (NdefX.nscope_by rfl) ⟨rfl, rfl, fun _ _ _ _ _ _ => ⟨_, rfl, fun _ => rfl⟩⟩ fun A outer s H E ce cl f c hr hce => ?_
  have hu65 := hu65_of hr
  have hu1 := hu1_of hr
  have nd := nd_lam8
  exact (pe_fCall (ps := [("q" : Str), ("one" : Str), ("other" : Str)]) (xb := true) (fun h => by cases h) (ok_by I J) (hr.mono (by omega)) (by rfl) I.g_by I.f_by.kp (b_by I) takes_ncx (pa_gNm (i := 1) rfl (visP rfl) rfl rfl (pa_gEx rfl (pe_fz pe_fNon) (pa_gEx rfl (pe_fz pe_fNon) pa_gNil))) rfl rfl rfl rfl (glNm (glEx (glEx glNil))))
/-! ### lambda 9 of law -/
theorem nd_lam9 : ([("three" : Str), ("thing" : Str)] : List Str).Nodup := by decide +kernel
def lam9B : SS → Out Res := (fCallX true minusF (gNm 1 (gEx (fz (fCon .non)) gNil)))
def lam9F : Fun := fRunE 2 lam9B
theorem lamok9 {w : World} {K : PySem.W.Frag} {mg : Str → Option Value} {base : Heap} (I : AllI K mg) (J : TBI K mg base) : LamG PP w K mg base 5 lam_9 0 (spFc (G K) (0 + (dvs lam_9).length + lam_9.fr.length) lam9F) := by
  have e : lam9F = fRunE ([("three" : Str), ("thing" : Str)] : List Str).length lam9B := rfl
  rw [e]
  refine lam_fOf (k := 4) (N := [("three" : Str), ("thing" : Str)]) (ps := [("three" : Str)]) (F := lam9B) (NdefX.nscope_by rfl) ⟨rfl, rfl, fun _ _ _ _ _ _ => ⟨_, rfl, fun _ => rfl⟩⟩ fun A outer s H E ce cl f c hr hce => ?_
  have hu65 := hu65_of hr
  have hu1 := hu1_of hr
  have nd := nd_lam9
  exact (pe_fCall (ps := [("q" : Str), ("one" : Str)]) (xb := true) (fun h => by cases h) (ok_minus I J) (hr.mono (by omega)) (by rfl) I.g_minus I.f_minus.kp (b_minus I) takes_ncx (pa_gNm (i := 1) rfl (visP rfl) rfl rfl (pa_gEx rfl (pe_fz pe_fNon) pa_gNil)) rfl rfl rfl rfl (glNm (glEx glNil)))
/-! ### lambda 10 of law -/
theorem nd_lam10 : ([("four" : Str), ("thing" : Str)] : List Str).Nodup := by decide +kernel
def lam10B : SS → Out Res := (fCallX true overF (gNm 1 (gEx (fz (fCon .non)) gNil)))
def lam10F : Fun := fRunE 2 lam10B
theorem lamok10 {w : World} {K : PySem.W.Frag} {mg : Str → Option Value} {base : Heap} (I : AllI K mg) (J : TBI K mg base) : LamG PP w K mg base 5 lam_10 0 (spFc (G K) (0 + (dvs lam_10).length + lam_10.fr.length) lam10F) := by
  have e : lam10F = fRunE ([("four" : Str), ("thing" : Str)] : List Str).length lam10B := rfl
  rw [e]
  refine lam_fOf (k := 4) (N := [("four" : Str), ("thing" : Str)]) (ps := [("four" : Str)]) (F := lam10B) (NdefX.nscope_by rfl) ⟨rfl, rfl, fun _ _ _ _ _ _ => ⟨_, rfl, fun _ => rfl⟩⟩ fun A outer s H E ce cl f c hr hce => ?_
  have hu65 := hu65_of hr
  have hu1 := hu1_of hr
  have nd := nd_lam10
  exact (pe_fCall (ps := [("q" : Str), ("one" : Str)]) (xb := true) (fun h => by cases h) (ok_over I J) (hr.mono (by omega)) (by rfl) I.g_over I.f_over.kp (b_over I) takes_ncx (pa_gNm (i := 1) rfl (visP rfl) rfl rfl (pa_gEx rfl (pe_fz pe_fNon) pa_gNil)) rfl rfl rfl rfl (glNm (glEx glNil)))
/-! ### the lambdas -/
def lamF : Nat → Fun := fun k => [lam0F, lam1F, lam2F, lam3F, lam4F, lam5F, lam6F, lam7F, lam8F, lam9F, lam10F].getD k fNone
theorem lamok {w : World} {K : PySem.W.Frag} {mg : Str → Option Value} {base : Heap} (I : AllI K mg) (J : TBI K mg base) : ∀ k : Nat, LamG PP w K mg base 5 (lamD k) (lamN k) (spFc (G K) (lamN k + (dvs (lamD k)).length + (lamD k).fr.length) (lamF k))
  | 0 => (lamok0 I J).mono (by decide)
  | 1 => (lamok1 I J).mono (by decide)
  | 2 => (lamok2 I J).mono (by decide)
  | 3 => (lamok3 I J).mono (by decide)
  | 4 => (lamok4 I J).mono (by decide)
  | 5 => (lamok5 I J).mono (by decide)
  | 6 => (lamok6 I J).mono (by decide)
  | 7 => (lamok7 I J).mono (by decide)
  | 8 => (lamok8 I J).mono (by decide)
  | 9 => (lamok9 I J).mono (by decide)
  | 10 => (lamok10 I J).mono (by decide)
  | k + 11 => by
    have e : lamF (k + 11) = fNone := rfl
    rw [e]
    exact lamg_none
/-! ### _law_f_met -/
theorem nd_law_f_met : ([("query" : Str), ("e" : Str)] : List Str).Nodup := by decide +kernel
theorem sc_law_f_met : FnScope [("query" : Str), ("e" : Str)] [("query" : Str)] (defScope s_law_f_met) := ⟨rfl, rfl, rfl, nd_law_f_met, rfl, by decide +kernel, by decide +kernel⟩
theorem b_law_f_met {K : PySem.W.Frag} {mg : Str → Option Value} (I : AllI K mg) : ∀ us : List Value, us.length = 1 → bindArgs (fdOf K "_law_f_met") ⟨us, []⟩ = pure (([("query" : Str)] : List Str).zip us) :=
  bind_fD (args := fun us => ⟨us, []⟩) (r := fun us => ([("query" : Str)] : List Str).zip us) (ok := fun us => us.length = 1) I.f_law_f_met fun _ _ _ _ _ _ us hl => match us, hl with | [_], _ => by kernel_rfl!
def law_f_metB : SS → Out Fl := (fSeq (fTry 2 (fDrop (fClo true lamF lamD lamN 0 0 gNil))
  [(0, some 1, [.s "field", .f 0]), (1, some 1, [.s "value", .f 0])])
  (fRet (fLst (fCons (fz (fCon (.str "let"))) (fCons (fz (fCon .non)) fNil)))))
def law_f_metF : Fun := fRunX true 2 law_f_metB
theorem ok_law_f_metC {w : World} {K : PySem.W.Frag} {mg : Str → Option Value} {base : Heap} (I : AllI K mg) (J : TBI K mg base) : FnGC PP w K mg base 6 (He.ga K "_law_f_met") (fdOf K "_law_f_met") [("query" : Str)] (spFc (G K) 1 law_f_metF) := by
  have e : law_f_metF = fRunX true ([("query" : Str), ("e" : Str)] : List Str).length law_f_metB := rfl
  rw [e]
  refine fn_fDC (k := 5) (F := law_f_metB) (xb := true) (cl := clOf (defScope s_law_f_met)) (p := ("_law_f_met", none)) rfl (fun h => by cases h) I.f_law_f_met sc_law_f_met (by decide) fun A outer s H E ce hr hce => ?_
  have hu65 := hu65_of hr
  have hu1 := hu1_of hr
  have nd := nd_law_f_met
  exact (pss_fSeq (ps_fTry rfl rfl nd rfl takes_cx (fun W pn xe tk ow =>
  (pss_fOne (ps_fDrop (pe_fClo0 (m := 5) (fun h => by cases h) hce rfl (fun k => lamok I J k) (hr.mono (by omega)) tk (i := 0) rfl (visP rfl) rfl rfl) rfl)))
  (.named (names_own (by rfl) I.g_BadField rfl) (i := 1) rfl rfl (exm_ok I 0 (by decide)) (.s (by decide) (.f rfl (sl := 1) rfl (visP rfl) rfl rfl I.xf_BadField (I.x_BadField.flds ("q" : Str) (by decide)).2.2 rfl rfl .nil)) (.named (names_own (by rfl) I.g_BadValue rfl) (i := 1) rfl rfl (exm_ok I 1 (by decide)) (.s (by decide) (.f rfl (sl := 1) rfl (visP rfl) rfl rfl I.xf_BadValue (I.x_BadValue.flds ("value" : Str) (by decide)).2.2 rfl rfl .nil)) .nil)))
  (pss_fOne (ps_fRet (pe_fLst (pa_fCons rfl (pe_fz (pe_fStr (by decide))) (pa_fCons rfl (pe_fz pe_fNon) pa_fNil))))))
theorem ok_law_f_met {w : World} {K : PySem.W.Frag} {mg : Str → Option Value} {base : Heap} (I : AllI K mg) (J : TBI K mg base) : FnG PP w K mg base 6 (He.ga K "_law_f_met") (fdOf K "_law_f_met") [("query" : Str)] (spF (G K) 1 law_f_metF) := (ok_law_f_metC I J).fng
/-! ### _law_f_refused -/
theorem nd_law_f_refused : ([("q" : Str), ("thing" : Str), ("calls" : Str), ("query" : Str), ("word" : Str), ("kept" : Str)] : List Str).Nodup := by decide +kernel
theorem sc_law_f_refused : FnScope [("q" : Str), ("thing" : Str), ("calls" : Str), ("query" : Str), ("word" : Str), ("kept" : Str)] [("q" : Str)] (defScope s_law_f_refused) := ⟨rfl, rfl, rfl, nd_law_f_refused, rfl, by decide +kernel, by decide +kernel⟩
theorem b_law_f_refused {K : PySem.W.Frag} {mg : Str → Option Value} (I : AllI K mg) : ∀ us : List Value, us.length = 1 → bindArgs (fdOf K "_law_f_refused") ⟨us, []⟩ = pure (([("q" : Str)] : List Str).zip us) :=
  bind_fD (args := fun us => ⟨us, []⟩) (r := fun us => ([("q" : Str)] : List Str).zip us) (ok := fun us => us.length = 1) I.f_law_f_refused fun _ _ _ _ _ _ us hl => match us, hl with | [_], _ => by kernel_rfl!
def mine_law_f_refused : List Nat := [0, 1, 2, 3, 4, 5, 6]
def law_f_refusedB : SS → Out Fl := (fSeq (fForI (.lb 1) (fIter (fz (fLst (fCons (fz (fVar 0)) (fCons (fz (fNeg (fz (fCon (.int 1))))) (fCons (fz (fCon .non)) (fCons (fz (fCon (.bl true))) (fCons (fz (fCon (.str "0"))) (fCons (fz (fLst (fCons (fz (fCon (.int 0))) fNil))) (fCons (fz (fOp2 (bop .Pow) (fz (fCon (.int 10))) (fz (fCon (.int 20))))) fNil))))))))))
  (fSeq (fSet 2 (fLst (fCons (fz (fLam 0)) fNil)))
  (fSeq (fDrop (fMth 2 mAppend (fCons (fz (fLam 1)) fNil)))
  (fSeq (fDrop (fMth 2 mAppend (fCons (fz (fLam 2)) fNil)))
  (fSeq (fDrop (fMth 2 mAppend (fCons (fz (fLam 3)) fNil)))
  (fSeq (fDrop (fMth 2 mAppend (fCons (fz (fLam 4)) fNil)))
  (fSeq (fDrop (fMth 2 mAppend (fCons (fz (fLam 5)) fNil)))
  (fForN 2 (.nm 3)
  (fSeq (fUnp (.tup [(.nm 4), (.nm 5)]) (fz (fCallC mine_law_f_refused caps law_f_metF (gNm 3 gNil))))
  (fIfS (fOr (fCmp .NotEq (fz (fVar 4)) (fz (fCon (.str "value")))) (fNot (fTru (fz (fCallX true law_veryF (gNm 5 (gNm 1 gNil)))))))
  (fRet (fCon (.bl false)))
  fNext))))))))))
  (fRet (fCallX true (law_sameF 6) (gEx (fz (fCallC mine_law_f_refused caps law_f_metF (gEx (fz (fLam 6)) gNil))) (gEx (fz (fLst (fCons (fz (fCon (.str "value"))) (fCons (fz (fCon (.int 0))) fNil)))) gNil)))))
def law_f_refusedF : Fun := fRunX true 6 law_f_refusedB
theorem ok_law_f_refusedC {w : World} {K : PySem.W.Frag} {mg : Str → Option Value} {base : Heap} (I : AllI K mg) (J : TBI K mg base) : FnGC PP w K mg base 9 (He.ga K "_law_f_refused") (fdOf K "_law_f_refused") [("q" : Str)] (spFc (G K) 1 law_f_refusedF) := by
  have e : law_f_refusedF = fRunX true ([("q" : Str), ("thing" : Str), ("calls" : Str), ("query" : Str), ("word" : Str), ("kept" : Str)] : List Str).length law_f_refusedB := rfl
  rw [e]
  refine fn_fDC (k := 8) (F := law_f_refusedB) (xb := true) (cl := clOf (defScope s_law_f_refused)) (p := ("_law_f_refused", none)) rfl (fun h => by cases h) I.f_law_f_refused sc_law_f_refused (by decide) fun A outer s H E ce hr hce => ?_
  have hu65 := hu65_of hr
  have hu1 := hu1_of hr
  have nd := nd_law_f_refused
  exact (pss_fSeq (ps_fFor owns_cx rfl (pi_fIter rfl (pe_fz (pe_fLst (pa_fCons rfl (pe_fz (pe_fVar (i := 0) rfl (visP rfl) rfl rfl)) (pa_fCons rfl (pe_fz (pe_fNeg (pe_fz pe_fInt))) (pa_fCons rfl (pe_fz pe_fNon) (pa_fCons rfl (pe_fz pe_fBl) (pa_fCons rfl (pe_fz (pe_fStr (by decide))) (pa_fCons rfl (pe_fz (pe_fLst (pa_fCons rfl (pe_fz pe_fInt) pa_fNil))) (pa_fCons rfl (pe_fz (pe_fBin rfl (pe_fz pe_fInt) (pe_fz pe_fInt))) pa_fNil)))))))))) (pg_fLb (i := 1) nd rfl (locP rfl) (fnlP rfl))
  (pss_fSeq (ps_fSet (i := 2) nd rfl (locP rfl) (pe_fLst (pa_fCons rfl (pe_fz (pe_fLam (l := lam_0) rfl (lamIn_of (l := lam_0) J.t_law_f_refused rfl (.head _) I.tn rfl rfl rfl rfl) (List.cons_ne_nil _ _) ⟨_, _, rfl⟩)) pa_fNil)) rfl (fnlP rfl))
  (pss_fSeq (ps_fDrop (pe_fMth rfl PySem.F.slot_list_append PySem.F.type_list_append mt_append mth_append (i := 2) rfl (visP rfl) rfl rfl (pa_fCons rfl (pe_fz (pe_fLam (l := lam_1) rfl (lamIn_of (l := lam_1) J.t_law_f_refused rfl (.head _) I.tn rfl rfl rfl rfl) (List.cons_ne_nil _ _) ⟨_, _, rfl⟩)) pa_fNil) rfl rfl rfl rfl rfl) rfl)
  (pss_fSeq (ps_fDrop (pe_fMth rfl PySem.F.slot_list_append PySem.F.type_list_append mt_append mth_append (i := 2) rfl (visP rfl) rfl rfl (pa_fCons rfl (pe_fz (pe_fLam (l := lam_2) rfl (lamIn_of (l := lam_2) J.t_law_f_refused rfl (.head _) I.tn rfl rfl rfl rfl) (List.cons_ne_nil _ _) ⟨_, _, rfl⟩)) pa_fNil) rfl rfl rfl rfl rfl) rfl)
  (pss_fSeq (ps_fDrop (pe_fMth rfl PySem.F.slot_list_append PySem.F.type_list_append mt_append mth_append (i := 2) rfl (visP rfl) rfl rfl (pa_fCons rfl (pe_fz (pe_fLam (l := lam_3) rfl (lamIn_of (l := lam_3) J.t_law_f_refused rfl (.head _) I.tn rfl rfl rfl rfl) (List.cons_ne_nil _ _) ⟨_, _, rfl⟩)) pa_fNil) rfl rfl rfl rfl rfl) rfl)
  (pss_fSeq (ps_fDrop (pe_fMth rfl PySem.F.slot_list_append PySem.F.type_list_append mt_append mth_append (i := 2) rfl (visP rfl) rfl rfl (pa_fCons rfl (pe_fz (pe_fLam (l := lam_4) rfl (lamIn_of (l := lam_4) J.t_law_f_refused rfl (.head _) I.tn rfl rfl rfl rfl) (List.cons_ne_nil _ _) ⟨_, _, rfl⟩)) pa_fNil) rfl rfl rfl rfl rfl) rfl)
  (pss_fSeq (ps_fDrop (pe_fMth rfl PySem.F.slot_list_append PySem.F.type_list_append mt_append mth_append (i := 2) rfl (visP rfl) rfl rfl (pa_fCons rfl (pe_fz (pe_fLam (l := lam_5) rfl (lamIn_of (l := lam_5) J.t_law_f_refused rfl (.head _) I.tn rfl rfl rfl rfl) (List.cons_ne_nil _ _) ⟨_, _, rfl⟩)) pa_fNil) rfl rfl rfl rfl rfl) rfl)
  (pss_fOne (ps_fForN owns_cx rfl rfl takes_cx (i := 2) rfl (visP rfl) rfl rfl (fun C' _ => (pg_fNm (i := 3) nd rfl (locP rfl) (fnlP rfl))) (fun W tk =>
  (pss_fSeq (ps_fUnp (pe_fz (pe_fCallC (ps := [("query" : Str)]) (mine := mine_law_f_refused) (caps := caps) (ok_law_f_metC I J) (hr.mono (by omega)) (by rfl) I.g_law_f_met I.f_law_f_met.kp (b_law_f_met I) tk hce rfl (fun _ => rfl) rfl (capOk_of (la := lamD) rfl) (pa_gNm (i := 3) rfl (visP rfl) rfl rfl pa_gNil) rfl rfl rfl rfl (glNm glNil))) (pg_fTup rfl rfl (pgs_fCons (pg_fNm (i := 4) nd rfl (locP rfl) (fnlP rfl)) (pgs_fCons (pg_fNm (i := 5) nd rfl (locP rfl) (fnlP rfl)) pgs_fNil rfl) rfl) rfl rfl) rfl rfl rfl)
  (pss_fOne (ps_fIf (pt_of_pw (pw_fOr (pt_fCmp hu65 rfl rfl (pe_fz (pe_fVar (i := 4) rfl (visP rfl) rfl rfl)) (pe_fz (pe_fStr (by decide)))) (pw_fOr1 (pt_fNot (pt_fTru rfl (pe_fz (pe_fCall (ps := [("kept" : Str), ("thing" : Str)]) (xb := true) (fun h => by cases h) (ok_law_very I J) (hr.mono (by omega)) (by rfl) I.g_law_very I.f_law_very.kp (b_law_very I) tk (pa_gNm (i := 5) rfl (visP rfl) rfl rfl (pa_gNm (i := 1) rfl (visP rfl) rfl rfl pa_gNil)) rfl rfl rfl rfl (glNm (glNm glNil)))) (fun _ => rfl))))))
  (pss_fOne (ps_fRet pe_fBl))
  pss_fNext)))) (fun _ => rfl))))))))) (fun _ => rfl))
  (pss_fOne (ps_fRet (pe_fCall (ps := [("found" : Str), ("due" : Str)]) (xb := true) (fun h => by cases h) (ok_law_same I J 6) (hr.mono (by omega)) (by rfl) I.g_law_same I.f_law_same.kp (b_law_same I) takes_cx (pa_gEx rfl (pe_fz (pe_fCallC (ps := [("query" : Str)]) (mine := mine_law_f_refused) (caps := caps) (ok_law_f_metC I J) (hr.mono (by omega)) (by rfl) I.g_law_f_met I.f_law_f_met.kp (b_law_f_met I) takes_cx hce rfl (fun _ => rfl) rfl (capOk_of (la := lamD) rfl) (pa_gEx rfl (pe_fz (pe_fLam (l := lam_6) rfl (lamIn_of (l := lam_6) J.t_law_f_refused rfl (.head _) I.tn rfl rfl rfl rfl) (List.cons_ne_nil _ _) rfl)) pa_gNil) rfl rfl rfl rfl (glEx glNil))) (pa_gEx rfl (pe_fz (pe_fLst (pa_fCons rfl (pe_fz (pe_fStr (by decide))) (pa_fCons rfl (pe_fz pe_fInt) pa_fNil)))) pa_gNil)) rfl rfl rfl rfl (glEx (glEx glNil))))))
theorem ok_law_f_refused {w : World} {K : PySem.W.Frag} {mg : Str → Option Value} {base : Heap} (I : AllI K mg) (J : TBI K mg base) : FnG PP w K mg base 9 (He.ga K "_law_f_refused") (fdOf K "_law_f_refused") [("q" : Str)] (spF (G K) 1 law_f_refusedF) := (ok_law_f_refusedC I J).fng
/-! ### law -/
theorem nd_law : ([("script" : Str), ("spring" : Str), ("q" : Str), ("one" : Str), ("other" : Str), ("told" : Str), ("third" : Str), ("due" : Str), ("thing" : Str), ("calls" : Str), ("query" : Str), ("word" : Str), ("kept" : Str)] : List Str).Nodup := by decide +kernel
theorem sc_law : FnScope [("script" : Str), ("spring" : Str), ("q" : Str), ("one" : Str), ("other" : Str), ("told" : Str), ("third" : Str), ("due" : Str), ("thing" : Str), ("calls" : Str), ("query" : Str), ("word" : Str), ("kept" : Str)] [("script" : Str)] (defScope s_law) := ⟨rfl, rfl, rfl, nd_law, rfl, by decide +kernel, by decide +kernel⟩
theorem b_law {K : PySem.W.Frag} {mg : Str → Option Value} (I : AllI K mg) : ∀ us : List Value, us.length = 1 → bindArgs (fdOf K "law") ⟨us, []⟩ = pure (([("script" : Str)] : List Str).zip us) :=
  bind_fD (args := fun us => ⟨us, []⟩) (r := fun us => ([("script" : Str)] : List Str).zip us) (ok := fun us => us.length = 1) I.f_law fun _ _ _ _ _ _ us hl => match us, hl with | [_], _ => by kernel_rfl!
def mine_law : List Nat := [7, 8, 9, 10]
def lawB : SS → Out Fl := (fSeq (fSetRef 1 (fCallX true law_springF (gNm 0 (gEx (fz (fCon (.int 0))) gNil))))
  (fSeq (fForI (.nm 2) (fIter (fz (fCallX true law_mixedF (gNm 1 (gEx (fz (fLst (fCons (fz (fCon (.int 2))) (fCons (fz (fCon (.int 3))) (fCons (fz (fCon (.int 4))) (fCons (fz (fCon (.int 5))) (fCons (fz (fCon (.int 7))) (fCons (fz (fCon (.int 8))) (fCons (fz (fCon (.int 9))) fNil))))))))) gNil)))))
  (fSeq (fForI (.nm 3) (fIts (fCons (fz (fVar 2)) fNil) rng1)
  (fSeq (fForI (.nm 4) (fIts (fCons (fz (fVar 2)) fNil) rng1)
  (fSeq (fSet 5 (fLst (fCons (fz (fCallX true plusF (gNm 2 (gNm 3 (gNm 4 gNil))))) (fCons (fz (fCallX true byF (gNm 2 (gNm 3 (gNm 4 gNil))))) (fCons (fz (fCallKX true plusF [2, 1, 0] (gNm 4 (gNm 3 (gNm 2 gNil))))) (fCons (fz (fCallKX true byF [2, 1, 0] (gNm 4 (gNm 3 (gNm 2 gNil))))) fNil))))))
  (fSeq (fIfS (fNot (fTru (fz (fCallX true (law_sameF 6) (gNm 5 (gEx (fz (fOp2 (bop .Mult) (fz (fLst (fCons (fz (fCallX true law_f_plusF (gNm 2 (gNm 3 (gNm 4 gNil))))) (fCons (fz (fCallX true law_f_byF (gNm 2 (gNm 3 (gNm 4 gNil))))) fNil)))) (fz (fCon (.int 2))))) gNil))))))
  (fRet (fCon (.bl false)))
  fNext)
  (fForI (.nm 6) (fIter (fz (fLst (fCons (fz (fCallX true law_drawF (gNm 1 (gNm 2 gNil)))) (fCons (fz (fCallX true law_drawF (gNm 1 (gNm 2 gNil)))) fNil)))))
  (fIfS (fOr (fCmp .NotEq (fz (fCallX true byF (gNm 2 (gNm 3 (gEx (fz (fCallX true plusF (gNm 2 (gNm 4 (gNm 6 gNil))))) gNil))))) (fz (fCallX true plusF (gNm 2 (gEx (fz (fCallX true byF (gNm 2 (gNm 3 (gNm 4 gNil))))) (gEx (fz (fCallX true byF (gNm 2 (gNm 3 (gNm 6 gNil))))) gNil)))))) (fCmp .NotEq (fz (fCallX true byF (gNm 2 (gEx (fz (fCallX true byF (gNm 2 (gNm 3 (gNm 4 gNil))))) (gNm 6 gNil))))) (fz (fCallX true byF (gNm 2 (gNm 3 (gEx (fz (fCallX true byF (gNm 2 (gNm 4 (gNm 6 gNil))))) gNil)))))))
  (fRet (fCon (.bl false)))
  fNext)))))
  (fSeq (fSet 7 (fIdx (fz (fLc (.nm 4) [4] (fIts (fCons (fz (fVar 2)) fNil) rng1) (fCmp .Eq (fz (fCallX true law_f_plusF (gNm 2 (gNm 3 (gNm 4 gNil))))) (fz (fCon (.int 0)))) (fz (fVar 4)))) (fz (fCon (.int 0)))))
  (fSeq (fIfS (fNot (fTru (fz (fCallX true (law_sameF 6) (gEx (fz (fLst (fCons (fz (fCallX true minusF (gNm 2 (gNm 3 gNil)))) (fCons (fz (fCallKX true minusF [1, 0] (gNm 3 (gNm 2 gNil)))) fNil)))) (gEx (fz (fLst (fCons (fz (fVar 7)) (fCons (fz (fVar 7)) fNil)))) gNil))))))
  (fRet (fCon (.bl false)))
  fNext)
  (fIfS (fCmp .Gt (fz (fVar 3)) (fz (fCon (.int 0))))
  (fSeq (fSet 7 (fIdx (fz (fLc (.nm 4) [4] (fIts (fCons (fz (fVar 2)) fNil) rng1) (fCmp .Eq (fz (fCallX true law_f_byF (gNm 2 (gNm 3 (gNm 4 gNil))))) (fz (fCon (.int 1)))) (fz (fVar 4)))) (fz (fCon (.int 0)))))
  (fIfS (fNot (fTru (fz (fCallX true (law_sameF 6) (gEx (fz (fLst (fCons (fz (fCallX true overF (gNm 2 (gNm 3 gNil)))) (fCons (fz (fCallKX true overF [1, 0] (gNm 3 (gNm 2 gNil)))) fNil)))) (gEx (fz (fLst (fCons (fz (fVar 7)) (fCons (fz (fVar 7)) fNil)))) gNil))))))
  (fRet (fCon (.bl false)))
  fNext))
  fNext)))))
  (fIfS (fNot (fTru (fz (fCallX true law_f_refusedF (gNm 2 gNil)))))
  (fRet (fCon (.bl false)))
  fNext)))
  (fSeq (fForI (.lb 8) (fIter (fz (fLst (fCons (fz (fCon (.int 0))) (fCons (fz (fCon (.int 1))) (fCons (fz (fCon (.int 6))) (fCons (fz (fCon (.int 10))) (fCons (fz (fNeg (fz (fCon (.int 2))))) (fCons (fz (fCon .non)) (fCons (fz (fCon (.bl true))) (fCons (fz (fCon (.str "2"))) (fCons (fz (fLst (fCons (fz (fCon (.int 2))) fNil))) (fCons (fz (fOp2 (bop .Pow) (fz (fCon (.int 10))) (fz (fCon (.int 20))))) fNil)))))))))))))
  (fSeq (fSet 9 (fLst (fCons (fz (fLam 7)) fNil)))
  (fSeq (fDrop (fMth 9 mAppend (fCons (fz (fLam 8)) fNil)))
  (fSeq (fDrop (fMth 9 mAppend (fCons (fz (fLam 9)) fNil)))
  (fSeq (fDrop (fMth 9 mAppend (fCons (fz (fLam 10)) fNil)))
  (fForN 9 (.nm 10)
  (fSeq (fUnp (.tup [(.nm 11), (.nm 12)]) (fz (fCallC mine_law caps law_f_metF (gNm 10 gNil))))
  (fIfS (fOr (fCmp .NotEq (fz (fVar 11)) (fz (fCon (.str "field")))) (fNot (fTru (fz (fCallX true law_veryF (gNm 12 (gNm 8 gNil)))))))
  (fRet (fCon (.bl false)))
  fNext))))))))
  (fRet (toV (fCmp .Eq (fz (fLst (fCons (fz (fCallX true byF (gEx (fz (fCon (.int 4))) (gEx (fz (fCon (.int 2))) (gEx (fz (fCon (.int 3))) gNil))))) (fCons (fz (fCallX true byF (gEx (fz (fCon (.int 8))) (gEx (fz (fCon (.int 4))) (gEx (fz (fCon (.int 2))) gNil))))) (fCons (fz (fCallX true byF (gEx (fz (fCon (.int 9))) (gEx (fz (fCon (.int 3))) (gEx (fz (fCon (.int 3))) gNil))))) (fCons (fz (fCallX true plusF (gEx (fz (fCon (.int 9))) (gEx (fz (fCon (.int 8))) (gEx (fz (fCon (.int 8))) gNil))))) fNil)))))) (fz (fLst (fCons (fz (fCon (.int 1))) (fCons (fz (fCon (.int 3))) (fCons (fz (fCon (.int 2))) (fCons (fz (fCon (.int 4))) fNil))))))))))))
def lawF : Fun := fRunX true 13 lawB
theorem ok_lawC {w : World} {K : PySem.W.Frag} {mg : Str → Option Value} {base : Heap} (I : AllI K mg) (J : TBI K mg base) : FnGC PP w K mg base 10 (He.ga K "law") (fdOf K "law") [("script" : Str)] (spFc (G K) 1 lawF) := by
  have e : lawF = fRunX true ([("script" : Str), ("spring" : Str), ("q" : Str), ("one" : Str), ("other" : Str), ("told" : Str), ("third" : Str), ("due" : Str), ("thing" : Str), ("calls" : Str), ("query" : Str), ("word" : Str), ("kept" : Str)] : List Str).length lawB := rfl
  rw [e]
  refine fn_fDC (k := 9) (F := lawB) (xb := true) (cl := clOf (defScope s_law)) (p := ("law", none)) rfl (fun h => by cases h) I.f_law sc_law (by decide) fun A outer s H E ce hr hce => ?_
  have hu65 := hu65_of hr
  have hu1 := hu1_of hr
  have nd := nd_law
  exact (pss_fSeq (ps_fSetRef (i := 1) nd rfl (locP rfl) (pe_fCall (ps := [("script" : Str), ("turn" : Str)]) (xb := true) (fun h => by cases h) (ok_law_spring I J) (hr.mono (by omega)) (by rfl) I.g_law_spring I.f_law_spring.kp (b_law_spring I) takes_cx (pa_gNm (i := 0) rfl (visP rfl) rfl rfl (pa_gEx rfl (pe_fz pe_fInt) pa_gNil)) rfl rfl rfl rfl (glNm (glEx glNil))) rfl (fnlP rfl))
  (pss_fSeq (ps_fFor owns_cx rfl (pi_fIter rfl (pe_fz (pe_fCall (ps := [("spring" : Str), ("some" : Str)]) (xb := true) (fun h => by cases h) (ok_law_mixed I J) (hr.mono (by omega)) (by rfl) I.g_law_mixed I.f_law_mixed.kp (b_law_mixed I) takes_cx (pa_gNm (i := 1) rfl (visP rfl) rfl rfl (pa_gEx rfl (pe_fz (pe_fLst (pa_fCons rfl (pe_fz pe_fInt) (pa_fCons rfl (pe_fz pe_fInt) (pa_fCons rfl (pe_fz pe_fInt) (pa_fCons rfl (pe_fz pe_fInt) (pa_fCons rfl (pe_fz pe_fInt) (pa_fCons rfl (pe_fz pe_fInt) (pa_fCons rfl (pe_fz pe_fInt) pa_fNil))))))))) pa_gNil)) rfl rfl rfl rfl (glNm (glEx glNil))))) (pg_fNm (i := 2) nd rfl (locP rfl) (fnlP rfl))
  (pss_fSeq (ps_fFor owns_cx rfl (pi_fRng1 (by rfl) I.n_range (pa_fCons rfl (pe_fz (pe_fVar (i := 2) rfl (visP rfl) rfl rfl)) pa_fNil) rfl) (pg_fNm (i := 3) nd rfl (locP rfl) (fnlP rfl))
  (pss_fSeq (ps_fFor owns_cx rfl (pi_fRng1 (by rfl) I.n_range (pa_fCons rfl (pe_fz (pe_fVar (i := 2) rfl (visP rfl) rfl rfl)) pa_fNil) rfl) (pg_fNm (i := 4) nd rfl (locP rfl) (fnlP rfl))
  (pss_fSeq (ps_fSet (i := 5) nd rfl (locP rfl) (pe_fLst (pa_fCons rfl (pe_fz (pe_fCall (ps := [("q" : Str), ("one" : Str), ("other" : Str)]) (xb := true) (fun h => by cases h) (ok_plus I J) (hr.mono (by omega)) (by rfl) I.g_plus I.f_plus.kp (b_plus I) takes_cx (pa_gNm (i := 2) rfl (visP rfl) rfl rfl (pa_gNm (i := 3) rfl (visP rfl) rfl rfl (pa_gNm (i := 4) rfl (visP rfl) rfl rfl pa_gNil))) rfl rfl rfl rfl (glNm (glNm (glNm glNil))))) (pa_fCons rfl (pe_fz (pe_fCall (ps := [("q" : Str), ("one" : Str), ("other" : Str)]) (xb := true) (fun h => by cases h) (ok_by I J) (hr.mono (by omega)) (by rfl) I.g_by I.f_by.kp (b_by I) takes_cx (pa_gNm (i := 2) rfl (visP rfl) rfl rfl (pa_gNm (i := 3) rfl (visP rfl) rfl rfl (pa_gNm (i := 4) rfl (visP rfl) rfl rfl pa_gNil))) rfl rfl rfl rfl (glNm (glNm (glNm glNil))))) (pa_fCons rfl (pe_fz (pe_fCallK (ps := [("q" : Str), ("one" : Str), ("other" : Str)]) (xb := true) (pl := [2, 1, 0]) (ks := [("other" : Str), ("one" : Str), ("q" : Str)]) (fun h => by cases h) (ok_plus I J) (hr.mono (by omega)) (by rfl) I.g_plus I.f_plus.kp (kb_plus_other_one_q I) takes_cx (pk_gNm (i := 4) rfl (visP rfl) rfl rfl (pk_gNm (i := 3) rfl (visP rfl) rfl rfl (pk_gNm (i := 2) rfl (visP rfl) rfl rfl pk_gNil))) (glNm (glNm (glNm glNil))) (perm_len rfl rfl) rfl rfl rfl rfl)) (pa_fCons rfl (pe_fz (pe_fCallK (ps := [("q" : Str), ("one" : Str), ("other" : Str)]) (xb := true) (pl := [2, 1, 0]) (ks := [("other" : Str), ("one" : Str), ("q" : Str)]) (fun h => by cases h) (ok_by I J) (hr.mono (by omega)) (by rfl) I.g_by I.f_by.kp (kb_by_other_one_q I) takes_cx (pk_gNm (i := 4) rfl (visP rfl) rfl rfl (pk_gNm (i := 3) rfl (visP rfl) rfl rfl (pk_gNm (i := 2) rfl (visP rfl) rfl rfl pk_gNil))) (glNm (glNm (glNm glNil))) (perm_len rfl rfl) rfl rfl rfl rfl)) pa_fNil))))) rfl (fnlP rfl))
  (pss_fSeq (ps_fIf (pt_fNot (pt_fTru rfl (pe_fz (pe_fCall (ps := [("found" : Str), ("due" : Str)]) (xb := true) (fun h => by cases h) (ok_law_same I J 6) (hr.mono (by omega)) (by rfl) I.g_law_same I.f_law_same.kp (b_law_same I) takes_cx (pa_gNm (i := 5) rfl (visP rfl) rfl rfl (pa_gEx rfl (pe_fz (pe_fBin rfl (pe_fz (pe_fLst (pa_fCons rfl (pe_fz (pe_fCall (ps := [("q" : Str), ("one" : Str), ("other" : Str)]) (xb := true) (fun h => by cases h) (ok_law_f_plus I J) (hr.mono (by omega)) (by rfl) I.g_law_f_plus I.f_law_f_plus.kp (b_law_f_plus I) takes_cx (pa_gNm (i := 2) rfl (visP rfl) rfl rfl (pa_gNm (i := 3) rfl (visP rfl) rfl rfl (pa_gNm (i := 4) rfl (visP rfl) rfl rfl pa_gNil))) rfl rfl rfl rfl (glNm (glNm (glNm glNil))))) (pa_fCons rfl (pe_fz (pe_fCall (ps := [("q" : Str), ("one" : Str), ("other" : Str)]) (xb := true) (fun h => by cases h) (ok_law_f_by I J) (hr.mono (by omega)) (by rfl) I.g_law_f_by I.f_law_f_by.kp (b_law_f_by I) takes_cx (pa_gNm (i := 2) rfl (visP rfl) rfl rfl (pa_gNm (i := 3) rfl (visP rfl) rfl rfl (pa_gNm (i := 4) rfl (visP rfl) rfl rfl pa_gNil))) rfl rfl rfl rfl (glNm (glNm (glNm glNil))))) pa_fNil)))) (pe_fz pe_fInt))) pa_gNil)) rfl rfl rfl rfl (glNm (glEx glNil)))) (fun _ => rfl)))
  (pss_fOne (ps_fRet pe_fBl))
  pss_fNext)
  (pss_fOne (ps_fFor owns_cx rfl (pi_fIter rfl (pe_fz (pe_fLst (pa_fCons rfl (pe_fz (pe_fCall (ps := [("spring" : Str), ("many" : Str)]) (xb := true) (fun h => by cases h) (ok_law_draw I J) (hr.mono (by omega)) (by rfl) I.g_law_draw I.f_law_draw.kp (b_law_draw I) takes_cx (pa_gNm (i := 1) rfl (visP rfl) rfl rfl (pa_gNm (i := 2) rfl (visP rfl) rfl rfl pa_gNil)) rfl rfl rfl rfl (glNm (glNm glNil)))) (pa_fCons rfl (pe_fz (pe_fCall (ps := [("spring" : Str), ("many" : Str)]) (xb := true) (fun h => by cases h) (ok_law_draw I J) (hr.mono (by omega)) (by rfl) I.g_law_draw I.f_law_draw.kp (b_law_draw I) takes_cx (pa_gNm (i := 1) rfl (visP rfl) rfl rfl (pa_gNm (i := 2) rfl (visP rfl) rfl rfl pa_gNil)) rfl rfl rfl rfl (glNm (glNm glNil)))) pa_fNil))))) (pg_fNm (i := 6) nd rfl (locP rfl) (fnlP rfl))
  (pss_fOne (ps_fIf (pt_of_pw (pw_fOr (pt_fCmp hu65 rfl rfl (pe_fz (pe_fCall (ps := [("q" : Str), ("one" : Str), ("other" : Str)]) (xb := true) (fun h => by cases h) (ok_by I J) (hr.mono (by omega)) (by rfl) I.g_by I.f_by.kp (b_by I) takes_cx (pa_gNm (i := 2) rfl (visP rfl) rfl rfl (pa_gNm (i := 3) rfl (visP rfl) rfl rfl (pa_gEx rfl (pe_fz (pe_fCall (ps := [("q" : Str), ("one" : Str), ("other" : Str)]) (xb := true) (fun h => by cases h) (ok_plus I J) (hr.mono (by omega)) (by rfl) I.g_plus I.f_plus.kp (b_plus I) takes_cx (pa_gNm (i := 2) rfl (visP rfl) rfl rfl (pa_gNm (i := 4) rfl (visP rfl) rfl rfl (pa_gNm (i := 6) rfl (visP rfl) rfl rfl pa_gNil))) rfl rfl rfl rfl (glNm (glNm (glNm glNil))))) pa_gNil))) rfl rfl rfl rfl (glNm (glNm (glEx glNil))))) (pe_fz (pe_fCall (ps := [("q" : Str), ("one" : Str), ("other" : Str)]) (xb := true) (fun h => by cases h) (ok_plus I J) (hr.mono (by omega)) (by rfl) I.g_plus I.f_plus.kp (b_plus I) takes_cx (pa_gNm (i := 2) rfl (visP rfl) rfl rfl (pa_gEx rfl (pe_fz (pe_fCall (ps := [("q" : Str), ("one" : Str), ("other" : Str)]) (xb := true) (fun h => by cases h) (ok_by I J) (hr.mono (by omega)) (by rfl) I.g_by I.f_by.kp (b_by I) takes_cx (pa_gNm (i := 2) rfl (visP rfl) rfl rfl (pa_gNm (i := 3) rfl (visP rfl) rfl rfl (pa_gNm (i := 4) rfl (visP rfl) rfl rfl pa_gNil))) rfl rfl rfl rfl (glNm (glNm (glNm glNil))))) (pa_gEx rfl (pe_fz (pe_fCall (ps := [("q" : Str), ("one" : Str), ("other" : Str)]) (xb := true) (fun h => by cases h) (ok_by I J) (hr.mono (by omega)) (by rfl) I.g_by I.f_by.kp (b_by I) takes_cx (pa_gNm (i := 2) rfl (visP rfl) rfl rfl (pa_gNm (i := 3) rfl (visP rfl) rfl rfl (pa_gNm (i := 6) rfl (visP rfl) rfl rfl pa_gNil))) rfl rfl rfl rfl (glNm (glNm (glNm glNil))))) pa_gNil))) rfl rfl rfl rfl (glNm (glEx (glEx glNil)))))) (pw_fOr1 (pt_fCmp hu65 rfl rfl (pe_fz (pe_fCall (ps := [("q" : Str), ("one" : Str), ("other" : Str)]) (xb := true) (fun h => by cases h) (ok_by I J) (hr.mono (by omega)) (by rfl) I.g_by I.f_by.kp (b_by I) takes_cx (pa_gNm (i := 2) rfl (visP rfl) rfl rfl (pa_gEx rfl (pe_fz (pe_fCall (ps := [("q" : Str), ("one" : Str), ("other" : Str)]) (xb := true) (fun h => by cases h) (ok_by I J) (hr.mono (by omega)) (by rfl) I.g_by I.f_by.kp (b_by I) takes_cx (pa_gNm (i := 2) rfl (visP rfl) rfl rfl (pa_gNm (i := 3) rfl (visP rfl) rfl rfl (pa_gNm (i := 4) rfl (visP rfl) rfl rfl pa_gNil))) rfl rfl rfl rfl (glNm (glNm (glNm glNil))))) (pa_gNm (i := 6) rfl (visP rfl) rfl rfl pa_gNil))) rfl rfl rfl rfl (glNm (glEx (glNm glNil))))) (pe_fz (pe_fCall (ps := [("q" : Str), ("one" : Str), ("other" : Str)]) (xb := true) (fun h => by cases h) (ok_by I J) (hr.mono (by omega)) (by rfl) I.g_by I.f_by.kp (b_by I) takes_cx (pa_gNm (i := 2) rfl (visP rfl) rfl rfl (pa_gNm (i := 3) rfl (visP rfl) rfl rfl (pa_gEx rfl (pe_fz (pe_fCall (ps := [("q" : Str), ("one" : Str), ("other" : Str)]) (xb := true) (fun h => by cases h) (ok_by I J) (hr.mono (by omega)) (by rfl) I.g_by I.f_by.kp (b_by I) takes_cx (pa_gNm (i := 2) rfl (visP rfl) rfl rfl (pa_gNm (i := 4) rfl (visP rfl) rfl rfl (pa_gNm (i := 6) rfl (visP rfl) rfl rfl pa_gNil))) rfl rfl rfl rfl (glNm (glNm (glNm glNil))))) pa_gNil))) rfl rfl rfl rfl (glNm (glNm (glEx glNil)))))))))
  (pss_fOne (ps_fRet pe_fBl))
  pss_fNext)) (fun _ => rfl))))) (fun _ => rfl))
  (pss_fSeq (ps_fSet (i := 7) nd rfl (locP rfl) (pe_fIdx hu1 rfl (fun _ _ => rfl) (pe_fz (pe_fLc rfl nd (pi_fRng1 (by rfl) I.n_range (pa_fCons rfl (pe_fz (pe_fVar (i := 2) rfl (visP rfl) rfl rfl)) pa_fNil) rfl) (blkOk_by (own := [(("other" : Str), 4)]) (by rfl)) (by decide) (by decide) (fun bs bH bA bcl bfp => (pg_fNm (i := 4) nd rfl (locP rfl) (fnlP rfl))) (fun bs bH bA bcl bfp => (pts_fOne (pt_fCmp hu65 rfl rfl (pe_fz (pe_fCall (ps := [("q" : Str), ("one" : Str), ("other" : Str)]) (xb := true) (fun h => by cases h) (ok_law_f_plus I J) (hr.mono (by omega)) (by rfl) I.g_law_f_plus I.f_law_f_plus.kp (b_law_f_plus I) takes0 (pa_gNm (i := 2) rfl (visP rfl) rfl rfl (pa_gNm (i := 3) rfl (visP rfl) rfl rfl (pa_gNm (i := 4) rfl (visP rfl) rfl rfl pa_gNil))) rfl rfl rfl rfl (glNm (glNm (glNm glNil))))) (pe_fz pe_fInt)))) (fun bs bH bA bcl bfp => (pe_fz (pe_fVar (i := 4) rfl (visP rfl) rfl rfl))) (fun _ => rfl))) (pe_fz pe_fInt)) rfl (fnlP rfl))
  (pss_fSeq (ps_fIf (pt_fNot (pt_fTru rfl (pe_fz (pe_fCall (ps := [("found" : Str), ("due" : Str)]) (xb := true) (fun h => by cases h) (ok_law_same I J 6) (hr.mono (by omega)) (by rfl) I.g_law_same I.f_law_same.kp (b_law_same I) takes_cx (pa_gEx rfl (pe_fz (pe_fLst (pa_fCons rfl (pe_fz (pe_fCall (ps := [("q" : Str), ("one" : Str)]) (xb := true) (fun h => by cases h) (ok_minus I J) (hr.mono (by omega)) (by rfl) I.g_minus I.f_minus.kp (b_minus I) takes_cx (pa_gNm (i := 2) rfl (visP rfl) rfl rfl (pa_gNm (i := 3) rfl (visP rfl) rfl rfl pa_gNil)) rfl rfl rfl rfl (glNm (glNm glNil)))) (pa_fCons rfl (pe_fz (pe_fCallK (ps := [("q" : Str), ("one" : Str)]) (xb := true) (pl := [1, 0]) (ks := [("one" : Str), ("q" : Str)]) (fun h => by cases h) (ok_minus I J) (hr.mono (by omega)) (by rfl) I.g_minus I.f_minus.kp (kb_minus_one_q I) takes_cx (pk_gNm (i := 3) rfl (visP rfl) rfl rfl (pk_gNm (i := 2) rfl (visP rfl) rfl rfl pk_gNil)) (glNm (glNm glNil)) (perm_len rfl rfl) rfl rfl rfl rfl)) pa_fNil)))) (pa_gEx rfl (pe_fz (pe_fLst (pa_fCons rfl (pe_fz (pe_fVar (i := 7) rfl (visP rfl) rfl rfl)) (pa_fCons rfl (pe_fz (pe_fVar (i := 7) rfl (visP rfl) rfl rfl)) pa_fNil)))) pa_gNil)) rfl rfl rfl rfl (glEx (glEx glNil)))) (fun _ => rfl)))
  (pss_fOne (ps_fRet pe_fBl))
  pss_fNext)
  (pss_fOne (ps_fIf (pt_fCmp hu65 rfl rfl (pe_fz (pe_fVar (i := 3) rfl (visP rfl) rfl rfl)) (pe_fz pe_fInt))
  (pss_fSeq (ps_fSet (i := 7) nd rfl (locP rfl) (pe_fIdx hu1 rfl (fun _ _ => rfl) (pe_fz (pe_fLc rfl nd (pi_fRng1 (by rfl) I.n_range (pa_fCons rfl (pe_fz (pe_fVar (i := 2) rfl (visP rfl) rfl rfl)) pa_fNil) rfl) (blkOk_by (own := [(("other" : Str), 4)]) (by rfl)) (by decide) (by decide) (fun bs bH bA bcl bfp => (pg_fNm (i := 4) nd rfl (locP rfl) (fnlP rfl))) (fun bs bH bA bcl bfp => (pts_fOne (pt_fCmp hu65 rfl rfl (pe_fz (pe_fCall (ps := [("q" : Str), ("one" : Str), ("other" : Str)]) (xb := true) (fun h => by cases h) (ok_law_f_by I J) (hr.mono (by omega)) (by rfl) I.g_law_f_by I.f_law_f_by.kp (b_law_f_by I) takes0 (pa_gNm (i := 2) rfl (visP rfl) rfl rfl (pa_gNm (i := 3) rfl (visP rfl) rfl rfl (pa_gNm (i := 4) rfl (visP rfl) rfl rfl pa_gNil))) rfl rfl rfl rfl (glNm (glNm (glNm glNil))))) (pe_fz pe_fInt)))) (fun bs bH bA bcl bfp => (pe_fz (pe_fVar (i := 4) rfl (visP rfl) rfl rfl))) (fun _ => rfl))) (pe_fz pe_fInt)) rfl (fnlP rfl))
  (pss_fOne (ps_fIf (pt_fNot (pt_fTru rfl (pe_fz (pe_fCall (ps := [("found" : Str), ("due" : Str)]) (xb := true) (fun h => by cases h) (ok_law_same I J 6) (hr.mono (by omega)) (by rfl) I.g_law_same I.f_law_same.kp (b_law_same I) takes_cx (pa_gEx rfl (pe_fz (pe_fLst (pa_fCons rfl (pe_fz (pe_fCall (ps := [("q" : Str), ("one" : Str)]) (xb := true) (fun h => by cases h) (ok_over I J) (hr.mono (by omega)) (by rfl) I.g_over I.f_over.kp (b_over I) takes_cx (pa_gNm (i := 2) rfl (visP rfl) rfl rfl (pa_gNm (i := 3) rfl (visP rfl) rfl rfl pa_gNil)) rfl rfl rfl rfl (glNm (glNm glNil)))) (pa_fCons rfl (pe_fz (pe_fCallK (ps := [("q" : Str), ("one" : Str)]) (xb := true) (pl := [1, 0]) (ks := [("one" : Str), ("q" : Str)]) (fun h => by cases h) (ok_over I J) (hr.mono (by omega)) (by rfl) I.g_over I.f_over.kp (kb_over_one_q I) takes_cx (pk_gNm (i := 3) rfl (visP rfl) rfl rfl (pk_gNm (i := 2) rfl (visP rfl) rfl rfl pk_gNil)) (glNm (glNm glNil)) (perm_len rfl rfl) rfl rfl rfl rfl)) pa_fNil)))) (pa_gEx rfl (pe_fz (pe_fLst (pa_fCons rfl (pe_fz (pe_fVar (i := 7) rfl (visP rfl) rfl rfl)) (pa_fCons rfl (pe_fz (pe_fVar (i := 7) rfl (visP rfl) rfl rfl)) pa_fNil)))) pa_gNil)) rfl rfl rfl rfl (glEx (glEx glNil)))) (fun _ => rfl)))
  (pss_fOne (ps_fRet pe_fBl))
  pss_fNext)))
  pss_fNext))))) (fun _ => rfl))
  (pss_fOne (ps_fIf (pt_fNot (pt_fTru rfl (pe_fz (pe_fCall (ps := [("q" : Str)]) (xb := true) (fun h => by cases h) (ok_law_f_refused I J) (hr.mono (by omega)) (by rfl) I.g_law_f_refused I.f_law_f_refused.kp (b_law_f_refused I) takes_cx (pa_gNm (i := 2) rfl (visP rfl) rfl rfl pa_gNil) rfl rfl rfl rfl (glNm glNil))) (fun _ => rfl)))
  (pss_fOne (ps_fRet pe_fBl))
  pss_fNext))) (fun _ => rfl))
  (pss_fSeq (ps_fFor owns_cx rfl (pi_fIter rfl (pe_fz (pe_fLst (pa_fCons rfl (pe_fz pe_fInt) (pa_fCons rfl (pe_fz pe_fInt) (pa_fCons rfl (pe_fz pe_fInt) (pa_fCons rfl (pe_fz pe_fInt) (pa_fCons rfl (pe_fz (pe_fNeg (pe_fz pe_fInt))) (pa_fCons rfl (pe_fz pe_fNon) (pa_fCons rfl (pe_fz pe_fBl) (pa_fCons rfl (pe_fz (pe_fStr (by decide))) (pa_fCons rfl (pe_fz (pe_fLst (pa_fCons rfl (pe_fz pe_fInt) pa_fNil))) (pa_fCons rfl (pe_fz (pe_fBin rfl (pe_fz pe_fInt) (pe_fz pe_fInt))) pa_fNil))))))))))))) (pg_fLb (i := 8) nd rfl (locP rfl) (fnlP rfl))
  (pss_fSeq (ps_fSet (i := 9) nd rfl (locP rfl) (pe_fLst (pa_fCons rfl (pe_fz (pe_fLam (l := lam_7) rfl (lamIn_of (l := lam_7) J.t_law rfl (.tail _ (.head _)) I.tn rfl rfl rfl rfl) (List.cons_ne_nil _ _) ⟨_, _, rfl⟩)) pa_fNil)) rfl (fnlP rfl))
  (pss_fSeq (ps_fDrop (pe_fMth rfl PySem.F.slot_list_append PySem.F.type_list_append mt_append mth_append (i := 9) rfl (visP rfl) rfl rfl (pa_fCons rfl (pe_fz (pe_fLam (l := lam_8) rfl (lamIn_of (l := lam_8) J.t_law rfl (.tail _ (.head _)) I.tn rfl rfl rfl rfl) (List.cons_ne_nil _ _) ⟨_, _, rfl⟩)) pa_fNil) rfl rfl rfl rfl rfl) rfl)
  (pss_fSeq (ps_fDrop (pe_fMth rfl PySem.F.slot_list_append PySem.F.type_list_append mt_append mth_append (i := 9) rfl (visP rfl) rfl rfl (pa_fCons rfl (pe_fz (pe_fLam (l := lam_9) rfl (lamIn_of (l := lam_9) J.t_law rfl (.tail _ (.head _)) I.tn rfl rfl rfl rfl) (List.cons_ne_nil _ _) ⟨_, _, rfl⟩)) pa_fNil) rfl rfl rfl rfl rfl) rfl)
  (pss_fSeq (ps_fDrop (pe_fMth rfl PySem.F.slot_list_append PySem.F.type_list_append mt_append mth_append (i := 9) rfl (visP rfl) rfl rfl (pa_fCons rfl (pe_fz (pe_fLam (l := lam_10) rfl (lamIn_of (l := lam_10) J.t_law rfl (.tail _ (.head _)) I.tn rfl rfl rfl rfl) (List.cons_ne_nil _ _) ⟨_, _, rfl⟩)) pa_fNil) rfl rfl rfl rfl rfl) rfl)
  (pss_fOne (ps_fForN owns_cx rfl rfl takes_cx (i := 9) rfl (visP rfl) rfl rfl (fun C' _ => (pg_fNm (i := 10) nd rfl (locP rfl) (fnlP rfl))) (fun W tk =>
  (pss_fSeq (ps_fUnp (pe_fz (pe_fCallC (ps := [("query" : Str)]) (mine := mine_law) (caps := caps) (ok_law_f_metC I J) (hr.mono (by omega)) (by rfl) I.g_law_f_met I.f_law_f_met.kp (b_law_f_met I) tk hce rfl (fun _ => rfl) rfl (capOk_of (la := lamD) rfl) (pa_gNm (i := 10) rfl (visP rfl) rfl rfl pa_gNil) rfl rfl rfl rfl (glNm glNil))) (pg_fTup rfl rfl (pgs_fCons (pg_fNm (i := 11) nd rfl (locP rfl) (fnlP rfl)) (pgs_fCons (pg_fNm (i := 12) nd rfl (locP rfl) (fnlP rfl)) pgs_fNil rfl) rfl) rfl rfl) rfl rfl rfl)
  (pss_fOne (ps_fIf (pt_of_pw (pw_fOr (pt_fCmp hu65 rfl rfl (pe_fz (pe_fVar (i := 11) rfl (visP rfl) rfl rfl)) (pe_fz (pe_fStr (by decide)))) (pw_fOr1 (pt_fNot (pt_fTru rfl (pe_fz (pe_fCall (ps := [("kept" : Str), ("thing" : Str)]) (xb := true) (fun h => by cases h) (ok_law_very I J) (hr.mono (by omega)) (by rfl) I.g_law_very I.f_law_very.kp (b_law_very I) tk (pa_gNm (i := 12) rfl (visP rfl) rfl rfl (pa_gNm (i := 8) rfl (visP rfl) rfl rfl pa_gNil)) rfl rfl rfl rfl (glNm (glNm glNil)))) (fun _ => rfl))))))
  (pss_fOne (ps_fRet pe_fBl))
  pss_fNext)))) (fun _ => rfl))))))) (fun _ => rfl))
  (pss_fOne (ps_fRet (pe_fCmp hu65 rfl rfl (pe_fz (pe_fLst (pa_fCons rfl (pe_fz (pe_fCall (ps := [("q" : Str), ("one" : Str), ("other" : Str)]) (xb := true) (fun h => by cases h) (ok_by I J) (hr.mono (by omega)) (by rfl) I.g_by I.f_by.kp (b_by I) takes_cx (pa_gEx rfl (pe_fz pe_fInt) (pa_gEx rfl (pe_fz pe_fInt) (pa_gEx rfl (pe_fz pe_fInt) pa_gNil))) rfl rfl rfl rfl (glEx (glEx (glEx glNil))))) (pa_fCons rfl (pe_fz (pe_fCall (ps := [("q" : Str), ("one" : Str), ("other" : Str)]) (xb := true) (fun h => by cases h) (ok_by I J) (hr.mono (by omega)) (by rfl) I.g_by I.f_by.kp (b_by I) takes_cx (pa_gEx rfl (pe_fz pe_fInt) (pa_gEx rfl (pe_fz pe_fInt) (pa_gEx rfl (pe_fz pe_fInt) pa_gNil))) rfl rfl rfl rfl (glEx (glEx (glEx glNil))))) (pa_fCons rfl (pe_fz (pe_fCall (ps := [("q" : Str), ("one" : Str), ("other" : Str)]) (xb := true) (fun h => by cases h) (ok_by I J) (hr.mono (by omega)) (by rfl) I.g_by I.f_by.kp (b_by I) takes_cx (pa_gEx rfl (pe_fz pe_fInt) (pa_gEx rfl (pe_fz pe_fInt) (pa_gEx rfl (pe_fz pe_fInt) pa_gNil))) rfl rfl rfl rfl (glEx (glEx (glEx glNil))))) (pa_fCons rfl (pe_fz (pe_fCall (ps := [("q" : Str), ("one" : Str), ("other" : Str)]) (xb := true) (fun h => by cases h) (ok_plus I J) (hr.mono (by omega)) (by rfl) I.g_plus I.f_plus.kp (b_plus I) takes_cx (pa_gEx rfl (pe_fz pe_fInt) (pa_gEx rfl (pe_fz pe_fInt) (pa_gEx rfl (pe_fz pe_fInt) pa_gNil))) rfl rfl rfl rfl (glEx (glEx (glEx glNil))))) pa_fNil)))))) (pe_fz (pe_fLst (pa_fCons rfl (pe_fz pe_fInt) (pa_fCons rfl (pe_fz pe_fInt) (pa_fCons rfl (pe_fz pe_fInt) (pa_fCons rfl (pe_fz pe_fInt) pa_fNil))))))))))))
theorem ok_law {w : World} {K : PySem.W.Frag} {mg : Str → Option Value} {base : Heap} (I : AllI K mg) (J : TBI K mg base) : FnG PP w K mg base 10 (He.ga K "law") (fdOf K "law") [("script" : Str)] (spF (G K) 1 lawF) := (ok_lawC I J).fng
end K09
namespace K09
open PySem PySem.Spec PyProof.Rows L2 Ev
/-! ### the head -/
abbrev RR : PySem.W.OpenRow := PySem.W.OpenLaw.row PySem.Challenge.rw_everytwo_k09_whole_fields
def loose0 : List PySem.Str := ["__name__", "is_integer", "is_between", "PlanError", "BadField", "BadValue", "SIZES", "check_field", "check_value", "digits", "number_of", "base_of", "sum_in", "lowered", "product_in", "plus", "by", "minus", "over", "_law_spring", "_law_draw", "_law_pick", "_law_mixed", "_law_very", "_law_same", "_law_f_base", "_law_f_digits", "_law_f_number", "_law_f_plus", "_law_f_by"]
def loose1 : List PySem.Str := ["_law_f_met", "_law_f_refused"]
def loose : List PySem.Str := loose0 ++ loose1
def fa0 : List He.Fa := [.glo "_law_spring", .glo "_law_draw", .glo "_law_mixed", .glo "_law_same", .glo "is_integer", .glo "is_between", .glo "check_field", .glo "check_value", .glo "base_of", .glo "number_of", .glo "digits", .glo "sum_in", .glo "plus", .glo "lowered", .glo "product_in", .glo "by", .glo "minus", .glo "over", .glo "_law_very", .glo "_law_f_base", .glo "_law_f_number", .glo "_law_f_digits", .glo "_law_f_plus", .glo "_law_f_by", .glo "_law_f_met", .glo "_law_f_refused", .glo "law", .free "all", .free "bool", .free "dict"]
def fa1 : List He.Fa := [.free "enumerate", .free "int", .free "isinstance", .free "len", .free "list", .free "max", .free "range", .free "reversed", .free "str", .free "super", .free "tuple", .free "zip", .glo "SIZES", .glo "BadField", .glo "BadValue"]
def fa : List He.Fa := fa0 ++ fa1
def d_law_spring : He.DefD := ⟨("_law_spring", none), "_law_spring", "_law_spring", defArgs s_law_spring, defBody s_law_spring, defScope s_law_spring, [], []⟩
def d_law_draw : He.DefD := ⟨("_law_draw", none), "_law_draw", "_law_draw", defArgs s_law_draw, defBody s_law_draw, defScope s_law_draw, [], []⟩
def d_law_mixed : He.DefD := ⟨("_law_mixed", none), "_law_mixed", "_law_mixed", defArgs s_law_mixed, defBody s_law_mixed, defScope s_law_mixed, [], []⟩
def d_law_same : He.DefD := ⟨("_law_same", none), "_law_same", "_law_same", defArgs s_law_same, defBody s_law_same, defScope s_law_same, [], []⟩
def d_is_integer : He.DefD := ⟨("is_integer", none), "is_integer", "is_integer", defArgs s_is_integer, defBody s_is_integer, defScope s_is_integer, [], []⟩
def d_is_between : He.DefD := ⟨("is_between", none), "is_between", "is_between", defArgs s_is_between, defBody s_is_between, defScope s_is_between, [], []⟩
def d_check_field : He.DefD := ⟨("check_field", none), "check_field", "check_field", defArgs s_check_field, defBody s_check_field, defScope s_check_field, [], []⟩
def d_check_value : He.DefD := ⟨("check_value", none), "check_value", "check_value", defArgs s_check_value, defBody s_check_value, defScope s_check_value, [], []⟩
def d_base_of : He.DefD := ⟨("base_of", none), "base_of", "base_of", defArgs s_base_of, defBody s_base_of, defScope s_base_of, [], []⟩
def d_number_of : He.DefD := ⟨("number_of", none), "number_of", "number_of", defArgs s_number_of, defBody s_number_of, defScope s_number_of, [], []⟩
def d_digits : He.DefD := ⟨("digits", none), "digits", "digits", defArgs s_digits, defBody s_digits, defScope s_digits, [], []⟩
def d_sum_in : He.DefD := ⟨("sum_in", none), "sum_in", "sum_in", defArgs s_sum_in, defBody s_sum_in, defScope s_sum_in, [], []⟩
def d_plus : He.DefD := ⟨("plus", none), "plus", "plus", defArgs s_plus, defBody s_plus, defScope s_plus, [], []⟩
def d_lowered : He.DefD := ⟨("lowered", none), "lowered", "lowered", defArgs s_lowered, defBody s_lowered, defScope s_lowered, [], []⟩
def d_product_in : He.DefD := ⟨("product_in", none), "product_in", "product_in", defArgs s_product_in, defBody s_product_in, defScope s_product_in, [], []⟩
def d_by : He.DefD := ⟨("by", none), "by", "by", defArgs s_by, defBody s_by, defScope s_by, [], []⟩
def d_minus : He.DefD := ⟨("minus", none), "minus", "minus", defArgs s_minus, defBody s_minus, defScope s_minus, [], []⟩
def d_over : He.DefD := ⟨("over", none), "over", "over", defArgs s_over, defBody s_over, defScope s_over, [], []⟩
def d_law_very : He.DefD := ⟨("_law_very", none), "_law_very", "_law_very", defArgs s_law_very, defBody s_law_very, defScope s_law_very, [], []⟩
def d_law_f_base : He.DefD := ⟨("_law_f_base", none), "_law_f_base", "_law_f_base", defArgs s_law_f_base, defBody s_law_f_base, defScope s_law_f_base, [], []⟩
def d_law_f_number : He.DefD := ⟨("_law_f_number", none), "_law_f_number", "_law_f_number", defArgs s_law_f_number, defBody s_law_f_number, defScope s_law_f_number, [], []⟩
def d_law_f_digits : He.DefD := ⟨("_law_f_digits", none), "_law_f_digits", "_law_f_digits", defArgs s_law_f_digits, defBody s_law_f_digits, defScope s_law_f_digits, [], []⟩
def d_law_f_plus : He.DefD := ⟨("_law_f_plus", none), "_law_f_plus", "_law_f_plus", defArgs s_law_f_plus, defBody s_law_f_plus, defScope s_law_f_plus, [], []⟩
def d_law_f_by : He.DefD := ⟨("_law_f_by", none), "_law_f_by", "_law_f_by", defArgs s_law_f_by, defBody s_law_f_by, defScope s_law_f_by, [], []⟩
def d_law_f_met : He.DefD := ⟨("_law_f_met", none), "_law_f_met", "_law_f_met", defArgs s_law_f_met, defBody s_law_f_met, defScope s_law_f_met, [], []⟩
def d_law_f_refused : He.DefD := ⟨("_law_f_refused", none), "_law_f_refused", "_law_f_refused", defArgs s_law_f_refused, defBody s_law_f_refused, defScope s_law_f_refused, [], []⟩
def d_law : He.DefD := ⟨("law", none), "law", "law", defArgs s_law, defBody s_law, defScope s_law, [], []⟩
def fn0 : List He.DefD := [d_law_spring, d_law_draw, d_law_mixed, d_law_same, d_is_integer, d_is_between, d_check_field, d_check_value, d_base_of, d_number_of, d_digits, d_sum_in, d_plus, d_lowered, d_product_in, d_by, d_minus, d_over, d_law_very, d_law_f_base, d_law_f_number, d_law_f_digits, d_law_f_plus, d_law_f_by, d_law_f_met, d_law_f_refused, d_law]
def fn : List He.DefD := fn0
def tf : List He.Defn := [("_law_f_refused", none), ("law", none)]
def cs : List (Str × InW) := [("BadField", initV "BadField.__init__" (top 6)), ("BadValue", initV "BadValue.__init__" (top 7))]
def exB (K : PySem.W.Frag) : Bool := (initB PP.main.file K "BadField" ["q"] && (initB PP.main.file K "BadValue" ["value"] && (xfB K (He.ga K "BadField") && (xfB K (He.ga K "BadValue") && (excTab K excN && (decide ((G K).tabs.map (·.1)).Nodup && He.tupB K "SIZES" ([2, 3, 4, 5, 7, 8, 9].map He.Dv.int)))))))
abbrev hk : PySem.W.Hook := hookE 5 fa fn [] tf exB cs
def ob := obE 5 fa fn [] tf exB cs
theorem run (w : World) : HandSHeadRun.RunEq RR (PySem.W.view RR.prog [36]) hk ob 8000 loose w := by
  intro os
  kernel_rfl
theorem inS_BadField : InitS PP (top 6) "BadField.__init__" ["q"] where
  body := ⟨_, _, _, _, _, _, _, _, rfl, rfl⟩
  par := ⟨_, rfl, rfl⟩
  top := by decide +kernel
  sks := by rfl
  skc := by rfl
  bind := fun _ _ _ _ _ _ us hl => match us, hl with | [_, _], _ => by kernel_rfl!
  loc := by decide +kernel
  kind := rfl
  co := rfl
  gen := rfl
  ncell := by decide +kernel
  onefree := by decide +kernel
  nd := by decide +kernel
  sts := (.cons .nil)
  ne := List.cons_ne_nil _ _
  short := by decide
  flds := by decide +kernel
theorem inS_BadValue : InitS PP (top 7) "BadValue.__init__" ["value"] where
  body := ⟨_, _, _, _, _, _, _, _, rfl, rfl⟩
  par := ⟨_, rfl, rfl⟩
  top := by decide +kernel
  sks := by rfl
  skc := by rfl
  bind := fun _ _ _ _ _ _ us hl => match us, hl with | [_, _], _ => by kernel_rfl!
  loc := by decide +kernel
  kind := rfl
  co := rfl
  gen := rfl
  ncell := by decide +kernel
  onefree := by decide +kernel
  nd := by decide +kernel
  sts := (.cons .nil)
  ne := List.cons_ne_nil _ _
  short := by decide
  flds := by decide +kernel
theorem allI {w : World} {K : PySem.W.Frag} {h : Heap} {mg : Str → Option Value} (X : K.In h) (N : h.Ns mainGlobals mg) (c : He.SaysX fa fn [] tf exB w h K) (ci : cs.map (fun c => initW K c.1) = cs.map (·.2)) : AllI K mg := by
  have m := c.more
  unfold exB at m
  simp only [Bool.and_eq_true, decide_eq_true_eq] at m
  obtain ⟨m0, m1, m2, m3, m4, m5, m6⟩ := m
  exact {
    f_law_spring := funD_at c.t.d 0 (d := d_law_spring) rfl rfl
    g_law_spring := He.glo_ok X N (fact_at c.t.d 0 (f := .glo "_law_spring") rfl)
    f_law_draw := funD_at c.t.d 1 (d := d_law_draw) rfl rfl
    g_law_draw := He.glo_ok X N (fact_at c.t.d 1 (f := .glo "_law_draw") rfl)
    f_law_mixed := funD_at c.t.d 2 (d := d_law_mixed) rfl rfl
    g_law_mixed := He.glo_ok X N (fact_at c.t.d 2 (f := .glo "_law_mixed") rfl)
    f_law_same := funD_at c.t.d 3 (d := d_law_same) rfl rfl
    g_law_same := He.glo_ok X N (fact_at c.t.d 3 (f := .glo "_law_same") rfl)
    f_is_integer := funD_at c.t.d 4 (d := d_is_integer) rfl rfl
    g_is_integer := He.glo_ok X N (fact_at c.t.d 4 (f := .glo "is_integer") rfl)
    f_is_between := funD_at c.t.d 5 (d := d_is_between) rfl rfl
    g_is_between := He.glo_ok X N (fact_at c.t.d 5 (f := .glo "is_between") rfl)
    f_check_field := funD_at c.t.d 6 (d := d_check_field) rfl rfl
    g_check_field := He.glo_ok X N (fact_at c.t.d 6 (f := .glo "check_field") rfl)
    f_check_value := funD_at c.t.d 7 (d := d_check_value) rfl rfl
    g_check_value := He.glo_ok X N (fact_at c.t.d 7 (f := .glo "check_value") rfl)
    f_base_of := funD_at c.t.d 8 (d := d_base_of) rfl rfl
    g_base_of := He.glo_ok X N (fact_at c.t.d 8 (f := .glo "base_of") rfl)
    f_number_of := funD_at c.t.d 9 (d := d_number_of) rfl rfl
    g_number_of := He.glo_ok X N (fact_at c.t.d 9 (f := .glo "number_of") rfl)
    f_digits := funD_at c.t.d 10 (d := d_digits) rfl rfl
    g_digits := He.glo_ok X N (fact_at c.t.d 10 (f := .glo "digits") rfl)
    f_sum_in := funD_at c.t.d 11 (d := d_sum_in) rfl rfl
    g_sum_in := He.glo_ok X N (fact_at c.t.d 11 (f := .glo "sum_in") rfl)
    f_plus := funD_at c.t.d 12 (d := d_plus) rfl rfl
    g_plus := He.glo_ok X N (fact_at c.t.d 12 (f := .glo "plus") rfl)
    f_lowered := funD_at c.t.d 13 (d := d_lowered) rfl rfl
    g_lowered := He.glo_ok X N (fact_at c.t.d 13 (f := .glo "lowered") rfl)
    f_product_in := funD_at c.t.d 14 (d := d_product_in) rfl rfl
    g_product_in := He.glo_ok X N (fact_at c.t.d 14 (f := .glo "product_in") rfl)
    f_by := funD_at c.t.d 15 (d := d_by) rfl rfl
    g_by := He.glo_ok X N (fact_at c.t.d 15 (f := .glo "by") rfl)
    f_minus := funD_at c.t.d 16 (d := d_minus) rfl rfl
    g_minus := He.glo_ok X N (fact_at c.t.d 16 (f := .glo "minus") rfl)
    f_over := funD_at c.t.d 17 (d := d_over) rfl rfl
    g_over := He.glo_ok X N (fact_at c.t.d 17 (f := .glo "over") rfl)
    f_law_very := funD_at c.t.d 18 (d := d_law_very) rfl rfl
    g_law_very := He.glo_ok X N (fact_at c.t.d 18 (f := .glo "_law_very") rfl)
    f_law_f_base := funD_at c.t.d 19 (d := d_law_f_base) rfl rfl
    g_law_f_base := He.glo_ok X N (fact_at c.t.d 19 (f := .glo "_law_f_base") rfl)
    f_law_f_number := funD_at c.t.d 20 (d := d_law_f_number) rfl rfl
    g_law_f_number := He.glo_ok X N (fact_at c.t.d 20 (f := .glo "_law_f_number") rfl)
    f_law_f_digits := funD_at c.t.d 21 (d := d_law_f_digits) rfl rfl
    g_law_f_digits := He.glo_ok X N (fact_at c.t.d 21 (f := .glo "_law_f_digits") rfl)
    f_law_f_plus := funD_at c.t.d 22 (d := d_law_f_plus) rfl rfl
    g_law_f_plus := He.glo_ok X N (fact_at c.t.d 22 (f := .glo "_law_f_plus") rfl)
    f_law_f_by := funD_at c.t.d 23 (d := d_law_f_by) rfl rfl
    g_law_f_by := He.glo_ok X N (fact_at c.t.d 23 (f := .glo "_law_f_by") rfl)
    f_law_f_met := funD_at c.t.d 24 (d := d_law_f_met) rfl rfl
    g_law_f_met := He.glo_ok X N (fact_at c.t.d 24 (f := .glo "_law_f_met") rfl)
    f_law_f_refused := funD_at c.t.d 25 (d := d_law_f_refused) rfl rfl
    g_law_f_refused := He.glo_ok X N (fact_at c.t.d 25 (f := .glo "_law_f_refused") rfl)
    f_law := funD_at c.t.d 26 (d := d_law) rfl rfl
    g_law := He.glo_ok X N (fact_at c.t.d 26 (f := .glo "law") rfl)
    n_all := He.free_ok X N (fact_at c.t.d 27 (f := .free "all") rfl)
    n_bool := He.free_ok X N (fact_at c.t.d 28 (f := .free "bool") rfl)
    n_dict := He.free_ok X N (fact_at c.t.d 29 (f := .free "dict") rfl)
    n_enumerate := He.free_ok X N (fact_at c.t.d 30 (f := .free "enumerate") rfl)
    n_int := He.free_ok X N (fact_at c.t.d 31 (f := .free "int") rfl)
    n_isinstance := He.free_ok X N (fact_at c.t.d 32 (f := .free "isinstance") rfl)
    n_len := He.free_ok X N (fact_at c.t.d 33 (f := .free "len") rfl)
    n_list := He.free_ok X N (fact_at c.t.d 34 (f := .free "list") rfl)
    n_max := He.free_ok X N (fact_at c.t.d 35 (f := .free "max") rfl)
    n_range := He.free_ok X N (fact_at c.t.d 36 (f := .free "range") rfl)
    n_reversed := He.free_ok X N (fact_at c.t.d 37 (f := .free "reversed") rfl)
    n_str := He.free_ok X N (fact_at c.t.d 38 (f := .free "str") rfl)
    n_super := He.free_ok X N (fact_at c.t.d 39 (f := .free "super") rfl)
    n_tuple := He.free_ok X N (fact_at c.t.d 40 (f := .free "tuple") rfl)
    n_zip := He.free_ok X N (fact_at c.t.d 41 (f := .free "zip") rfl)
    g_SIZES := He.glo_ok X N (fact_at c.t.d 42 (f := .glo "SIZES") rfl)
    c_SIZES := m6
    g_BadField := He.glo_ok X N (fact_at c.t.d 43 (f := .glo "BadField") rfl)
    x_BadField := exI_of inS_BadField m0 (inW_at ci 0 (c := ("BadField", initV "BadField.__init__" (top 6))) rfl) (He.free_ok X N (fact_at c.t.d 39 (f := .free "super") rfl))
    xf_BadField := xfB_ok m2
    g_BadValue := He.glo_ok X N (fact_at c.t.d 44 (f := .glo "BadValue") rfl)
    x_BadValue := exI_of inS_BadValue m1 (inW_at ci 1 (c := ("BadValue", initV "BadValue.__init__" (top 7))) rfl) (He.free_ok X N (fact_at c.t.d 39 (f := .free "super") rfl))
    xf_BadValue := xfB_ok m3
    xt := m4
    tn := m5 }
/-- the plain law -/
def Plain : Prop := ∀ ns : List Int, ns.length ≤ 63 → (∀ z ∈ ns, Builtin.Int.intBits z ≤ 1048576) → ∃ S, lawF [scriptD ns] S0 = .ok (.val (.bl true)) S
theorem facts (pl : Plain) {w : World} {K : PySem.W.Frag} {h : Heap} {mg : Str → Option Value} {f : Addr} (X : K.In h) (N : h.Ns mainGlobals mg) (hf : mg ("law" : Str) = some (.ref f)) (c : He.SaysX fa fn [] tf exB w h K) (ci : cs.map (fun c => initW K c.1) = cs.map (·.2)) :
    LamX.LawAtS PySem.Challenge.rw_everytwo_k09_whole_fields w K (L2.CX PP w) 10 63 "script" mg f h := by
  have I := allI X N c ci
  have e := hf.symm.trans I.g_law
  cases e
  refine ⟨fdOf K "law", tf.map (He.cT K), spF (G K) 1 lawF, ?_, ?_, ?_, fun s u => .of_eq (b_law I [u] rfl), fun H a ns hl hb hT hS => ?_, fun base KB NB TB => ?_⟩
  · intro p hp
    obtain ⟨d, hd, rfl⟩ := List.mem_map.mp hp
    exact c.empty d hd
  · intro p hp
    obtain ⟨d, hd, rfl⟩ := List.mem_map.mp hp
    exact c.out d hd
  · intro p hp
    obtain ⟨d, hd, rfl⟩ := List.mem_map.mp hp
    exact PySem.W.codeHd_of_K X (c.hd d hd)
  · obtain ⟨S, e⟩ := pl ns hl hb
    refine start_sp (G := G K) (fun p hp => ?_) hS e
    have q : p.1 ∈ (G K).tabs.map (·.1) := List.mem_map.mpr ⟨p, hp, rfl⟩
    have q2 : (G K).tabs.map (·.1) = (tf.map (He.cT K)).map (·.2) := rfl
    rw [q2] at q
    obtain ⟨r, hr, er⟩ := List.mem_map.mp q
    rw [← er]
    exact hT r hr
  · exact (ok_law I ⟨TB _ (List.mem_map.mpr ⟨_, (.head _), rfl⟩), TB _ (List.mem_map.mpr ⟨_, (.tail _ (.head _)), rfl⟩)⟩).ok
end K09
open PySem PySem.W PySem.Calls PyProof.Rows
theorem law_holds (pl : K09.Plain) : PySem.Challenge.rw_everytwo_k09_whole_fields.Holds := by
  w_on; o_law
  refine HandSHeadRun.head_any (r := OpenLaw.row PySem.Challenge.rw_everytwo_k09_whole_fields) (q := view (OpenLaw.row PySem.Challenge.rw_everytwo_k09_whole_fields).prog [36]) (H := K09.hk) (ob := K09.ob) (M := 8000) (loose := K09.loose) (d := HandSHeadRun.topDef (OpenLaw.row PySem.Challenge.rw_everytwo_k09_whole_fields).prog 36) (kwd := []) Ev.obE_eq
    (by kernel_rfl) (fun s => by kernel_rfl) K09.run (by kernel_rfl) (by kernel_rfl) (by kernel_rfl) (by rfl) (by first | assumption | decide +kernel) (by decide +kernel) ⟨rfl, rfl, rfl, rfl, rfl, by decide +kernel⟩ ?hw ?hc
  case hw => w_witness2
  case hc =>
    refine LamX.walk_ofTsE (l := PySem.Challenge.rw_everytwo_k09_whole_fields) (n := 63) (k := 10) (x := "script") (CX := fun w => L2.CX K09.PP w) rfl (by decide) (by kernel_rfl) ⟨rfl, by decide, by decide⟩ ?F (fun _ _ _ _ _ z => Ev.cx_no z)
    intro w mg fa h Y N hmg0
    obtain ⟨K, KX, c, ci⟩ := Y
    have hmg : mg ("law" : PySem.Str) = some (.ref fa) := by
      have e : (HandSHeadRun.topDef (OpenLaw.row PySem.Challenge.rw_everytwo_k09_whole_fields).prog 36).name = ("law" : PySem.Str) := by kernel_rfl
      rw [← e]
      exact hmg0
    exact ⟨K, KX, K09.facts pl KX N hmg c ci⟩
namespace K09
open PySem L2 Ev
abbrev Sp (a b c : Int) : Ob := .lst [.int a, .int b, .int c]
theorem smul1 (i j : Int) (h : -(2 ^ 64) < i ∧ i < 2 ^ 64) : smallMul i j = true := by unfold smallMul; rw [decide_eq_true h]; rfl
theorem smul2 (i j : Int) (h : -(2 ^ 64) < j ∧ j < 2 ^ 64) : smallMul i j = true := by unfold smallMul; rw [decide_eq_true h, Bool.or_true]
theorem draw_ok (a b c m : Int) (lc : Nat) (hm : 0 < m) (hm2 : m.natAbs.log2 < 9000) (hb : 0 ≤ b ∧ b < 2147483647) (hc : 0 ≤ c ∧ c < 1000000) :
    ∃ a' c' r, law_drawF [.ref 0, .int m] ⟨[], [Sp a b c], lc⟩ = .ok (.val (.int r)) ⟨[], [Sp a' b c'], lc⟩ ∧ 0 ≤ r ∧ r < m ∧ 0 ≤ c' ∧ c' ≤ c + 1 := by
  by_cases ha : 0 < a
  · refine ⟨a / m, c, a % m, ?_, Int.emod_nonneg _ (by omega), Int.emod_lt_of_pos _ hm, hc.1, by omega⟩
    simp [law_drawF, law_drawB, didx, L2.atI, cop, ha, resolveP, bInt, bop, hm, obSet, hm2, L2.ixN]
  · have h1 : (b + 6364137 * (c + 1) + 1442695).natAbs < 2 ^ 64 := by omega
    generalize hu : (b + 6364137 * (c + 1) + 1442695) ^ 3 % 2147483647 = u
    have hu1 : 0 ≤ u := by rw [← hu]; exact Int.emod_nonneg _ (by decide)
    have hu2 : u < 2147483647 := by rw [← hu]; exact Int.emod_lt_of_pos _ (by decide)
    have h2 : (u * 48271 + 11 * (c + 1)).natAbs < 2 ^ 64 := by omega
    have s1 : smallMul 6364137 (c + 1) = true := smul1 _ _ (by decide)
    have s2 : smallMul u 48271 = true := smul2 _ _ (by decide)
    have s3 : smallMul 11 (c + 1) = true := smul1 _ _ (by decide)
    refine ⟨a, c + 1, (u * 48271 + 11 * (c + 1)) ^ 3 % 2147483629 / 8 % m, ?_, Int.emod_nonneg _ (by omega), Int.emod_lt_of_pos _ hm, by omega, by omega⟩
    have l8 : Nat.log2 8 < 9000 := by decide
    simp [law_drawF, law_drawB, didx, L2.atI, cop, ha, resolveP, bInt, bop, hm, obSet, hm2, L2.ixN, s1, s2, s3, h1, h2, hu, l8]
end K09
namespace K09
open PySem L2 Ev
@[simp] theorem sp_int (a b c : Int) : intOb (Sp a b c) = true := rfl
@[simp] theorem sp_noFn (a b c : Int) : (Sp a b c).noFn = true := rfl
@[simp] theorem fl_int (a : Int) : flatRes (.val (.int a)) = true := rfl
@[simp] theorem fl_bl (a : Bool) : flatRes (.val (.bl a)) = true := rfl
@[simp] theorem fl_non : flatRes (.val .non) = true := rfl
theorem log2_small {n : Nat} (h : n < 2 ^ 100) : n.log2 < 9000 := by
  by_cases z : n = 0
  · subst z; decide
  · have := (Nat.log2_lt z).mpr h
    omega
def popF : SS → Out D := (fz (fMth 2 mPopAt (fCons (fz (fCallX false law_drawF (gNm 0 (gEx (fz (fBlt bLen (gNm 2 gNil))) gNil)))) fNil)))
theorem pop_ok (a b c : Int) (s1 s3 : Slot) (left : List D) (lc : Nat) (hl : 0 < left.length) (hl2 : left.length < 1000) (hb : 0 ≤ b ∧ b < 2147483647) (hc : 0 ≤ c ∧ c < 1000000) :
    ∃ a' c' k, k < left.length ∧ popF ⟨[.val (.ref 0), s1, .own (.lst left), s3], [Sp a b c], lc⟩ = .ok (left[k]?.getD .non) ⟨[.val (.ref 0), s1, .own (.lst (left.eraseIdx k)), s3], [Sp a' b c'], lc⟩ ∧ 0 ≤ c' ∧ c' ≤ c + 1 := by
  obtain ⟨a', c', r, e, r1, r2, c1, c2⟩ := draw_ok a b c left.length lc (by omega) (log2_small (by omega)) hb hc
  refine ⟨a', c', r.toNat, by omega, ?_, c1, c2⟩
  have hr : 0 ≤ r ∧ r < left.length ∧ left.length < 2 ^ 62 := ⟨r1, r2, by omega⟩
  have hk : r.toNat < left.length := by omega
  have hz62 : left.length < 4611686018427387904 := by omega
  have e1 : left[r.toNat]? = some left[r.toNat] := List.getElem?_eq_getElem hk
  simp [popF, resolveP, resolve, bLen, Ev.callWith, e, mPopAt, e1, r1, r2, hr.2.2, hz62]
theorem perm_erase {α : Type} : ∀ (l : List α) (k : Nat) (h : k < l.length), (l[k] :: l.eraseIdx k).Perm l
  | a :: l, 0, h => by simp
  | a :: l, k + 1, h => by
    simp only [List.getElem_cons_succ, List.eraseIdx_cons_succ]
    exact (List.Perm.swap _ _ _).trans ((perm_erase l k (by simpa using h)).cons a)
theorem mixed_loop : ∀ (left : List D) (ds acc : List D) (a b c : Int) (s1 : Slot) (lc : Nat), ds.length = left.length → left.length < 1000 → 0 ≤ b ∧ b < 2147483647 → 0 ≤ c ∧ c + left.length < 1000000 →
    ∃ a' c' ys, lcLoop (.nm 3) [3] fYes popF ds acc ⟨[.val (.ref 0), s1, .own (.lst left), .none], [Sp a b c], lc⟩ = .ok (acc ++ ys) ⟨[.val (.ref 0), s1, .own (.lst []), .none], [Sp a' b c'], lc⟩ ∧ ys.Perm left ∧ 0 ≤ c' ∧ c' ≤ c + left.length
  | left, [], acc, a, b, c, s1, lc, hl, h2, hb, hc => by
    have e : left = [] := List.length_eq_zero_iff.mp hl.symm
    subst e
    exact ⟨a, c, [], by simp [lcLoop], .nil, hc.1, by simp⟩
  | left, d :: ds, acc, a, b, c, s1, lc, hl, h2, hb, hc => by
    have h0 : 0 < left.length := by rw [← hl]; simp
    obtain ⟨a1, c1, k, hk, e, k1, k2⟩ := pop_ok a b c s1 (.val d) left lc h0 h2 hb ⟨hc.1, by omega⟩
    have len : (left.eraseIdx k).length = left.length - 1 := List.length_eraseIdx_of_lt hk
    have hl' : ds.length = (left.eraseIdx k).length := by rw [len, ← hl]; simp
    obtain ⟨a2, c2, ys, e2, p, k3, k4⟩ := mixed_loop (left.eraseIdx k) ds (acc ++ [left[k]?.getD .non]) a1 b c1 s1 lc hl' (by omega) hb ⟨k1, by omega⟩
    have ek : left[k]? = some left[k] := List.getElem?_eq_getElem hk
    refine ⟨a2, c2, left[k] :: ys, ?_, ?_, k3, by omega⟩
    · simp [lcLoop, e, SS.wipe]
      rw [ek] at e2
      simp at e2
      simp [ek, e2]
    · have q : (left[k] :: left.eraseIdx k).Perm left := perm_erase left k hk
      exact (p.cons _).trans q
theorem mx0 : law_mixedB = (fSeq (fSet 2 (fBlt bList (gNm 1 Ev.gNil))) (fRet (fLc (.nm 3) [3] (fIts (fCons (fz (fBlt bLen (gNm 2 Ev.gNil))) fNil) rng1) fYes popF))) := rfl
theorem mx1 (xs : List D) (h2 : xs.length < 1000) : rng1 [.int xs.length] = some (rangeD 0 1 xs.length) := by
  have hz : lit62 (xs.length : Int) = true := by unfold lit62; exact decide_eq_true (by omega)
  simp [rng1, hz]
theorem mx2 (xs ys : List D) (a b c a' b' c' : Int) (lc : Nat) (h2 : xs.length < 1000) (e : lcLoop (.nm 3) [3] fYes popF (rangeD 0 1 xs.length) [] ⟨[.val (.ref 0), .val (.lst xs), .own (.lst xs), .none], [Sp a b c], lc⟩ = .ok ys ⟨[.val (.ref 0), .val (.lst xs), .own (.lst []), .none], [Sp a' b c'], lc⟩) :
    lcRun (.nm 3) [3] fYes popF (rangeD 0 1 xs.length) ⟨[.val (.ref 0), .val (.lst xs), .own (.lst xs), .none], [Sp a b c], lc⟩ = .ok (.own (.lst ys)) ⟨[.val (.ref 0), .val (.lst xs), .own (.lst []), .none], [Sp a' b c'], lc⟩ := by
  have hs : (rangeD 0 1 xs.length).length ≤ sizeLine := by rw [sizeLine_eq]; simp [rangeD]; omega
  unfold lcRun
  rw [if_pos ⟨rfl, hs⟩]
  have e2 : ((⟨[.val (.ref 0), .val (.lst xs), .own (.lst xs), .none], [Sp a b c], lc⟩ : SS).wipe [3]) = ⟨[.val (.ref 0), .val (.lst xs), .own (.lst xs), .none], [Sp a b c], lc⟩ := rfl
  rw [e2, e]
  rfl
theorem mixed_ok (xs : List D) (a b c : Int) (lc : Nat) (h2 : xs.length < 1000) (hb : 0 ≤ b ∧ b < 2147483647) (hc : 0 ≤ c ∧ c + xs.length < 1000000) :
    ∃ a' c' ys, law_mixedF [.ref 0, .lst xs] ⟨[], [Sp a b c], lc⟩ = .ok (.own (.lst ys)) ⟨[], [Sp a' b c'], lc⟩ ∧ ys.Perm xs ∧ 0 ≤ c' ∧ c' ≤ c + xs.length := by
  obtain ⟨a', c', ys, e, p, k1, k2⟩ := mixed_loop xs (rangeD 0 1 xs.length) [] a b c (.val (.lst xs)) lc (by simp [rangeD]) h2 hb hc
  refine ⟨a', c', ys, ?_, p, k1, k2⟩
  have h1 := mx2 xs ys a b c a' b c' lc h2 e
  simp [law_mixedF, mx0, resolveP, bList, bLen, mx1 xs h2, h1]
end K09
namespace K09
open PySem L2 Ev
def springBody : SS → Out Fl := (fSet 3 (fOp2 (bop .Mod) (fz (fBlt bInt (gEx (fz (fOp2 (bop .Add) (fz (fOp2 (bop .Add) (fz (fOp2 (bop .Add) (fz (fOp2 (bop .Mult) (fz (fVar 3)) (fz (fCon (.int 69069))))) (fz (fVar 5)))) (fz (fOp2 (bop .Mult) (fz (fCon (.int 5))) (fz (fVar 4)))))) (fz (fCon (.int 1))))) Ev.gNil))) (fz (fCon (.int 2147483629)))))
theorem spring_loop : ∀ (xs : List Int) (n : Nat) (mix : Int) (s0 s1 s2 s4 s5 : Slot) (om : List Ob) (lc : Nat), 0 ≤ mix ∧ mix < 2147483647 →
    ∃ mix' s4' s5', fFor (.tup [.nm 4, .nm 5]) springBody (enumD n (xs.map D.int)) ⟨[s0, s1, s2, .val (.int mix), s4, s5], om, lc⟩ = .ok .nx ⟨[s0, s1, s2, .val (.int mix'), s4', s5'], om, lc⟩ ∧ 0 ≤ mix' ∧ mix' < 2147483647
  | [], n, mix, s0, s1, s2, s4, s5, om, lc, h => ⟨mix, s4, s5, by simp [enumD], h.1, h.2⟩
  | x :: xs, n, mix, s0, s1, s2, s4, s5, om, lc, h => by
    have m1 : smallMul mix 69069 = true := smul2 _ _ (by decide)
    have m2 : smallMul 5 (n : Int) = true := smul1 _ _ (by decide)
    generalize hm : (mix * 69069 + x + 5 * (n : Int) + 1) % 2147483629 = mix1
    have k1 : 0 ≤ mix1 := by rw [← hm]; exact Int.emod_nonneg _ (by decide)
    have k2 : mix1 < 2147483629 := by rw [← hm]; exact Int.emod_lt_of_pos _ (by decide)
    obtain ⟨mix', s4', s5', e, h1, h2⟩ := spring_loop xs (n + 1) mix1 s0 s1 s2 (.val (.int n)) (.val (.int x)) om lc ⟨k1, by omega⟩
    refine ⟨mix', s4', s5', ?_, h1, h2⟩
    simp [enumD, fFor, Tg.put, Ev.putAll, springBody, bop, resolveP, bInt, m1, m2, hm]
    exact e
theorem spring_ok (ns : List Int) (lc : Nat) (om : List Ob) (hl : ns.length ≤ 63) : ∃ a b, law_springF [scriptD ns, .int 0] ⟨[], om, lc⟩ = .ok (.own (Sp a b 0)) ⟨[], om, lc⟩ ∧ 0 ≤ b ∧ b < 2147483647 := by
  have hc : ∃ cell : Int, (fIf (fCmp .Lt (fz (fVar 1)) (fz (fBlt bLen (gNm 0 Ev.gNil)))) (fIdxV 0 (fz (fVar 1))) (fOp2 (bop .Add) (fz (fOp2 (bop .Mult) (fz (fCon (.int 7))) (fz (fVar 1)))) (fz (fBlt bLen (gNm 0 Ev.gNil))))) ⟨[.val (scriptD ns), .val (.int 0), .none, .none, .none, .none], om, lc⟩ = .ok (.val (.int cell)) ⟨[.val (scriptD ns), .val (.int 0), .none, .none, .none, .none], om, lc⟩ := by
    cases ns with
    | nil => exact ⟨0, by simp [scriptD, resolveP, bLen, cop, bop, smallMul]⟩
    | cons x xs =>
      have : decide ((0 : Int) < (xs.length : Int) + 1) = true := decide_eq_true (by omega)
      have h0 : ixN (xs.length + 1) 0 = some 0 := by unfold ixN; simp
      exact ⟨x, by simp [scriptD, resolveP, bLen, cop, bop, this, didx, L2.atI, h0]⟩
  obtain ⟨cell, hc⟩ := hc
  obtain ⟨mix, s4, s5, e, h1, h2⟩ := spring_loop ns 0 1009 (.val (scriptD ns)) (.val (.int 0)) (.val (.int cell)) .none .none om lc (by decide)
  refine ⟨if cell ≥ 10 ^ 18 then cell else 0, (mix + cell * 31) % 2147483647, ?_, Int.emod_nonneg _ (by decide), Int.emod_lt_of_pos _ (by decide)⟩
  have m1 : smallMul cell 31 = true := smul2 _ _ (by decide)
  have m2 : smallMul 97 0 = true := smul1 _ _ (by decide)
  have cut : Ev.cutD (ns.map D.int) none (some 63) = ns.map D.int := by
    have e1 : HT.sIx (ns.map D.int).length 0 none = 0 := rfl
    have e2 : HT.sIx (ns.map D.int).length (ns.map D.int).length (some 63) = (ns.map D.int).length := by
      have := HT.sIx_nat (ns.map D.int).length (ns.map D.int).length 63
      rw [show ((63 : Nat) : Int) = 63 from rfl] at this
      rw [this, List.length_map]; omega
    unfold Ev.cutD
    rw [e1, e2, List.drop_zero, Nat.sub_zero, List.take_length]
  have e1 : law_springB = (fSeq (fPar [2, 3] (hCons (fIf (fCmp .Lt (fz (fVar 1)) (fz (fBlt bLen (gNm 0 Ev.gNil)))) (fIdxV 0 (fz (fVar 1))) (fOp2 (bop .Add) (fz (fOp2 (bop .Mult) (fz (fCon (.int 7))) (fz (fVar 1)))) (fz (fBlt bLen (gNm 0 Ev.gNil))))) (hCons (fOp2 (bop .Add) (fz (fCon (.int 1009))) (fz (fOp2 (bop .Mult) (fz (fCon (.int 97))) (fz (fVar 1))))) hNil)))
    (fSeq (fForI (.tup [(.nm 4), (.nm 5)]) (fIts (fCons (fz (fSl (fz (fVar 0)) fNoPart (fPart (fz (fCon (.int 63)))))) fNil) enumOf) springBody)
    (fRet (fLst (fCons (fz (fIf (fCmp .GtE (fz (fVar 2)) (fz (fOp2 (bop .Pow) (fz (fCon (.int 10))) (fz (fCon (.int 18)))))) (fVar 2) (fCon (.int 0)))) (fCons (fz (fOp2 (bop .Mod) (fz (fBlt bInt (gEx (fz (fOp2 (bop .Add) (fz (fVar 3)) (fz (fOp2 (bop .Mult) (fz (fVar 2)) (fz (fCon (.int 31))))))) Ev.gNil))) (fz (fCon (.int 2147483647))))) (fCons (fz (fCon (.int 0))) fNil)))))) ) := rfl
  have sl : (3 : Nat) ≤ sizeLine := by rw [sizeLine_eq]; decide
  have v : (scriptD ns).view = .lst (ns.map D.int) := rfl
  rw [ev_fIf] at hc
  simp only [law_springF, ev_fRun, e1, ev_fSeq, ev_fPar, ev_hCons, ev_fIf, List.map_cons, List.map_nil, List.length_cons, List.length_nil]
  simp only [List.cons_append, List.nil_append]
  rw [show List.replicate (6 - (0 + 1 + 1)) Slot.none = [.none, .none, .none, .none] from rfl, hc]
  by_cases hg : cell ≥ 10 ^ 18
  · have hg' : (1000000000000000000 : Int) ≤ cell := hg
    simp [bop, m1, m2, putRs, dsl, v, cut, enumOf, e, cop, hg, hg', resolveP, bInt, sl]
  · have hg' : ¬ (1000000000000000000 : Int) ≤ cell := hg
    simp [bop, m1, m2, putRs, dsl, v, cut, enumOf, e, cop, hg, hg', resolveP, bInt, sl]
end K09
namespace K09
open PySem L2 Ev
theorem same_int (n : Nat) (i : Int) (om : List Ob) (lc : Nat) : law_sameF (n + 1) [.int i, .int i] ⟨[], om, lc⟩ = .ok (.val (.bl true)) ⟨[], om, lc⟩ := by
  simp [law_sameF, law_sameB, subTy, truth]
def sameE (rec : Ev.Fun) : SS → Out D := fz (fCallX false rec (gNm 3 (gNm 4 Ev.gNil)))
theorem same_loop (n : Nat) (om : List Ob) (lc : Nat) (s0 s1 s2 : Slot) : ∀ (is : List Int) (acc : List D),
    lcLoop (.tup [.nm 3, .nm 4]) [3, 4] fYes (sameE (law_sameF (n + 1))) (zipD (is.map D.int) (is.map D.int)) acc ⟨[s0, s1, s2, .none, .none], om, lc⟩ = .ok (acc ++ is.map fun _ => .bl true) ⟨[s0, s1, s2, .none, .none], om, lc⟩
  | [], acc => by simp [zipD, lcLoop]
  | i :: is, acc => by
    have ih := same_loop n om lc s0 s1 s2 is (acc ++ [.bl true])
    have e : sameE (law_sameF (n + 1)) ⟨[s0, s1, s2, .val (.int i), .val (.int i)], om, lc⟩ = .ok (.bl true) ⟨[s0, s1, s2, .val (.int i), .val (.int i)], om, lc⟩ := by
      simp [sameE, resolve, Ev.callWith, same_int, frzArgs]
    simp [zipD, lcLoop, Tg.put, Ev.putAll, e, SS.wipe]
    simpa using ih
theorem bls_true (is : List Int) : blsOf (is.map fun _ => D.bl true) = some (is.map fun _ => true) := by
  induction is with
  | nil => rfl
  | cons i is ih => simp [blsOf, ih]
theorem same_list (n : Nat) (is : List Int) (om : List Ob) (lc : Nat) (hl : is.length ≤ 1000) : law_sameF (n + 2) [.lst (is.map D.int), .lst (is.map D.int)] ⟨[], om, lc⟩ = .ok (.val (.bl true)) ⟨[], om, lc⟩ := by
  have e := same_loop n om lc (.val (.lst (is.map D.int))) (.val (.lst (is.map D.int))) .none is []
  have hs : (zipD (is.map D.int) (is.map D.int)).length ≤ sizeLine := by rw [sizeLine_eq, zipD_len]; simp; omega
  have h1 : lcRun (.tup [.nm 3, .nm 4]) [3, 4] fYes (sameE (law_sameF (n + 1))) (zipD (is.map D.int) (is.map D.int)) ⟨[.val (.lst (is.map D.int)), .val (.lst (is.map D.int)), .none, .none, .none], om, lc⟩ = .ok (.own (.lst (is.map fun _ => .bl true))) ⟨[.val (.lst (is.map D.int)), .val (.lst (is.map D.int)), .none, .none, .none], om, lc⟩ := by
    unfold lcRun
    rw [if_pos ⟨rfl, hs⟩]
    have e2 : ((⟨[.val (.lst (is.map D.int)), .val (.lst (is.map D.int)), .none, .none, .none], om, lc⟩ : SS).wipe [3, 4]) = ⟨[.val (.lst (is.map D.int)), .val (.lst (is.map D.int)), .none, .none, .none], om, lc⟩ := rfl
    rw [e2, e]
    rfl
  have u : sameE (law_sameF (n + 1)) = fz (fCallX false (law_sameF (n + 1)) (gNm 3 (gNm 4 Ev.gNil))) := rfl
  rw [u] at h1
  have sF : law_sameF (n + 2) = fRun 5 (law_sameB (law_sameF (n + 1))) := rfl
  simp [sF, law_sameB, subTy, resolveP, bLen, zipOf, h1, bAll, bls_true]
end K09
namespace K09
open PySem L2 Ev
abbrev St (ns : List Int) (x2 x3 x4 x5 x6 x7 : Slot) (a b c : Int) (lc : Nat) : SS := ⟨[.val (scriptD ns), .val (.ref 0), x2, x3, x4, x5, x6, x7, .none, .none, .none, .none, .none], [Sp a b c], lc⟩
def toldS : SS → Out Fl := (fSet 5 (fLst (fCons (fz (fCallX true plusF (gNm 2 (gNm 3 (gNm 4 Ev.gNil))))) (fCons (fz (fCallX true byF (gNm 2 (gNm 3 (gNm 4 Ev.gNil))))) (fCons (fz (fCallKX true plusF [2, 1, 0] (gNm 4 (gNm 3 (gNm 2 Ev.gNil))))) (fCons (fz (fCallKX true byF [2, 1, 0] (gNm 4 (gNm 3 (gNm 2 Ev.gNil))))) fNil))))))
def sameS : SS → Out Fl := (fIfS (fNot (fTru (fz (fCallX true (law_sameF 6) (gNm 5 (gEx (fz (fOp2 (bop .Mult) (fz (fLst (fCons (fz (fCallX true law_f_plusF (gNm 2 (gNm 3 (gNm 4 Ev.gNil))))) (fCons (fz (fCallX true law_f_byF (gNm 2 (gNm 3 (gNm 4 Ev.gNil))))) fNil)))) (fz (fCon (.int 2))))) Ev.gNil))))))
  (fRet (fCon (.bl false)))
  fNext)
def thirdI : SS → Out (List D) := (fIter (fz (fLst (fCons (fz (fCallX true law_drawF (gNm 1 (gNm 2 Ev.gNil)))) (fCons (fz (fCallX true law_drawF (gNm 1 (gNm 2 Ev.gNil)))) fNil)))))
def thirdB : SS → Out Fl := (fIfS (fOr (fCmp .NotEq (fz (fCallX true byF (gNm 2 (gNm 3 (gEx (fz (fCallX true plusF (gNm 2 (gNm 4 (gNm 6 Ev.gNil))))) Ev.gNil))))) (fz (fCallX true plusF (gNm 2 (gEx (fz (fCallX true byF (gNm 2 (gNm 3 (gNm 4 Ev.gNil))))) (gEx (fz (fCallX true byF (gNm 2 (gNm 3 (gNm 6 Ev.gNil))))) Ev.gNil)))))) (fCmp .NotEq (fz (fCallX true byF (gNm 2 (gEx (fz (fCallX true byF (gNm 2 (gNm 3 (gNm 4 Ev.gNil))))) (gNm 6 Ev.gNil))))) (fz (fCallX true byF (gNm 2 (gNm 3 (gEx (fz (fCallX true byF (gNm 2 (gNm 4 (gNm 6 Ev.gNil))))) Ev.gNil)))))))
  (fRet (fCon (.bl false)))
  fNext)
def dueS : SS → Out Fl := (fSeq (fSet 7 (fIdx (fz (fLc (.nm 4) [4] (fIts (fCons (fz (fVar 2)) fNil) rng1) (fCmp .Eq (fz (fCallX true law_f_plusF (gNm 2 (gNm 3 (gNm 4 Ev.gNil))))) (fz (fCon (.int 0)))) (fz (fVar 4)))) (fz (fCon (.int 0)))))
  (fSeq (fIfS (fNot (fTru (fz (fCallX true (law_sameF 6) (gEx (fz (fLst (fCons (fz (fCallX true minusF (gNm 2 (gNm 3 Ev.gNil)))) (fCons (fz (fCallKX true minusF [1, 0] (gNm 3 (gNm 2 Ev.gNil)))) fNil)))) (gEx (fz (fLst (fCons (fz (fVar 7)) (fCons (fz (fVar 7)) fNil)))) Ev.gNil))))))
  (fRet (fCon (.bl false)))
  fNext)
  (fIfS (fCmp .Gt (fz (fVar 3)) (fz (fCon (.int 0))))
  (fSeq (fSet 7 (fIdx (fz (fLc (.nm 4) [4] (fIts (fCons (fz (fVar 2)) fNil) rng1) (fCmp .Eq (fz (fCallX true law_f_byF (gNm 2 (gNm 3 (gNm 4 Ev.gNil))))) (fz (fCon (.int 1)))) (fz (fVar 4)))) (fz (fCon (.int 0)))))
  (fIfS (fNot (fTru (fz (fCallX true (law_sameF 6) (gEx (fz (fLst (fCons (fz (fCallX true overF (gNm 2 (gNm 3 Ev.gNil)))) (fCons (fz (fCallKX true overF [1, 0] (gNm 3 (gNm 2 Ev.gNil)))) fNil)))) (gEx (fz (fLst (fCons (fz (fVar 7)) (fCons (fz (fVar 7)) fNil)))) Ev.gNil))))))
  (fRet (fCon (.bl false)))
  fNext))
  fNext)))
def refS : SS → Out Fl := (fIfS (fNot (fTru (fz (fCallX true law_f_refusedF (gNm 2 Ev.gNil)))))
  (fRet (fCon (.bl false)))
  fNext)
def bodyO : SS → Out Fl := fSeq toldS (fSeq sameS (fForI (.nm 6) thirdI thirdB))
def bodyN : SS → Out Fl := fSeq (fForI (.nm 4) (fIts (fCons (fz (fVar 2)) fNil) rng1) bodyO) dueS
def bodyQ : SS → Out Fl := fSeq (fForI (.nm 3) (fIts (fCons (fz (fVar 2)) fNil) rng1) bodyN) refS
def sizesI : SS → Out (List D) := (fIter (fz (fCallX true law_mixedF (gNm 1 (gEx (fz (fLst (fCons (fz (fCon (.int 2))) (fCons (fz (fCon (.int 3))) (fCons (fz (fCon (.int 4))) (fCons (fz (fCon (.int 5))) (fCons (fz (fCon (.int 7))) (fCons (fz (fCon (.int 8))) (fCons (fz (fCon (.int 9))) fNil))))))))) Ev.gNil)))))
def endS : SS → Out Fl := match lawB with
  | _ => (fSeq (fForI (.lb 8) (fIter (fz (fLst (fCons (fz (fCon (.int 0))) (fCons (fz (fCon (.int 1))) (fCons (fz (fCon (.int 6))) (fCons (fz (fCon (.int 10))) (fCons (fz (fNeg (fz (fCon (.int 2))))) (fCons (fz (fCon .non)) (fCons (fz (fCon (.bl true))) (fCons (fz (fCon (.str "2"))) (fCons (fz (fLst (fCons (fz (fCon (.int 2))) fNil))) (fCons (fz (fOp2 (bop .Pow) (fz (fCon (.int 10))) (fz (fCon (.int 20))))) fNil)))))))))))))
  (fSeq (fSet 9 (fLst (fCons (fz (fLam 7)) fNil)))
  (fSeq (fDrop (fMth 9 mAppend (fCons (fz (fLam 8)) fNil)))
  (fSeq (fDrop (fMth 9 mAppend (fCons (fz (fLam 9)) fNil)))
  (fSeq (fDrop (fMth 9 mAppend (fCons (fz (fLam 10)) fNil)))
  (fForN 9 (.nm 10)
  (fSeq (fUnp (.tup [(.nm 11), (.nm 12)]) (fz (fCallC mine_law caps law_f_metF (gNm 10 Ev.gNil))))
  (fIfS (fOr (fCmp .NotEq (fz (fVar 11)) (fz (fCon (.str "field")))) (fNot (fTru (fz (fCallX true law_veryF (gNm 12 (gNm 8 Ev.gNil)))))))
  (fRet (fCon (.bl false)))
  fNext))))))))
  (fRet (toV (fCmp .Eq (fz (fLst (fCons (fz (fCallX true byF (gEx (fz (fCon (.int 4))) (gEx (fz (fCon (.int 2))) (gEx (fz (fCon (.int 3))) Ev.gNil))))) (fCons (fz (fCallX true byF (gEx (fz (fCon (.int 8))) (gEx (fz (fCon (.int 4))) (gEx (fz (fCon (.int 2))) Ev.gNil))))) (fCons (fz (fCallX true byF (gEx (fz (fCon (.int 9))) (gEx (fz (fCon (.int 3))) (gEx (fz (fCon (.int 3))) Ev.gNil))))) (fCons (fz (fCallX true plusF (gEx (fz (fCon (.int 9))) (gEx (fz (fCon (.int 8))) (gEx (fz (fCon (.int 8))) Ev.gNil))))) fNil)))))) (fz (fLst (fCons (fz (fCon (.int 1))) (fCons (fz (fCon (.int 3))) (fCons (fz (fCon (.int 2))) (fCons (fz (fCon (.int 4))) fNil))))))))))
theorem lawB_eq : lawB = fSeq (fSetRef 1 (fCallX true law_springF (gNm 0 (gEx (fz (fCon (.int 0))) Ev.gNil)))) (fSeq (fForI (.nm 2) sizesI bodyQ) endS) := rfl
end K09
namespace K09
open PySem L2 Ev
/-! ### the fields' tables -/
def tP (q : Int) : List Nat :=
  if q = 2 then [0, 1, 1, 0] else
  if q = 3 then [0, 1, 2, 1, 2, 0, 2, 0, 1] else
  if q = 4 then [0, 1, 2, 3, 1, 0, 3, 2, 2, 3, 0, 1, 3, 2, 1, 0] else
  if q = 5 then [0, 1, 2, 3, 4, 1, 2, 3, 4, 0, 2, 3, 4, 0, 1, 3, 4, 0, 1, 2, 4, 0, 1, 2, 3] else
  if q = 7 then [0, 1, 2, 3, 4, 5, 6, 1, 2, 3, 4, 5, 6, 0, 2, 3, 4, 5, 6, 0, 1, 3, 4, 5, 6, 0, 1, 2, 4, 5, 6, 0, 1, 2, 3, 5, 6, 0, 1, 2, 3, 4, 6, 0, 1, 2, 3, 4, 5] else
  if q = 8 then [0, 1, 2, 3, 4, 5, 6, 7, 1, 0, 3, 2, 5, 4, 7, 6, 2, 3, 0, 1, 6, 7, 4, 5, 3, 2, 1, 0, 7, 6, 5, 4, 4, 5, 6, 7, 0, 1, 2, 3, 5, 4, 7, 6, 1, 0, 3, 2, 6, 7, 4, 5, 2, 3, 0, 1, 7, 6, 5, 4, 3, 2, 1, 0] else
  if q = 9 then [0, 1, 2, 3, 4, 5, 6, 7, 8, 1, 2, 0, 4, 5, 3, 7, 8, 6, 2, 0, 1, 5, 3, 4, 8, 6, 7, 3, 4, 5, 6, 7, 8, 0, 1, 2, 4, 5, 3, 7, 8, 6, 1, 2, 0, 5, 3, 4, 8, 6, 7, 2, 0, 1, 6, 7, 8, 0, 1, 2, 3, 4, 5, 7, 8, 6, 1, 2, 0, 4, 5, 3, 8, 6, 7, 2, 0, 1, 5, 3, 4] else
  []
def tB (q : Int) : List Nat :=
  if q = 2 then [0, 0, 0, 1] else
  if q = 3 then [0, 0, 0, 0, 1, 2, 0, 2, 1] else
  if q = 4 then [0, 0, 0, 0, 0, 1, 2, 3, 0, 2, 3, 1, 0, 3, 1, 2] else
  if q = 5 then [0, 0, 0, 0, 0, 0, 1, 2, 3, 4, 0, 2, 4, 1, 3, 0, 3, 1, 4, 2, 0, 4, 3, 2, 1] else
  if q = 7 then [0, 0, 0, 0, 0, 0, 0, 0, 1, 2, 3, 4, 5, 6, 0, 2, 4, 6, 1, 3, 5, 0, 3, 6, 2, 5, 1, 4, 0, 4, 1, 5, 2, 6, 3, 0, 5, 3, 1, 6, 4, 2, 0, 6, 5, 4, 3, 2, 1] else
  if q = 8 then [0, 0, 0, 0, 0, 0, 0, 0, 0, 1, 2, 3, 4, 5, 6, 7, 0, 2, 4, 6, 3, 1, 7, 5, 0, 3, 6, 5, 7, 4, 1, 2, 0, 4, 3, 7, 6, 2, 5, 1, 0, 5, 1, 4, 2, 7, 3, 6, 0, 6, 7, 1, 5, 3, 2, 4, 0, 7, 5, 2, 1, 6, 4, 3] else
  if q = 9 then [0, 0, 0, 0, 0, 0, 0, 0, 0, 0, 1, 2, 3, 4, 5, 6, 7, 8, 0, 2, 1, 6, 8, 7, 3, 5, 4, 0, 3, 6, 2, 5, 8, 1, 4, 7, 0, 4, 8, 5, 6, 1, 7, 2, 3, 0, 5, 7, 8, 1, 3, 4, 6, 2, 0, 6, 3, 1, 7, 4, 2, 8, 5, 0, 7, 5, 4, 2, 6, 8, 3, 1, 0, 8, 4, 7, 3, 2, 5, 1, 6] else
  []
def fP (q x y : Int) : Int := Int.ofNat ((tP q).getD (x * q + y).toNat 0)
def fB (q x y : Int) : Int := Int.ofNat ((tB q).getD (x * q + y).toNat 0)
def qs : List Int := [2, 3, 4, 5, 7, 8, 9]
def upTo (q : Int) : List Int := (List.range q.toNat).map Int.ofNat
def L2s : List (Int × Int) := qs.flatMap fun q => (upTo q).map fun x => (q, x)
def L3q (q : Int) : List (Int × Int) := (upTo q).flatMap fun x => (upTo q).map fun y => (x, y)
def L3s : List (Int × Int × Int) := qs.flatMap fun q => (upTo q).flatMap fun x => (upTo q).map fun y => (q, x, y)
theorem t_plus2 (a b c : Int) (lc : Nat) : ((L3q 2).map fun t => plusF [.int 2, .int t.1, .int t.2] ⟨[], [Sp a b c], lc⟩) = (L3q 2).map fun t => .ok (.val (.int (fP 2 t.1 t.2))) ⟨[], [Sp a b c], lc⟩ := by kernel_rfl!
theorem t_plus3 (a b c : Int) (lc : Nat) : ((L3q 3).map fun t => plusF [.int 3, .int t.1, .int t.2] ⟨[], [Sp a b c], lc⟩) = (L3q 3).map fun t => .ok (.val (.int (fP 3 t.1 t.2))) ⟨[], [Sp a b c], lc⟩ := by kernel_rfl!
theorem t_plus4 (a b c : Int) (lc : Nat) : ((L3q 4).map fun t => plusF [.int 4, .int t.1, .int t.2] ⟨[], [Sp a b c], lc⟩) = (L3q 4).map fun t => .ok (.val (.int (fP 4 t.1 t.2))) ⟨[], [Sp a b c], lc⟩ := by kernel_rfl!
theorem t_plus5 (a b c : Int) (lc : Nat) : ((L3q 5).map fun t => plusF [.int 5, .int t.1, .int t.2] ⟨[], [Sp a b c], lc⟩) = (L3q 5).map fun t => .ok (.val (.int (fP 5 t.1 t.2))) ⟨[], [Sp a b c], lc⟩ := by kernel_rfl!
theorem t_plus7 (a b c : Int) (lc : Nat) : ((L3q 7).map fun t => plusF [.int 7, .int t.1, .int t.2] ⟨[], [Sp a b c], lc⟩) = (L3q 7).map fun t => .ok (.val (.int (fP 7 t.1 t.2))) ⟨[], [Sp a b c], lc⟩ := by kernel_rfl!
theorem t_plus8 (a b c : Int) (lc : Nat) : ((L3q 8).map fun t => plusF [.int 8, .int t.1, .int t.2] ⟨[], [Sp a b c], lc⟩) = (L3q 8).map fun t => .ok (.val (.int (fP 8 t.1 t.2))) ⟨[], [Sp a b c], lc⟩ := by kernel_rfl!
theorem t_plus9 (a b c : Int) (lc : Nat) : ((L3q 9).map fun t => plusF [.int 9, .int t.1, .int t.2] ⟨[], [Sp a b c], lc⟩) = (L3q 9).map fun t => .ok (.val (.int (fP 9 t.1 t.2))) ⟨[], [Sp a b c], lc⟩ := by kernel_rfl!
theorem t_by2 (a b c : Int) (lc : Nat) : ((L3q 2).map fun t => byF [.int 2, .int t.1, .int t.2] ⟨[], [Sp a b c], lc⟩) = (L3q 2).map fun t => .ok (.val (.int (fB 2 t.1 t.2))) ⟨[], [Sp a b c], lc⟩ := by kernel_rfl!
theorem t_by3 (a b c : Int) (lc : Nat) : ((L3q 3).map fun t => byF [.int 3, .int t.1, .int t.2] ⟨[], [Sp a b c], lc⟩) = (L3q 3).map fun t => .ok (.val (.int (fB 3 t.1 t.2))) ⟨[], [Sp a b c], lc⟩ := by kernel_rfl!
theorem t_by4 (a b c : Int) (lc : Nat) : ((L3q 4).map fun t => byF [.int 4, .int t.1, .int t.2] ⟨[], [Sp a b c], lc⟩) = (L3q 4).map fun t => .ok (.val (.int (fB 4 t.1 t.2))) ⟨[], [Sp a b c], lc⟩ := by kernel_rfl!
theorem t_by5 (a b c : Int) (lc : Nat) : ((L3q 5).map fun t => byF [.int 5, .int t.1, .int t.2] ⟨[], [Sp a b c], lc⟩) = (L3q 5).map fun t => .ok (.val (.int (fB 5 t.1 t.2))) ⟨[], [Sp a b c], lc⟩ := by kernel_rfl!
theorem t_by7 (a b c : Int) (lc : Nat) : ((L3q 7).map fun t => byF [.int 7, .int t.1, .int t.2] ⟨[], [Sp a b c], lc⟩) = (L3q 7).map fun t => .ok (.val (.int (fB 7 t.1 t.2))) ⟨[], [Sp a b c], lc⟩ := by kernel_rfl!
theorem t_by8 (a b c : Int) (lc : Nat) : ((L3q 8).map fun t => byF [.int 8, .int t.1, .int t.2] ⟨[], [Sp a b c], lc⟩) = (L3q 8).map fun t => .ok (.val (.int (fB 8 t.1 t.2))) ⟨[], [Sp a b c], lc⟩ := by kernel_rfl!
theorem t_by9 (a b c : Int) (lc : Nat) : ((L3q 9).map fun t => byF [.int 9, .int t.1, .int t.2] ⟨[], [Sp a b c], lc⟩) = (L3q 9).map fun t => .ok (.val (.int (fB 9 t.1 t.2))) ⟨[], [Sp a b c], lc⟩ := by kernel_rfl!
theorem t_lplus2 (a b c : Int) (lc : Nat) : ((L3q 2).map fun t => law_f_plusF [.int 2, .int t.1, .int t.2] ⟨[], [Sp a b c], lc⟩) = (L3q 2).map fun t => .ok (.val (.int (fP 2 t.1 t.2))) ⟨[], [Sp a b c], lc⟩ := by kernel_rfl!
theorem t_lplus3 (a b c : Int) (lc : Nat) : ((L3q 3).map fun t => law_f_plusF [.int 3, .int t.1, .int t.2] ⟨[], [Sp a b c], lc⟩) = (L3q 3).map fun t => .ok (.val (.int (fP 3 t.1 t.2))) ⟨[], [Sp a b c], lc⟩ := by kernel_rfl!
theorem t_lplus4 (a b c : Int) (lc : Nat) : ((L3q 4).map fun t => law_f_plusF [.int 4, .int t.1, .int t.2] ⟨[], [Sp a b c], lc⟩) = (L3q 4).map fun t => .ok (.val (.int (fP 4 t.1 t.2))) ⟨[], [Sp a b c], lc⟩ := by kernel_rfl!
theorem t_lplus5 (a b c : Int) (lc : Nat) : ((L3q 5).map fun t => law_f_plusF [.int 5, .int t.1, .int t.2] ⟨[], [Sp a b c], lc⟩) = (L3q 5).map fun t => .ok (.val (.int (fP 5 t.1 t.2))) ⟨[], [Sp a b c], lc⟩ := by kernel_rfl!
theorem t_lplus7 (a b c : Int) (lc : Nat) : ((L3q 7).map fun t => law_f_plusF [.int 7, .int t.1, .int t.2] ⟨[], [Sp a b c], lc⟩) = (L3q 7).map fun t => .ok (.val (.int (fP 7 t.1 t.2))) ⟨[], [Sp a b c], lc⟩ := by kernel_rfl!
theorem t_lplus8 (a b c : Int) (lc : Nat) : ((L3q 8).map fun t => law_f_plusF [.int 8, .int t.1, .int t.2] ⟨[], [Sp a b c], lc⟩) = (L3q 8).map fun t => .ok (.val (.int (fP 8 t.1 t.2))) ⟨[], [Sp a b c], lc⟩ := by kernel_rfl!
theorem t_lplus9 (a b c : Int) (lc : Nat) : ((L3q 9).map fun t => law_f_plusF [.int 9, .int t.1, .int t.2] ⟨[], [Sp a b c], lc⟩) = (L3q 9).map fun t => .ok (.val (.int (fP 9 t.1 t.2))) ⟨[], [Sp a b c], lc⟩ := by kernel_rfl!
theorem t_lby2 (a b c : Int) (lc : Nat) : ((L3q 2).map fun t => law_f_byF [.int 2, .int t.1, .int t.2] ⟨[], [Sp a b c], lc⟩) = (L3q 2).map fun t => .ok (.val (.int (fB 2 t.1 t.2))) ⟨[], [Sp a b c], lc⟩ := by kernel_rfl!
theorem t_lby3 (a b c : Int) (lc : Nat) : ((L3q 3).map fun t => law_f_byF [.int 3, .int t.1, .int t.2] ⟨[], [Sp a b c], lc⟩) = (L3q 3).map fun t => .ok (.val (.int (fB 3 t.1 t.2))) ⟨[], [Sp a b c], lc⟩ := by kernel_rfl!
theorem t_lby4 (a b c : Int) (lc : Nat) : ((L3q 4).map fun t => law_f_byF [.int 4, .int t.1, .int t.2] ⟨[], [Sp a b c], lc⟩) = (L3q 4).map fun t => .ok (.val (.int (fB 4 t.1 t.2))) ⟨[], [Sp a b c], lc⟩ := by kernel_rfl!
theorem t_lby5 (a b c : Int) (lc : Nat) : ((L3q 5).map fun t => law_f_byF [.int 5, .int t.1, .int t.2] ⟨[], [Sp a b c], lc⟩) = (L3q 5).map fun t => .ok (.val (.int (fB 5 t.1 t.2))) ⟨[], [Sp a b c], lc⟩ := by kernel_rfl!
theorem t_lby7 (a b c : Int) (lc : Nat) : ((L3q 7).map fun t => law_f_byF [.int 7, .int t.1, .int t.2] ⟨[], [Sp a b c], lc⟩) = (L3q 7).map fun t => .ok (.val (.int (fB 7 t.1 t.2))) ⟨[], [Sp a b c], lc⟩ := by kernel_rfl!
theorem t_lby8 (a b c : Int) (lc : Nat) : ((L3q 8).map fun t => law_f_byF [.int 8, .int t.1, .int t.2] ⟨[], [Sp a b c], lc⟩) = (L3q 8).map fun t => .ok (.val (.int (fB 8 t.1 t.2))) ⟨[], [Sp a b c], lc⟩ := by kernel_rfl!
theorem t_lby9 (a b c : Int) (lc : Nat) : ((L3q 9).map fun t => law_f_byF [.int 9, .int t.1, .int t.2] ⟨[], [Sp a b c], lc⟩) = (L3q 9).map fun t => .ok (.val (.int (fB 9 t.1 t.2))) ⟨[], [Sp a b c], lc⟩ := by kernel_rfl!
theorem t_minus2 (a b c : Int) (lc : Nat) : ((upTo 2).map fun x => minusF [.int 2, .int x] ⟨[], [Sp a b c], lc⟩) = (upTo 2).map fun x => .ok (.val (.int (Int.ofNat (([0, 1] : List Nat).getD x.toNat 0)))) ⟨[], [Sp a b c], lc⟩ := by kernel_rfl!
theorem t_over2 (a b c : Int) (lc : Nat) : ((upTo 2).tail.map fun x => overF [.int 2, .int x] ⟨[], [Sp a b c], lc⟩) = (upTo 2).tail.map fun x => .ok (.val (.int (Int.ofNat (([0, 1] : List Nat).getD x.toNat 0)))) ⟨[], [Sp a b c], lc⟩ := by kernel_rfl!
theorem t_minus3 (a b c : Int) (lc : Nat) : ((upTo 3).map fun x => minusF [.int 3, .int x] ⟨[], [Sp a b c], lc⟩) = (upTo 3).map fun x => .ok (.val (.int (Int.ofNat (([0, 2, 1] : List Nat).getD x.toNat 0)))) ⟨[], [Sp a b c], lc⟩ := by kernel_rfl!
theorem t_over3 (a b c : Int) (lc : Nat) : ((upTo 3).tail.map fun x => overF [.int 3, .int x] ⟨[], [Sp a b c], lc⟩) = (upTo 3).tail.map fun x => .ok (.val (.int (Int.ofNat (([0, 1, 2] : List Nat).getD x.toNat 0)))) ⟨[], [Sp a b c], lc⟩ := by kernel_rfl!
theorem t_minus4 (a b c : Int) (lc : Nat) : ((upTo 4).map fun x => minusF [.int 4, .int x] ⟨[], [Sp a b c], lc⟩) = (upTo 4).map fun x => .ok (.val (.int (Int.ofNat (([0, 1, 2, 3] : List Nat).getD x.toNat 0)))) ⟨[], [Sp a b c], lc⟩ := by kernel_rfl!
theorem t_over4 (a b c : Int) (lc : Nat) : ((upTo 4).tail.map fun x => overF [.int 4, .int x] ⟨[], [Sp a b c], lc⟩) = (upTo 4).tail.map fun x => .ok (.val (.int (Int.ofNat (([0, 1, 3, 2] : List Nat).getD x.toNat 0)))) ⟨[], [Sp a b c], lc⟩ := by kernel_rfl!
theorem t_minus5 (a b c : Int) (lc : Nat) : ((upTo 5).map fun x => minusF [.int 5, .int x] ⟨[], [Sp a b c], lc⟩) = (upTo 5).map fun x => .ok (.val (.int (Int.ofNat (([0, 4, 3, 2, 1] : List Nat).getD x.toNat 0)))) ⟨[], [Sp a b c], lc⟩ := by kernel_rfl!
theorem t_over5 (a b c : Int) (lc : Nat) : ((upTo 5).tail.map fun x => overF [.int 5, .int x] ⟨[], [Sp a b c], lc⟩) = (upTo 5).tail.map fun x => .ok (.val (.int (Int.ofNat (([0, 1, 3, 2, 4] : List Nat).getD x.toNat 0)))) ⟨[], [Sp a b c], lc⟩ := by kernel_rfl!
theorem t_minus7 (a b c : Int) (lc : Nat) : ((upTo 7).map fun x => minusF [.int 7, .int x] ⟨[], [Sp a b c], lc⟩) = (upTo 7).map fun x => .ok (.val (.int (Int.ofNat (([0, 6, 5, 4, 3, 2, 1] : List Nat).getD x.toNat 0)))) ⟨[], [Sp a b c], lc⟩ := by kernel_rfl!
theorem t_over7 (a b c : Int) (lc : Nat) : ((upTo 7).tail.map fun x => overF [.int 7, .int x] ⟨[], [Sp a b c], lc⟩) = (upTo 7).tail.map fun x => .ok (.val (.int (Int.ofNat (([0, 1, 4, 5, 2, 3, 6] : List Nat).getD x.toNat 0)))) ⟨[], [Sp a b c], lc⟩ := by kernel_rfl!
theorem t_minus8 (a b c : Int) (lc : Nat) : ((upTo 8).map fun x => minusF [.int 8, .int x] ⟨[], [Sp a b c], lc⟩) = (upTo 8).map fun x => .ok (.val (.int (Int.ofNat (([0, 1, 2, 3, 4, 5, 6, 7] : List Nat).getD x.toNat 0)))) ⟨[], [Sp a b c], lc⟩ := by kernel_rfl!
theorem t_over8 (a b c : Int) (lc : Nat) : ((upTo 8).tail.map fun x => overF [.int 8, .int x] ⟨[], [Sp a b c], lc⟩) = (upTo 8).tail.map fun x => .ok (.val (.int (Int.ofNat (([0, 1, 5, 6, 7, 2, 3, 4] : List Nat).getD x.toNat 0)))) ⟨[], [Sp a b c], lc⟩ := by kernel_rfl!
theorem t_minus9 (a b c : Int) (lc : Nat) : ((upTo 9).map fun x => minusF [.int 9, .int x] ⟨[], [Sp a b c], lc⟩) = (upTo 9).map fun x => .ok (.val (.int (Int.ofNat (([0, 2, 1, 6, 8, 7, 3, 5, 4] : List Nat).getD x.toNat 0)))) ⟨[], [Sp a b c], lc⟩ := by kernel_rfl!
theorem t_over9 (a b c : Int) (lc : Nat) : ((upTo 9).tail.map fun x => overF [.int 9, .int x] ⟨[], [Sp a b c], lc⟩) = (upTo 9).tail.map fun x => .ok (.val (.int (Int.ofNat (([0, 1, 2, 6, 5, 4, 3, 8, 7] : List Nat).getD x.toNat 0)))) ⟨[], [Sp a b c], lc⟩ := by kernel_rfl!
end K09
namespace K09
open PySem L2 Ev
theorem map_at {α β : Type} {f g : α → β} {l : List α} (h : l.map f = l.map g) : ∀ x ∈ l, f x = g x := List.map_inj_left.mp h
theorem mem_upTo {q x : Int} (h0 : 0 ≤ x) (h1 : x < q) : x ∈ upTo q := by
  unfold upTo
  exact List.mem_map.mpr ⟨x.toNat, List.mem_range.mpr (by omega), by simp; omega⟩
theorem of_upTo {q x : Int} (h : x ∈ upTo q) : 0 ≤ x ∧ x < q := by
  unfold upTo at h
  obtain ⟨n, hn, e⟩ := List.mem_map.mp h
  have := List.mem_range.mp hn
  subst e
  constructor
  · exact Int.natCast_nonneg n
  · show (n : Int) < q; omega
theorem mem_L3q {q x y : Int} (hx : 0 ≤ x ∧ x < q) (hy : 0 ≤ y ∧ y < q) : (x, y) ∈ L3q q := by
  unfold L3q
  exact List.mem_flatMap.mpr ⟨x, mem_upTo hx.1 hx.2, List.mem_map.mpr ⟨y, mem_upTo hy.1 hy.2, rfl⟩⟩
theorem qcases {q : Int} (h : q ∈ qs) : q = 2 ∨ q = 3 ∨ q = 4 ∨ q = 5 ∨ q = 7 ∨ q = 8 ∨ q = 9 := by
  simpa [qs] using h
section
variable {q x y : Int} (hq : q ∈ qs) (hx : 0 ≤ x ∧ x < q) (hy : 0 ≤ y ∧ y < q) (a b c : Int) (lc : Nat)
include hq hx hy
theorem plus_ok : plusF [.int q, .int x, .int y] ⟨[], [Sp a b c], lc⟩ = .ok (.val (.int (fP q x y))) ⟨[], [Sp a b c], lc⟩ := by
  have m := mem_L3q hx hy
  rcases qcases hq with e | e | e | e | e | e | e <;> subst e
  · have h := map_at (t_plus2 a b c lc) (x, y) m; exact h
  · have h := map_at (t_plus3 a b c lc) (x, y) m; exact h
  · have h := map_at (t_plus4 a b c lc) (x, y) m; exact h
  · have h := map_at (t_plus5 a b c lc) (x, y) m; exact h
  · have h := map_at (t_plus7 a b c lc) (x, y) m; exact h
  · have h := map_at (t_plus8 a b c lc) (x, y) m; exact h
  · have h := map_at (t_plus9 a b c lc) (x, y) m; exact h
theorem by_ok : byF [.int q, .int x, .int y] ⟨[], [Sp a b c], lc⟩ = .ok (.val (.int (fB q x y))) ⟨[], [Sp a b c], lc⟩ := by
  have m := mem_L3q hx hy
  rcases qcases hq with e | e | e | e | e | e | e <;> subst e
  · have h := map_at (t_by2 a b c lc) (x, y) m; exact h
  · have h := map_at (t_by3 a b c lc) (x, y) m; exact h
  · have h := map_at (t_by4 a b c lc) (x, y) m; exact h
  · have h := map_at (t_by5 a b c lc) (x, y) m; exact h
  · have h := map_at (t_by7 a b c lc) (x, y) m; exact h
  · have h := map_at (t_by8 a b c lc) (x, y) m; exact h
  · have h := map_at (t_by9 a b c lc) (x, y) m; exact h
theorem lplus_ok : law_f_plusF [.int q, .int x, .int y] ⟨[], [Sp a b c], lc⟩ = .ok (.val (.int (fP q x y))) ⟨[], [Sp a b c], lc⟩ := by
  have m := mem_L3q hx hy
  rcases qcases hq with e | e | e | e | e | e | e <;> subst e
  · have h := map_at (t_lplus2 a b c lc) (x, y) m; exact h
  · have h := map_at (t_lplus3 a b c lc) (x, y) m; exact h
  · have h := map_at (t_lplus4 a b c lc) (x, y) m; exact h
  · have h := map_at (t_lplus5 a b c lc) (x, y) m; exact h
  · have h := map_at (t_lplus7 a b c lc) (x, y) m; exact h
  · have h := map_at (t_lplus8 a b c lc) (x, y) m; exact h
  · have h := map_at (t_lplus9 a b c lc) (x, y) m; exact h
theorem lby_ok : law_f_byF [.int q, .int x, .int y] ⟨[], [Sp a b c], lc⟩ = .ok (.val (.int (fB q x y))) ⟨[], [Sp a b c], lc⟩ := by
  have m := mem_L3q hx hy
  rcases qcases hq with e | e | e | e | e | e | e <;> subst e
  · have h := map_at (t_lby2 a b c lc) (x, y) m; exact h
  · have h := map_at (t_lby3 a b c lc) (x, y) m; exact h
  · have h := map_at (t_lby4 a b c lc) (x, y) m; exact h
  · have h := map_at (t_lby5 a b c lc) (x, y) m; exact h
  · have h := map_at (t_lby7 a b c lc) (x, y) m; exact h
  · have h := map_at (t_lby8 a b c lc) (x, y) m; exact h
  · have h := map_at (t_lby9 a b c lc) (x, y) m; exact h
end
/-! ### plain facts of the tables -/
theorem fld1 : (qs.all fun q => (upTo q).all fun x => (upTo q).all fun y => decide (0 ≤ fP q x y ∧ fP q x y < q) && decide (0 ≤ fB q x y ∧ fB q x y < q)) = true := by decide +kernel
theorem fld2 : (qs.all fun q => (upTo q).all fun x => (upTo q).all fun y => (upTo q).all fun z => fB q x (fP q y z) == fP q (fB q x y) (fB q x z) && fB q (fB q x y) z == fB q x (fB q y z)) = true := by decide +kernel
section
variable {q x y : Int} (hq : q ∈ qs) (hx : 0 ≤ x ∧ x < q) (hy : 0 ≤ y ∧ y < q)
include hq hx hy
theorem fP_lt : 0 ≤ fP q x y ∧ fP q x y < q := by
  have h := List.all_eq_true.mp (List.all_eq_true.mp (List.all_eq_true.mp fld1 q hq) x (mem_upTo hx.1 hx.2)) y (mem_upTo hy.1 hy.2)
  simp only [Bool.and_eq_true, decide_eq_true_eq] at h
  exact h.1
theorem fB_lt : 0 ≤ fB q x y ∧ fB q x y < q := by
  have h := List.all_eq_true.mp (List.all_eq_true.mp (List.all_eq_true.mp fld1 q hq) x (mem_upTo hx.1 hx.2)) y (mem_upTo hy.1 hy.2)
  simp only [Bool.and_eq_true, decide_eq_true_eq] at h
  exact h.2
theorem f_laws {z : Int} (hz : 0 ≤ z ∧ z < q) : fB q x (fP q y z) = fP q (fB q x y) (fB q x z) ∧ fB q (fB q x y) z = fB q x (fB q y z) := by
  have h := List.all_eq_true.mp (List.all_eq_true.mp (List.all_eq_true.mp (List.all_eq_true.mp fld2 q hq) x (mem_upTo hx.1 hx.2)) y (mem_upTo hy.1 hy.2)) z (mem_upTo hz.1 hz.2)
  simp only [Bool.and_eq_true, beq_iff_eq] at h
  exact h
end
end K09
namespace K09
open PySem L2 Ev
theorem sl10 : (10 : Nat) ≤ sizeLine := by rw [sizeLine_eq]; decide
theorem draw_at (a b c q : Int) (lc : Nat) (hq : q ∈ qs) (hb : 0 ≤ b ∧ b < 2147483647) (hc : 0 ≤ c ∧ c < 1000000) :
    ∃ a' c' r, law_drawF [.ref 0, .int q] ⟨[], [Sp a b c], lc⟩ = .ok (.val (.int r)) ⟨[], [Sp a' b c'], lc⟩ ∧ (0 ≤ r ∧ r < q) ∧ 0 ≤ c' ∧ c' ≤ c + 1 := by
  have h1 : 0 < q ∧ q < 10 := by rcases qcases hq with e | e | e | e | e | e | e <;> subst e <;> decide
  obtain ⟨a', c', r, e, r1, r2, k⟩ := draw_ok a b c q lc h1.1 (log2_small (by omega)) hb hc
  exact ⟨a', c', r, e, ⟨r1, r2⟩, k⟩
section
variable {q x y : Int} (hq : q ∈ qs) (hx : 0 ≤ x ∧ x < q) (hy : 0 ≤ y ∧ y < q) (ns : List Int) (x5 x6 x7 : Ev.Slot) (a b c : Int) (lc : Nat)
include hq hx hy
theorem told_ok : toldS (St ns (.val (.int q)) (.val (.int x)) (.val (.int y)) x5 x6 x7 a b c lc) = .ok .nx (St ns (.val (.int q)) (.val (.int x)) (.val (.int y)) (.own (.lst [.int (fP q x y), .int (fB q x y), .int (fP q x y), .int (fB q x y)])) x6 x7 a b c lc) := by
  have h1 := plus_ok hq hx hy a b c lc
  have h2 := by_ok hq hx hy a b c lc
  have s4 : (4 : Nat) ≤ sizeLine := Nat.le_trans (by decide) sl10
  simp [toldS, resolve, noFns, noFn, Ev.callWith, h1, h2, permL, s4]
theorem same_ok : sameS (St ns (.val (.int q)) (.val (.int x)) (.val (.int y)) (.own (.lst [.int (fP q x y), .int (fB q x y), .int (fP q x y), .int (fB q x y)])) x6 x7 a b c lc) = .ok .nx (St ns (.val (.int q)) (.val (.int x)) (.val (.int y)) (.own (.lst [.int (fP q x y), .int (fB q x y), .int (fP q x y), .int (fB q x y)])) x6 x7 a b c lc) := by
  have h1 := lplus_ok hq hx hy a b c lc
  have h2 := lby_ok hq hx hy a b c lc
  have s2 : (2 : Nat) ≤ sizeLine := Nat.le_trans (by decide) sl10
  have s4 : (4 : Nat) ≤ sizeLine := Nat.le_trans (by decide) sl10
  have h3 := same_list 4 [fP q x y, fB q x y, fP q x y, fB q x y] [Sp a b c] lc (by simp)
  simp only [List.map_cons, List.map_nil] at h3
  simp [sameS, resolve, noFns, noFn, Ev.callWith, h1, h2, s2, bop, D.isRo, s4, h3]
theorem thirdB_ok {z : Int} (hz : 0 ≤ z ∧ z < q) : thirdB (St ns (.val (.int q)) (.val (.int x)) (.val (.int y)) x5 (.val (.int z)) x7 a b c lc) = .ok .nx (St ns (.val (.int q)) (.val (.int x)) (.val (.int y)) x5 (.val (.int z)) x7 a b c lc) := by
  have h1 := plus_ok hq hy hz a b c lc
  have h2 := by_ok hq hx (fP_lt hq hy hz) a b c lc
  have h3 := by_ok hq hx hy a b c lc
  have h4 := by_ok hq hx hz a b c lc
  have h5 := plus_ok hq (fB_lt hq hx hy) (fB_lt hq hx hz) a b c lc
  have h6 := by_ok hq (fB_lt hq hx hy) hz a b c lc
  have h7 := by_ok hq hy hz a b c lc
  have h8 := by_ok hq hx (fB_lt hq hy hz) a b c lc
  obtain ⟨k1, k2⟩ := f_laws hq hx hy hz
  simp [thirdB, resolve, noFns, noFn, Ev.callWith, h1, h2, h3, h4, h5, h6, h7, h8, k1, k2]
theorem bodyO_ok (hb : 0 ≤ b ∧ b < 2147483647) (hc : 0 ≤ c ∧ c < 999990) : ∃ a' c' x5' x6', bodyO (St ns (.val (.int q)) (.val (.int x)) (.val (.int y)) x5 x6 x7 a b c lc) = .ok .nx (St ns (.val (.int q)) (.val (.int x)) (.val (.int y)) x5' x6' x7 a' b c' lc) ∧ 0 ≤ c' ∧ c' ≤ c + 2 := by
  obtain ⟨a1, c1, r1, e1, k1, l1, m1⟩ := draw_at a b c q lc hq hb ⟨hc.1, by omega⟩
  obtain ⟨a2, c2, r2, e2, k2, l2, m2⟩ := draw_at a1 b c1 q lc hq hb ⟨l1, by omega⟩
  have s2 : (2 : Nat) ≤ sizeLine := Nat.le_trans (by decide) sl10
  have h1 := told_ok hq hx hy ns x5 x6 x7 a b c lc
  have h2 := same_ok hq hx hy ns x6 x7 a b c lc
  have h3 : thirdI (St ns (.val (.int q)) (.val (.int x)) (.val (.int y)) (.own (.lst [.int (fP q x y), .int (fB q x y), .int (fP q x y), .int (fB q x y)])) x6 x7 a b c lc) = .ok [.int r1, .int r2] (St ns (.val (.int q)) (.val (.int x)) (.val (.int y)) (.own (.lst [.int (fP q x y), .int (fB q x y), .int (fP q x y), .int (fB q x y)])) x6 x7 a2 b c2 lc) := by
    simp [thirdI, resolve, noFns, noFn, Ev.callWith, e1, e2, s2, itemsOf]
  have h4 := thirdB_ok hq hx hy ns (.own (.lst [.int (fP q x y), .int (fB q x y), .int (fP q x y), .int (fB q x y)])) x7 a2 b c2 lc k1
  have h5 := thirdB_ok hq hx hy ns (.own (.lst [.int (fP q x y), .int (fB q x y), .int (fP q x y), .int (fB q x y)])) x7 a2 b c2 lc k2
  refine ⟨a2, c2, (.own (.lst [.int (fP q x y), .int (fB q x y), .int (fP q x y), .int (fB q x y)])), (.val (.int r2)), ?_, l2, by omega⟩
  unfold bodyO
  rw [ev_fSeq, h1, ev_ok]
  show fSeq sameS _ _ = _
  rw [ev_fSeq, h2, ev_ok]
  show fForI (.nm 6) thirdI thirdB _ = _
  rw [ev_fForI, h3, ev_ok]
  simp [fFor, h4, h5]
end
end K09
namespace K09
open PySem L2 Ev
def fM (q x : Int) : Int :=
  if q = 2 then Int.ofNat (([0, 1] : List Nat).getD x.toNat 0) else
  if q = 3 then Int.ofNat (([0, 2, 1] : List Nat).getD x.toNat 0) else
  if q = 4 then Int.ofNat (([0, 1, 2, 3] : List Nat).getD x.toNat 0) else
  if q = 5 then Int.ofNat (([0, 4, 3, 2, 1] : List Nat).getD x.toNat 0) else
  if q = 7 then Int.ofNat (([0, 6, 5, 4, 3, 2, 1] : List Nat).getD x.toNat 0) else
  if q = 8 then Int.ofNat (([0, 1, 2, 3, 4, 5, 6, 7] : List Nat).getD x.toNat 0) else
  if q = 9 then Int.ofNat (([0, 2, 1, 6, 8, 7, 3, 5, 4] : List Nat).getD x.toNat 0) else
  0
def fV (q x : Int) : Int :=
  if q = 2 then Int.ofNat (([0, 1] : List Nat).getD x.toNat 0) else
  if q = 3 then Int.ofNat (([0, 1, 2] : List Nat).getD x.toNat 0) else
  if q = 4 then Int.ofNat (([0, 1, 3, 2] : List Nat).getD x.toNat 0) else
  if q = 5 then Int.ofNat (([0, 1, 3, 2, 4] : List Nat).getD x.toNat 0) else
  if q = 7 then Int.ofNat (([0, 1, 4, 5, 2, 3, 6] : List Nat).getD x.toNat 0) else
  if q = 8 then Int.ofNat (([0, 1, 5, 6, 7, 2, 3, 4] : List Nat).getD x.toNat 0) else
  if q = 9 then Int.ofNat (([0, 1, 2, 6, 5, 4, 3, 8, 7] : List Nat).getD x.toNat 0) else
  0
theorem minus_ok {q x : Int} (hq : q ∈ qs) (hx : 0 ≤ x ∧ x < q) (a b c : Int) (lc : Nat) : minusF [.int q, .int x] ⟨[], [Sp a b c], lc⟩ = .ok (.val (.int (fM q x))) ⟨[], [Sp a b c], lc⟩ := by
  rcases qcases hq with e | e | e | e | e | e | e <;> subst e
  · have h := map_at (t_minus2 a b c lc) x (mem_upTo hx.1 hx.2); exact h
  · have h := map_at (t_minus3 a b c lc) x (mem_upTo hx.1 hx.2); exact h
  · have h := map_at (t_minus4 a b c lc) x (mem_upTo hx.1 hx.2); exact h
  · have h := map_at (t_minus5 a b c lc) x (mem_upTo hx.1 hx.2); exact h
  · have h := map_at (t_minus7 a b c lc) x (mem_upTo hx.1 hx.2); exact h
  · have h := map_at (t_minus8 a b c lc) x (mem_upTo hx.1 hx.2); exact h
  · have h := map_at (t_minus9 a b c lc) x (mem_upTo hx.1 hx.2); exact h
theorem mem_tail {q x : Int} (h0 : 0 < x) (h1 : x < q) : x ∈ (upTo q).tail := by
  have h := mem_upTo (by omega : (0 : Int) ≤ x) h1
  have hn : q.toNat = q.toNat - 1 + 1 := by omega
  unfold upTo at h ⊢
  rw [hn, List.range_succ_eq_map] at h ⊢
  rw [List.map_cons] at h ⊢
  rcases List.mem_cons.mp h with z | z
  · exfalso; rw [z] at h0; exact absurd h0 (by decide)
  · exact z
theorem over_ok {q x : Int} (hq : q ∈ qs) (hx : 0 < x ∧ x < q) (a b c : Int) (lc : Nat) : overF [.int q, .int x] ⟨[], [Sp a b c], lc⟩ = .ok (.val (.int (fV q x))) ⟨[], [Sp a b c], lc⟩ := by
  rcases qcases hq with e | e | e | e | e | e | e <;> subst e
  · have h := map_at (t_over2 a b c lc) x (mem_tail hx.1 hx.2); exact h
  · have h := map_at (t_over3 a b c lc) x (mem_tail hx.1 hx.2); exact h
  · have h := map_at (t_over4 a b c lc) x (mem_tail hx.1 hx.2); exact h
  · have h := map_at (t_over5 a b c lc) x (mem_tail hx.1 hx.2); exact h
  · have h := map_at (t_over7 a b c lc) x (mem_tail hx.1 hx.2); exact h
  · have h := map_at (t_over8 a b c lc) x (mem_tail hx.1 hx.2); exact h
  · have h := map_at (t_over9 a b c lc) x (mem_tail hx.1 hx.2); exact h
theorem fM_eq : (qs.all fun q => (upTo q).all fun x => ((upTo q).filter fun y => fP q x y == 0).head? == some (fM q x)) = true := by decide +kernel
theorem fV_eq : (qs.all fun q => (upTo q).tail.all fun x => ((upTo q).filter fun y => fB q x y == 1).head? == some (fV q x)) = true := by decide +kernel
theorem rangeD_upTo (q : Int) : rangeD 0 1 q.toNat = (upTo q).map D.int := by
  unfold rangeD upTo
  rw [List.map_map]
  apply List.map_congr_left
  intro i _
  simp
theorem rng_ok {q : Int} (hq : q ∈ qs) : rng1 [.int q] = some ((upTo q).map D.int) := by
  rw [← rangeD_upTo]
  have : lit62 q = true := by rcases qcases hq with e | e | e | e | e | e | e <;> subst e <;> decide
  simp [rng1, this]
theorem upTo_len {q : Int} (hq : q ∈ qs) : (upTo q).length = q.toNat ∧ 2 ≤ q ∧ q ≤ 9 := by
  refine ⟨by simp [upTo], ?_⟩
  rcases qcases hq with e | e | e | e | e | e | e <;> subst e <;> decide
theorem lc_filter (ns : List Int) (x2 x3 x5 x6 x7 : Ev.Slot) (a b c : Int) (lc : Nat) (cF : SS → Out Bool) (p : Int → Bool) : ∀ (ys : List Int) (acc : List D), (∀ y ∈ ys, cF (St ns x2 x3 (.val (.int y)) x5 x6 x7 a b c lc) = .ok (p y) (St ns x2 x3 (.val (.int y)) x5 x6 x7 a b c lc)) →
    lcLoop (.nm 4) [4] cF (fz (fVar 4)) (ys.map D.int) acc (St ns x2 x3 .none x5 x6 x7 a b c lc) = .ok (acc ++ (ys.filter p).map D.int) (St ns x2 x3 .none x5 x6 x7 a b c lc)
  | [], acc, h => by simp [lcLoop]
  | y :: ys, acc, h => by
    have h0 := h y List.mem_cons_self
    have ih := fun acc => lc_filter ns x2 x3 x5 x6 x7 a b c lc cF p ys acc (fun z hz => h z (List.mem_cons_of_mem _ hz))
    cases hp : p y with
    | true =>
      rw [hp] at h0
      have e := ih (acc ++ [.int y])
      simp [lcLoop, h0, hp, SS.wipe]
      simpa using e
    | false =>
      rw [hp] at h0
      have e := ih acc
      simp [lcLoop, h0, hp, SS.wipe]
      simpa using e
theorem lcRun_ok {q : Int} (hq : q ∈ qs) (ns : List Int) (x2 x3 x4 x5 x6 x7 : Ev.Slot) (a b c : Int) (lc : Nat) (cF : SS → Out Bool) (p : Int → Bool) (h4 : x4.notOwn = true) (h : ∀ y ∈ upTo q, cF (St ns x2 x3 (.val (.int y)) x5 x6 x7 a b c lc) = .ok (p y) (St ns x2 x3 (.val (.int y)) x5 x6 x7 a b c lc)) :
    lcRun (.nm 4) [4] cF (fz (fVar 4)) ((upTo q).map D.int) (St ns x2 x3 x4 x5 x6 x7 a b c lc) = .ok (.own (.lst (((upTo q).filter p).map D.int))) (St ns x2 x3 x4 x5 x6 x7 a b c lc) := by
  have hs : ((upTo q).map D.int).length ≤ sizeLine := by
    have := upTo_len hq
    rw [List.length_map, this.1, sizeLine_eq]; omega
  have e := lc_filter ns x2 x3 x5 x6 x7 a b c lc cF p (upTo q) [] h
  unfold lcRun
  rw [if_pos ⟨by simp [noOwn, h4], hs⟩]
  have e2 : (St ns x2 x3 x4 x5 x6 x7 a b c lc).wipe [4] = St ns x2 x3 .none x5 x6 x7 a b c lc := rfl
  rw [e2, e]
  rfl
theorem headI {l : List Int} {v : Int} (h : l.head? = some v) : didx (.lst (l.map D.int)) (.int 0) = some (.int v) := by
  cases l with
  | nil => cases h
  | cons z l =>
    cases h
    have h0 : ixN (l.length + 1) 0 = some 0 := by unfold ixN; simp
    simp [didx, L2.atI, h0]
theorem dueS_ok {q x : Int} (hq : q ∈ qs) (hx : 0 ≤ x ∧ x < q) (ns : List Int) (x4 x5 x6 x7 : Ev.Slot) (a b c : Int) (lc : Nat) (h4 : x4.notOwn = true) :
    ∃ x7', dueS (St ns (.val (.int q)) (.val (.int x)) x4 x5 x6 x7 a b c lc) = .ok .nx (St ns (.val (.int q)) (.val (.int x)) x4 x5 x6 x7' a b c lc) := by
  have c1 : ∀ y ∈ upTo q, (fCmp .Eq (fz (fCallX true law_f_plusF (gNm 2 (gNm 3 (gNm 4 Ev.gNil))))) (fz (fCon (.int 0)))) (St ns (.val (.int q)) (.val (.int x)) (.val (.int y)) x5 x6 x7 a b c lc) = .ok (fP q x y == 0) (St ns (.val (.int q)) (.val (.int x)) (.val (.int y)) x5 x6 x7 a b c lc) := fun y hy => by
    have h1 := lplus_ok hq hx (of_upTo hy) a b c lc
    simp [resolve, noFns, noFn, Ev.callWith, h1]
  have r1 := lcRun_ok hq ns (.val (.int q)) (.val (.int x)) x4 x5 x6 x7 a b c lc _ _ h4 c1
  have m1 := List.all_eq_true.mp (List.all_eq_true.mp fM_eq q hq) x (mem_upTo hx.1 hx.2)
  have m1 := headI (beq_iff_eq.mp m1)
  have k1 := minus_ok hq hx a b c lc
  have s2 : (2 : Nat) ≤ sizeLine := Nat.le_trans (by decide) sl10
  have h3 := same_list 4 [fM q x, fM q x] [Sp a b c] lc (by simp)
  simp only [List.map_cons, List.map_nil] at h3
  have a1 : (fSet 7 (fIdx (fz (fLc (.nm 4) [4] (fIts (fCons (fz (fVar 2)) fNil) rng1) (fCmp .Eq (fz (fCallX true law_f_plusF (gNm 2 (gNm 3 (gNm 4 Ev.gNil))))) (fz (fCon (.int 0)))) (fz (fVar 4)))) (fz (fCon (.int 0))))) (St ns (.val (.int q)) (.val (.int x)) x4 x5 x6 x7 a b c lc) = .ok .nx (St ns (.val (.int q)) (.val (.int x)) x4 x5 x6 (.val (.int (fM q x))) a b c lc) := by
    rw [ev_fSet, ev_fIdx, ev_fz, ev_fLc]
    simp only [ev_fIts, ev_fCons, ev_fz, ev_fVar, ev_fNil, List.getElem?_cons_succ, List.getElem?_cons_zero, ev_ok, ev_toD_val, rng_ok hq]
    rw [r1]
    simp [m1]
  have a2 : (fIfS (fNot (fTru (fz (fCallX true (law_sameF 6) (gEx (fz (fLst (fCons (fz (fCallX true minusF (gNm 2 (gNm 3 Ev.gNil)))) (fCons (fz (fCallKX true minusF [1, 0] (gNm 3 (gNm 2 Ev.gNil)))) fNil)))) (gEx (fz (fLst (fCons (fz (fVar 7)) (fCons (fz (fVar 7)) fNil)))) Ev.gNil)))))) (fRet (fCon (.bl false))) fNext) (St ns (.val (.int q)) (.val (.int x)) x4 x5 x6 (.val (.int (fM q x))) a b c lc) = .ok .nx (St ns (.val (.int q)) (.val (.int x)) x4 x5 x6 (.val (.int (fM q x))) a b c lc) := by
    simp [resolve, noFns, noFn, Ev.callWith, k1, permL, s2, h3]
  by_cases h0 : 0 < x
  · have c2 : ∀ y ∈ upTo q, (fCmp .Eq (fz (fCallX true law_f_byF (gNm 2 (gNm 3 (gNm 4 Ev.gNil))))) (fz (fCon (.int 1)))) (St ns (.val (.int q)) (.val (.int x)) (.val (.int y)) x5 x6 (.val (.int (fM q x))) a b c lc) = .ok (fB q x y == 1) (St ns (.val (.int q)) (.val (.int x)) (.val (.int y)) x5 x6 (.val (.int (fM q x))) a b c lc) := fun y hy => by
      have h1 := lby_ok hq hx (of_upTo hy) a b c lc
      simp [resolve, noFns, noFn, Ev.callWith, h1]
    have r2 := lcRun_ok hq ns (.val (.int q)) (.val (.int x)) x4 x5 x6 (.val (.int (fM q x))) a b c lc _ _ h4 c2
    have m2 := List.all_eq_true.mp (List.all_eq_true.mp fV_eq q hq) x (mem_tail h0 hx.2)
    have m2 := headI (beq_iff_eq.mp m2)
    have k2 := over_ok hq ⟨h0, hx.2⟩ a b c lc
    have h4' := same_list 4 [fV q x, fV q x] [Sp a b c] lc (by simp)
    simp only [List.map_cons, List.map_nil] at h4'
    have a3 : (fSet 7 (fIdx (fz (fLc (.nm 4) [4] (fIts (fCons (fz (fVar 2)) fNil) rng1) (fCmp .Eq (fz (fCallX true law_f_byF (gNm 2 (gNm 3 (gNm 4 Ev.gNil))))) (fz (fCon (.int 1)))) (fz (fVar 4)))) (fz (fCon (.int 0))))) (St ns (.val (.int q)) (.val (.int x)) x4 x5 x6 (.val (.int (fM q x))) a b c lc) = .ok .nx (St ns (.val (.int q)) (.val (.int x)) x4 x5 x6 (.val (.int (fV q x))) a b c lc) := by
      rw [ev_fSet, ev_fIdx, ev_fz, ev_fLc]
      simp only [ev_fIts, ev_fCons, ev_fz, ev_fVar, ev_fNil, List.getElem?_cons_succ, List.getElem?_cons_zero, ev_ok, ev_toD_val, rng_ok hq]
      rw [r2]
      simp [m2]
    have a4 : (fIfS (fNot (fTru (fz (fCallX true (law_sameF 6) (gEx (fz (fLst (fCons (fz (fCallX true overF (gNm 2 (gNm 3 Ev.gNil)))) (fCons (fz (fCallKX true overF [1, 0] (gNm 3 (gNm 2 Ev.gNil)))) fNil)))) (gEx (fz (fLst (fCons (fz (fVar 7)) (fCons (fz (fVar 7)) fNil)))) Ev.gNil)))))) (fRet (fCon (.bl false))) fNext) (St ns (.val (.int q)) (.val (.int x)) x4 x5 x6 (.val (.int (fV q x))) a b c lc) = .ok .nx (St ns (.val (.int q)) (.val (.int x)) x4 x5 x6 (.val (.int (fV q x))) a b c lc) := by
      simp [resolve, noFns, noFn, Ev.callWith, k2, permL, s2, h4']
    refine ⟨.val (.int (fV q x)), ?_⟩
    unfold dueS
    rw [ev_fSeq, a1, ev_ok]
    show fSeq _ _ _ = _
    rw [ev_fSeq, a2, ev_ok]
    show fIfS _ _ _ _ = _
    have e : (fCmp .Gt (fz (fVar 3)) (fz (fCon (.int 0)))) (St ns (.val (.int q)) (.val (.int x)) x4 x5 x6 (.val (.int (fM q x))) a b c lc) = .ok true (St ns (.val (.int q)) (.val (.int x)) x4 x5 x6 (.val (.int (fM q x))) a b c lc) := by
      simp [cop, h0]
    rw [ev_fIfS, e, ev_ok, if_pos rfl, ev_fSeq, a3, ev_ok]
    exact a4
  · refine ⟨.val (.int (fM q x)), ?_⟩
    unfold dueS
    rw [ev_fSeq, a1, ev_ok]
    show fSeq _ _ _ = _
    rw [ev_fSeq, a2, ev_ok]
    show fIfS _ _ _ _ = _
    simp [cop, h0]
end K09
namespace K09
open PySem L2 Ev
def okB (b : Int) : Prop := 0 ≤ b ∧ b < 2147483647
theorem bodyN_ok {q x : Int} (hq : q ∈ qs) (hx : 0 ≤ x ∧ x < q) (ns : List Int) (x4 x5 x6 x7 : Ev.Slot) (a b c : Int) (lc : Nat) (h4 : x4.notOwn = true) (hb : okB b) (hc : 0 ≤ c ∧ c < 900000) :
    ∃ x4' x5' x6' x7' a' c', bodyN (St ns (.val (.int q)) (.val (.int x)) x4 x5 x6 x7 a b c lc) = .ok .nx (St ns (.val (.int q)) (.val (.int x)) x4' x5' x6' x7' a' b c' lc) ∧ x4'.notOwn = true ∧ 0 ≤ c' ∧ c' ≤ c + 18 := by
  have hlen := upTo_len hq
  let P : Nat → SS → Prop := fun n S => ∃ x4' x5' x6' a' c', S = St ns (.val (.int q)) (.val (.int x)) x4' x5' x6' x7 a' b c' lc ∧ x4'.notOwn = true ∧ 0 ≤ c' ∧ c' ≤ c + 2 * n
  obtain ⟨S', e, x4', x5', x6', a', c', e', n4, c1, c2⟩ := fFor_inv (P := P) (t := .nm 4) (F := bodyO) ((upTo q).map D.int) 0 (St ns (.val (.int q)) (.val (.int x)) x4 x5 x6 x7 a b c lc) ⟨x4, x5, x6, a, c, rfl, h4, hc.1, by simp⟩ (by
    rintro d hd m S hm ⟨y4, y5, y6, a1, c1, rfl, n4, k1, k2⟩
    obtain ⟨y, hy, rfl⟩ := List.mem_map.mp hd
    rw [List.length_map, hlen.1] at hm
    obtain ⟨a2, c2, x5', x6', e, l1, l2⟩ := bodyO_ok hq hx (of_upTo hy) ns y5 y6 x7 a1 b c1 lc hb ⟨k1, by omega⟩
    exact ⟨_, _, rfl, e, .val (.int y), x5', x6', a2, c2, rfl, rfl, l1, by omega⟩)
  rw [List.length_map, hlen.1] at c2
  subst e'
  obtain ⟨x7', e7⟩ := dueS_ok hq hx ns x4' x5' x6' x7 a' b c' lc n4
  refine ⟨x4', x5', x6', x7', a', c', ?_, n4, c1, by omega⟩
  have e1 : fIts (fCons (fz (fVar 2)) fNil) rng1 (St ns (.val (.int q)) (.val (.int x)) x4 x5 x6 x7 a b c lc) = .ok ((upTo q).map D.int) (St ns (.val (.int q)) (.val (.int x)) x4 x5 x6 x7 a b c lc) := by
    simp [rng_ok hq]
  unfold bodyN
  rw [ev_fSeq, ev_fForI, e1, ev_ok, e, ev_ok]
  exact e7
theorem loopN_ok {q : Int} (hq : q ∈ qs) (ns : List Int) (x3 x4 x5 x6 x7 : Ev.Slot) (a b c : Int) (lc : Nat) (h4 : x4.notOwn = true) (hb : okB b) (hc : 0 ≤ c ∧ c < 800000) :
    ∃ x3' x4' x5' x6' x7' a' c', (fForI (.nm 3) (fIts (fCons (fz (fVar 2)) fNil) rng1) bodyN) (St ns (.val (.int q)) x3 x4 x5 x6 x7 a b c lc) = .ok .nx (St ns (.val (.int q)) x3' x4' x5' x6' x7' a' b c' lc) ∧ x4'.notOwn = true ∧ 0 ≤ c' ∧ c' ≤ c + 162 := by
  have hlen := upTo_len hq
  let P : Nat → SS → Prop := fun n S => ∃ x3' x4' x5' x6' x7' a' c', S = St ns (.val (.int q)) x3' x4' x5' x6' x7' a' b c' lc ∧ x4'.notOwn = true ∧ 0 ≤ c' ∧ c' ≤ c + 18 * n
  obtain ⟨S', e, x3', x4', x5', x6', x7', a', c', e', n4, c1, c2⟩ := fFor_inv (P := P) (t := .nm 3) (F := bodyN) ((upTo q).map D.int) 0 (St ns (.val (.int q)) x3 x4 x5 x6 x7 a b c lc) ⟨x3, x4, x5, x6, x7, a, c, rfl, h4, hc.1, by simp⟩ (by
    rintro d hd m S hm ⟨y3, y4, y5, y6, y7, a1, c1, rfl, n4, k1, k2⟩
    obtain ⟨y, hy, rfl⟩ := List.mem_map.mp hd
    rw [List.length_map, hlen.1] at hm
    obtain ⟨x4', x5', x6', x7', a2, c2, e, n4', l1, l2⟩ := bodyN_ok hq (of_upTo hy) ns y4 y5 y6 y7 a1 b c1 lc n4 hb ⟨k1, by omega⟩
    exact ⟨_, _, rfl, e, .val (.int y), x4', x5', x6', x7', a2, c2, rfl, n4', l1, by omega⟩)
  rw [List.length_map, hlen.1] at c2
  subst e'
  refine ⟨x3', x4', x5', x6', x7', a', c', ?_, n4, c1, by omega⟩
  have e1 : fIts (fCons (fz (fVar 2)) fNil) rng1 (St ns (.val (.int q)) x3 x4 x5 x6 x7 a b c lc) = .ok ((upTo q).map D.int) (St ns (.val (.int q)) x3 x4 x5 x6 x7 a b c lc) := by
    simp [rng_ok hq]
  rw [ev_fForI, e1, ev_ok, e]
end K09
namespace K09
open PySem L2 Ev
theorem t_ref2 (a b c : Int) : ((List.range 7).map fun lc => law_f_refusedF [.int 2] ⟨[], [Sp a b c], lc⟩) = (List.range 7).map fun lc => .ok (.val (.bl true)) ⟨[], [Sp a b c], lc + 1⟩ := by kernel_rfl!
theorem t_ref3 (a b c : Int) : ((List.range 7).map fun lc => law_f_refusedF [.int 3] ⟨[], [Sp a b c], lc⟩) = (List.range 7).map fun lc => .ok (.val (.bl true)) ⟨[], [Sp a b c], lc + 1⟩ := by kernel_rfl!
theorem t_ref4 (a b c : Int) : ((List.range 7).map fun lc => law_f_refusedF [.int 4] ⟨[], [Sp a b c], lc⟩) = (List.range 7).map fun lc => .ok (.val (.bl true)) ⟨[], [Sp a b c], lc + 1⟩ := by kernel_rfl!
theorem t_ref5 (a b c : Int) : ((List.range 7).map fun lc => law_f_refusedF [.int 5] ⟨[], [Sp a b c], lc⟩) = (List.range 7).map fun lc => .ok (.val (.bl true)) ⟨[], [Sp a b c], lc + 1⟩ := by kernel_rfl!
theorem t_ref7 (a b c : Int) : ((List.range 7).map fun lc => law_f_refusedF [.int 7] ⟨[], [Sp a b c], lc⟩) = (List.range 7).map fun lc => .ok (.val (.bl true)) ⟨[], [Sp a b c], lc + 1⟩ := by kernel_rfl!
theorem t_ref8 (a b c : Int) : ((List.range 7).map fun lc => law_f_refusedF [.int 8] ⟨[], [Sp a b c], lc⟩) = (List.range 7).map fun lc => .ok (.val (.bl true)) ⟨[], [Sp a b c], lc + 1⟩ := by kernel_rfl!
theorem t_ref9 (a b c : Int) : ((List.range 7).map fun lc => law_f_refusedF [.int 9] ⟨[], [Sp a b c], lc⟩) = (List.range 7).map fun lc => .ok (.val (.bl true)) ⟨[], [Sp a b c], lc + 1⟩ := by kernel_rfl!
def isT (o : Out Fl) : Bool := match o with
  | .ok (.rt (.val (.bl true))) S => S.om.all Ob.noFn
  | _ => false
theorem t_end (ns : List Int) (x2 x3 x4 x5 x6 x7 : Ev.Slot) (a b c : Int) : isT (endS (St ns x2 x3 x4 x5 x6 x7 a b c 7)) = true := by kernel_rfl!
end K09
namespace K09
open PySem L2 Ev
theorem ref_ok {q : Int} (hq : q ∈ qs) (a b c : Int) (lc : Nat) (hl : lc < 7) : law_f_refusedF [.int q] ⟨[], [Sp a b c], lc⟩ = .ok (.val (.bl true)) ⟨[], [Sp a b c], lc + 1⟩ := by
  have m := List.mem_range.mpr hl
  rcases qcases hq with e | e | e | e | e | e | e <;> subst e
  · have h := map_at (t_ref2 a b c) lc m; exact h
  · have h := map_at (t_ref3 a b c) lc m; exact h
  · have h := map_at (t_ref4 a b c) lc m; exact h
  · have h := map_at (t_ref5 a b c) lc m; exact h
  · have h := map_at (t_ref7 a b c) lc m; exact h
  · have h := map_at (t_ref8 a b c) lc m; exact h
  · have h := map_at (t_ref9 a b c) lc m; exact h
theorem refS_ok {q : Int} (hq : q ∈ qs) (ns : List Int) (x3 x4 x5 x6 x7 : Ev.Slot) (a b c : Int) (lc : Nat) (hl : lc < 7) : refS (St ns (.val (.int q)) x3 x4 x5 x6 x7 a b c lc) = .ok .nx (St ns (.val (.int q)) x3 x4 x5 x6 x7 a b c (lc + 1)) := by
  have h := ref_ok hq a b c lc hl
  simp [refS, resolve, noFns, noFn, Ev.callWith, h]
theorem bodyQ_ok {q : Int} (hq : q ∈ qs) (ns : List Int) (x3 x4 x5 x6 x7 : Ev.Slot) (a b c : Int) (lc : Nat) (hl : lc < 7) (h4 : x4.notOwn = true) (hb : okB b) (hc : 0 ≤ c ∧ c < 800000) :
    ∃ x3' x4' x5' x6' x7' a' c', bodyQ (St ns (.val (.int q)) x3 x4 x5 x6 x7 a b c lc) = .ok .nx (St ns (.val (.int q)) x3' x4' x5' x6' x7' a' b c' (lc + 1)) ∧ x4'.notOwn = true ∧ 0 ≤ c' ∧ c' ≤ c + 162 := by
  obtain ⟨x3', x4', x5', x6', x7', a', c', e, n4, k1, k2⟩ := loopN_ok hq ns x3 x4 x5 x6 x7 a b c lc h4 hb hc
  refine ⟨x3', x4', x5', x6', x7', a', c', ?_, n4, k1, k2⟩
  unfold bodyQ
  rw [ev_fSeq, e, ev_ok]
  exact refS_ok hq ns x3' x4' x5' x6' x7' a' b c' lc hl
theorem noFns_ints : ∀ is : List Int, noFns (is.map D.int) = true
  | [] => rfl
  | i :: is => by rw [List.map_cons, noFns, noFns_ints is]; rfl
theorem isT_ok {o : Out Fl} (h : isT o = true) : ∃ S, o = .ok (.rt (.val (.bl true))) S ∧ S.om.all Ob.noFn = true := by
  unfold isT at h
  split at h
  · exact ⟨_, rfl, h⟩
  · cases h
theorem plain : Plain := by
  intro ns hl _
  obtain ⟨a, b, e1, hb⟩ := spring_ok ns 0 [] hl
  obtain ⟨a2, c2, ys, e2, hp, k1, k2⟩ := mixed_ok (qs.map D.int) a b 0 0 (by decide) hb (by decide)
  have hys : ∀ d ∈ ys, ∃ q, q ∈ qs ∧ d = .int q := fun d hd => by
    obtain ⟨q, hq, e⟩ := List.mem_map.mp (hp.mem_iff.mp hd)
    exact ⟨q, hq, e.symm⟩
  have hlen : ys.length = 7 := hp.length_eq
  have sl : (7 : Nat) ≤ sizeLine := Nat.le_trans (by decide) sl10
  have f1 : (fSetRef 1 (fCallX true law_springF (gNm 0 (gEx (fz (fCon (.int 0))) Ev.gNil)))) ⟨[.val (scriptD ns), .none, .none, .none, .none, .none, .none, .none, .none, .none, .none, .none, .none], [], 0⟩ = .ok .nx (St ns .none .none .none .none .none .none a b 0 0) := by
    have hv : (scriptD ns).view = .lst (ns.map D.int) := rfl
    have hn : noFn (scriptD ns) = true := by show noFn (.ro (.lst (ns.map D.int))) = true; rw [noFn, noFn]; exact noFns_ints ns
    have hs : ∀ k, scriptD ns ≠ .ref k := fun k z => by cases z
    simp [scriptD] at e1 hn ⊢
    simp [resolve, noFns, noFns_ints, noFn, Ev.callWith, e1, flatRes, frzArgs]
    rfl
  have f2 : sizesI (St ns .none .none .none .none .none .none a b 0 0) = .ok ys (St ns .none .none .none .none .none .none a2 b c2 0) := by
    have e2' : law_mixedF [.ref 0, .lst [.int 2, .int 3, .int 4, .int 5, .int 7, .int 8, .int 9]] ⟨[], [Sp a b 0], 0⟩ = .ok (.own (.lst ys)) ⟨[], [Sp a2 b c2], 0⟩ := e2
    simp [sizesI, sl, resolve, noFns, noFn, Ev.callWith, e2', flatRes, frzArgs, itemsOf]
  let P : Nat → SS → Prop := fun n S => ∃ x2' x3' x4' x5' x6' x7' a' c', S = St ns x2' x3' x4' x5' x6' x7' a' b c' n ∧ x4'.notOwn = true ∧ 0 ≤ c' ∧ c' ≤ c2 + 162 * n
  obtain ⟨S', e, x2', x3', x4', x5', x6', x7', a', c', e', n4, l1, l2⟩ := fFor_inv (P := P) (t := .nm 2) (F := bodyQ) ys 0 (St ns .none .none .none .none .none .none a2 b c2 0) ⟨_, _, _, _, _, _, a2, c2, rfl, rfl, k1, by simp⟩ (by
    rintro d hd m S hm ⟨y2, y3, y4, y5, y6, y7, a1, c1, rfl, n4, k1', k2'⟩
    obtain ⟨q, hq, rfl⟩ := hys d hd
    rw [hlen] at hm
    have : (qs.map D.int).length = 7 := rfl
    rw [this] at k2
    obtain ⟨x3', x4', x5', x6', x7', a2', c2', e, n4', l1, l2⟩ := bodyQ_ok hq ns y3 y4 y5 y6 y7 a1 b c1 m (by omega) n4 hb ⟨k1', by omega⟩
    exact ⟨_, _, rfl, e, .val (.int q), x3', x4', x5', x6', x7', a2', c2', rfl, n4', l1, by omega⟩)
  rw [hlen] at e'
  subst e'
  obtain ⟨SE, e9, hom⟩ := isT_ok (t_end ns x2' x3' x4' x5' x6' x7' a' b c')
  have run : lawB ⟨[.val (scriptD ns), .none, .none, .none, .none, .none, .none, .none, .none, .none, .none, .none, .none], [], 0⟩ = .ok (.rt (.val (.bl true))) SE := by
    rw [lawB_eq, ev_fSeq, f1, ev_ok]
    show fSeq _ _ _ = _
    rw [ev_fSeq, ev_fForI, f2, ev_ok, e, ev_ok]
    exact e9
  refine ⟨⟨[], SE.om, SE.lc⟩, ?_⟩
  show chk true (fRun 13 lawB [scriptD ns] S0) = _
  have r : fRun 13 lawB [scriptD ns] S0 = .ok (.val (.bl true)) ⟨[], SE.om, SE.lc⟩ := by
    rw [ev_fRun]
    show (match lawB ⟨[.val (scriptD ns), .none, .none, .none, .none, .none, .none, .none, .none, .none, .none, .none, .none], [], 0⟩ with
      | .ok (.rt r) S' => Out.ok r (S0.back S')
      | .ok .nx S' => .ok (.val .non) (S0.back S')
      | .ok _ _ => .no
      | .exc c fs S' => .exc c fs (S0.back S')
      | .no => .no) = _
    rw [run]
    rfl
  rw [r]
  show (if (Res.noFn (.val (.bl true)) && SE.om.all Ob.noFn) = true then _ else _) = _
  rw [hom]
  rfl
end K09
theorem PySem.Challenge.cw_everytwo_k09_whole_fields_holds : PySem.Challenge.rw_everytwo_k09_whole_fields.Holds := by
  exact law_holds K09.plain
