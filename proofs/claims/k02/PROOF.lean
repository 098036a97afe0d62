import PyProof.Rows.All
import HandS.ForMost
import HandS.IsInst
import HandS.Wide
import HandS.Deep
import HandS.Flow
import HandS.Exc
import HandS.TryOnly
import HandS.ExcOwn
import HandS.WordsExc
import KE.KDictKeyed
import KE.LtData
import HandS.SortKw
import KE.SortData
import KE.SortKeyHeap
import KE.DataFind
import KE.DataMinMax
import KE.DataAny
import KE.DataCmp
import HandS.TupAny
import HandS.Style
import HandS.Zip
import PySem.Challenge.RW_reason_k02_facts_in_order
set_option Elab.async false
set_option linter.all false
set_option maxRecDepth 100000
set_option maxHeartbeats 4000000
/-! data, and how it stands in the heap -/
namespace DI
open PySem PySem.Spec PyProof.Rows L2
abbrev D := PyData
abbrev WS := Addr → Prop
def KT (K : PySem.W.Frag) (a : Addr) (xs : List V) : Prop :=
  ∃ (o : Obj) (its : Array Value) (n : Nat), K.lookup a = some o ∧ o.cls = .type "tuple" ∧ o.data = .seq its n ∧ its.size ≤ sizeLine ∧ Vals xs its.toList
def KL (K : PySem.W.Frag) (a : Addr) (xs : List V) : Prop :=
  ∃ (o : Obj) (its : Array Value) (n : Nat), K.lookup a = some o ∧ o.cls = .type "list" ∧ o.dict = none ∧ o.data = .seq its n ∧ its.size ≤ sizeLine ∧ Vals xs its.toList
/-- a tuple, a list that may be read at a; it is not among the owned ones -/
def TupAt (K : PySem.W.Frag) (H : Hp) (W : WS) (a : Addr) (xs : List V) : Prop := (Rd H a (.tup xs) ∧ ¬ W a) ∨ KT K a xs
def LstAt (K : PySem.W.Frag) (H : Hp) (W : WS) (a : Addr) (xs : List V) : Prop := (Rd H a (.lst xs) ∧ ¬ W a) ∨ KL K a xs
theorem TupAt.sq {K : PySem.W.Frag} {H : Hp} {W : WS} {a : Addr} {xs : List V} (h : TupAt K H W a xs) : SqT K H a xs := h.elim (fun h => .inl h.1) .inr
theorem LstAt.sq {K : PySem.W.Frag} {H : Hp} {W : WS} {a : Addr} {xs : List V} (h : LstAt K H W a xs) : SqL K H a xs := h.elim (fun h => .inl h.1) .inr
mutual
def nkOf : D → NestedKey
  | .int i => .num i
  | .str x => .text x
  | .tuple ds => .tup (nksOf ds)
  | _ => .none
def nksOf : List D → List NestedKey
  | [] => []
  | d :: ds => nkOf d :: nksOf ds
end
mutual
def R (K : PySem.W.Frag × World) (H : Hp) (W : WS) : D → V → Prop
  | .none, v => v = .non
  | .bool b, v => v = .bl b
  | .int i, v => v = .int i
  | .str x, v => v = .str x
  | .tuple ds, v => ∃ a xs, v = .ref a ∧ TupAt K.1 H W a xs ∧ Rs K H W ds xs
  | .list ds, v => ∃ a xs, v = .ref a ∧ LstAt K.1 H W a xs ∧ Rs K H W ds xs
  | .dict kvs, v => ∃ a o es ep, v = .ref a ∧ H a = some (.ext fun h => h.get? a = some o) ∧ ¬ W a ∧ (a == sysModules) = false ∧ o.ExactDict ∧ o.data = .dict es ep ∧ Re K H W kvs es.toList
def Rs (K : PySem.W.Frag × World) (H : Hp) (W : WS) : List D → List V → Prop
  | [], xs => xs = []
  | d :: ds, xs => ∃ x r, xs = x :: r ∧ R K H W d x ∧ Rs K H W ds r
def Re (K : PySem.W.Frag × World) (H : Hp) (W : WS) : List (D × D) → List DictEntry → Prop
  | [], es => es = []
  | (k, d) :: kvs, es => ∃ e r x y, es = e :: r ∧ RelV x e.key ∧ R K H W k x ∧ e.hash = (nkOf k).hash K.2 ∧ RelV y e.val ∧ R K H W d y ∧ Re K H W kvs r
end
/-- all that is tracked and not owned stays as it is, and not owned; what is owned then was owned or is new -/
structure Stp (H : Hp) (W : WS) (H' : Hp) (W' : WS) : Prop where
  keep : ∀ a o, H a = some o → ¬ W a → H' a = some o ∧ ¬ W' a
  new : ∀ a, W' a → W a ∨ H a = none
theorem Stp.refl (H : Hp) (W : WS) : Stp H W H W := ⟨fun a o h n => ⟨h, n⟩, fun a h => .inl h⟩
theorem Stp.trans {H H1 H2 : Hp} {W W1 W2 : WS} (a : Stp H W H1 W1) (b : Stp H1 W1 H2 W2) : Stp H W H2 W2 := by
  refine ⟨fun x o h n => ?_, fun x h => ?_⟩
  · obtain ⟨h1, n1⟩ := a.keep x o h n
    exact b.keep x o h1 n1
  · rcases b.new x h with h1 | h1
    · exact a.new x h1
    · cases e : H x with
      | none => exact .inr rfl
      | some o =>
        by_cases hw : W x
        · exact .inl hw
        · obtain ⟨h2, _⟩ := a.keep x o e hw
          rw [h2] at h1; cases h1
theorem Stp.of_same {H H' : Hp} {W : WS} (h : Same H H') : Stp H W H' W := ⟨fun a o e n => ⟨h a o e, n⟩, fun a h => .inl h⟩
/-- fewer are owned -/
theorem Stp.less {H : Hp} {W W' : WS} (h : ∀ a, W' a → W a) : Stp H W H W' := ⟨fun a o e n => ⟨e, fun q => n (h a q)⟩, fun a q => .inl (h a q)⟩
theorem rd_stp {H H' : Hp} {W W' : WS} {a : Addr} {o : HO} (s : Stp H W H' W') (h : Rd H a o) (n : ¬ W a) : Rd H' a o ∧ ¬ W' a := by
  rcases h with h | ⟨u, h⟩
  · obtain ⟨h1, n1⟩ := s.keep _ _ h n
    exact ⟨.inl h1, n1⟩
  · obtain ⟨h1, n1⟩ := s.keep _ _ h n
    exact ⟨.inr ⟨u, h1⟩, n1⟩
section
variable {H H' : Hp} {W W' : WS}
section
variable {K : PySem.W.Frag}
theorem TupAt.stp {a : Addr} {xs : List V} (s : Stp H W H' W') (h : TupAt K H W a xs) : TupAt K H' W' a xs := h.elim (fun h => .inl (rd_stp s h.1 h.2)) .inr
theorem LstAt.stp {a : Addr} {xs : List V} (s : Stp H W H' W') (h : LstAt K H W a xs) : LstAt K H' W' a xs := h.elim (fun h => .inl (rd_stp s h.1 h.2)) .inr
end
variable {K : PySem.W.Frag × World}
mutual
theorem R.stp (s : Stp H W H' W') : ∀ (d : D) (v : V), R K H W d v → R K H' W' d v
  | .none, v, h => by simpa only [R] using h
  | .bool b, v, h => by simpa only [R] using h
  | .int i, v, h => by simpa only [R] using h
  | .str x, v, h => by simpa only [R] using h
  | .tuple ds, v, h => by
    simp only [R] at h ⊢
    obtain ⟨a, xs, e, t, r⟩ := h
    exact ⟨a, xs, e, t.stp s, Rs.stp s ds xs r⟩
  | .list ds, v, h => by
    simp only [R] at h ⊢
    obtain ⟨a, xs, e, t, r⟩ := h
    exact ⟨a, xs, e, t.stp s, Rs.stp s ds xs r⟩
  | .dict kvs, v, h => by
    simp only [R] at h ⊢
    obtain ⟨a, o, es, ep, e, h1, n, h2, h3, h4, r⟩ := h
    obtain ⟨h1', n'⟩ := s.keep _ _ h1 n
    exact ⟨a, o, es, ep, e, h1', n', h2, h3, h4, Re.stp s kvs es.toList r⟩
theorem Rs.stp (s : Stp H W H' W') : ∀ (ds : List D) (xs : List V), Rs K H W ds xs → Rs K H' W' ds xs
  | [], xs, h => by simpa only [Rs] using h
  | d :: ds, xs, h => by
    simp only [Rs] at h ⊢
    obtain ⟨x, r, e, h1, h2⟩ := h
    exact ⟨x, r, e, R.stp s d x h1, Rs.stp s ds r h2⟩
theorem Re.stp (s : Stp H W H' W') : ∀ (kvs : List (D × D)) (es : List DictEntry), Re K H W kvs es → Re K H' W' kvs es
  | [], es, h => by simpa only [Re] using h
  | (k, d) :: kvs, es, h => by
    simp only [Re] at h ⊢
    obtain ⟨e, r, x, y, h0, h1, h2, h3, h4, h5, h6⟩ := h
    exact ⟨e, r, x, y, h0, h1, R.stp s k x h2, h3, h4, R.stp s d y h5, Re.stp s kvs r h6⟩
end
theorem Rs.length : ∀ {ds : List D} {xs : List V}, Rs K H W ds xs → xs.length = ds.length
  | [], xs, h => by simp only [Rs] at h; subst h; rfl
  | d :: ds, xs, h => by
    simp only [Rs] at h
    obtain ⟨x, r, e, _, h2⟩ := h
    rw [e, List.length_cons, List.length_cons, Rs.length h2]
theorem Rs.get : ∀ {ds : List D} {xs : List V} {i : Nat} {d : D}, Rs K H W ds xs → ds[i]? = some d → ∃ x, xs[i]? = some x ∧ R K H W d x
  | [], xs, i, d, h, e => by simp at e
  | d :: ds, xs, 0, d', h, e => by
    simp only [Rs] at h
    obtain ⟨x, r, rfl, h1, h2⟩ := h
    simp at e; subst e
    exact ⟨x, rfl, h1⟩
  | d :: ds, xs, i + 1, d', h, e => by
    simp only [Rs] at h
    obtain ⟨x, r, rfl, h1, h2⟩ := h
    obtain ⟨y, e1, e2⟩ := Rs.get (i := i) h2 (by simpa using e)
    exact ⟨y, by simpa using e1, e2⟩
theorem Rs.append : ∀ {ds es : List D} {xs ys : List V}, Rs K H W ds xs → Rs K H W es ys → Rs K H W (ds ++ es) (xs ++ ys)
  | [], es, xs, ys, h, h' => by simp only [Rs] at h; subst h; exact h'
  | d :: ds, es, xs, ys, h, h' => by
    simp only [Rs] at h
    obtain ⟨x, r, rfl, h1, h2⟩ := h
    simp only [List.cons_append, Rs]
    exact ⟨x, _, rfl, h1, Rs.append h2 h'⟩
theorem Rs.one {d : D} {x : V} (h : R K H W d x) : Rs K H W [d] [x] := by simp only [Rs]; exact ⟨x, [], rfl, h, rfl⟩
theorem Rs.take : ∀ (n : Nat) {ds : List D} {xs : List V}, Rs K H W ds xs → Rs K H W (ds.take n) (xs.take n)
  | 0, ds, xs, h => by simp [Rs]
  | n + 1, [], xs, h => by simp only [Rs] at h; subst h; simp [Rs]
  | n + 1, d :: ds, xs, h => by
    simp only [Rs] at h
    obtain ⟨x, r, rfl, h1, h2⟩ := h
    simp only [List.take_succ_cons, Rs]
    exact ⟨x, _, rfl, h1, Rs.take n h2⟩
theorem Rs.drop : ∀ (n : Nat) {ds : List D} {xs : List V}, Rs K H W ds xs → Rs K H W (ds.drop n) (xs.drop n)
  | 0, ds, xs, h => h
  | n + 1, [], xs, h => by simp only [Rs] at h; subst h; simp [Rs]
  | n + 1, d :: ds, xs, h => by
    simp only [Rs] at h
    obtain ⟨x, r, rfl, h1, h2⟩ := h
    simp only [List.drop_succ_cons]
    exact Rs.drop n h2
theorem Rs.set : ∀ (n : Nat) {ds : List D} {xs : List V} {d : D} {x : V}, Rs K H W ds xs → R K H W d x → Rs K H W (ds.set n d) (xs.set n x)
  | _, [], xs, d, x, h, h' => by simp only [Rs] at h; subst h; simp [Rs]
  | 0, d :: ds, xs, _, _, h, h' => by
    simp only [Rs] at h
    obtain ⟨x, r, rfl, h1, h2⟩ := h
    simp only [List.set_cons_zero, Rs]
    exact ⟨_, _, rfl, h', h2⟩
  | n + 1, d :: ds, xs, _, _, h, h' => by
    simp only [Rs] at h
    obtain ⟨x, r, rfl, h1, h2⟩ := h
    simp only [List.set_cons_succ, Rs]
    exact ⟨_, _, rfl, h1, Rs.set n h2 h'⟩
theorem Rs.eraseIdx : ∀ (n : Nat) {ds : List D} {xs : List V}, Rs K H W ds xs → Rs K H W (ds.eraseIdx n) (xs.eraseIdx n)
  | _, [], xs, h => by simp only [Rs] at h; subst h; simp [Rs]
  | 0, d :: ds, xs, h => by
    simp only [Rs] at h
    obtain ⟨x, r, rfl, h1, h2⟩ := h
    simpa only [List.eraseIdx_cons_zero] using h2
  | n + 1, d :: ds, xs, h => by
    simp only [Rs] at h
    obtain ⟨x, r, rfl, h1, h2⟩ := h
    simp only [List.eraseIdx_cons_succ, Rs]
    exact ⟨_, _, rfl, h1, Rs.eraseIdx n h2⟩
theorem Rs.reverse {ds : List D} {xs : List V} (h : Rs K H W ds xs) : Rs K H W ds.reverse xs.reverse := by
  induction ds generalizing xs with
  | nil => simp only [Rs] at h; subst h; simp [Rs]
  | cons d ds ih =>
    simp only [Rs] at h
    obtain ⟨x, r, rfl, h1, h2⟩ := h
    rw [List.reverse_cons, List.reverse_cons]
    exact (ih h2).append (Rs.one h1)
theorem Rs.ints : ∀ {ns : List Int}, Rs K H W (ns.map PyData.int) (ns.map V.int)
  | [] => by simp [Rs]
  | n :: ns => by simp only [List.map_cons, Rs, R]; exact ⟨_, _, rfl, rfl, Rs.ints⟩
theorem Rs.of_ints : ∀ {ns : List Int} {xs : List V}, Rs K H W (ns.map PyData.int) xs → xs = ns.map V.int
  | [], xs, h => by simpa [Rs] using h
  | n :: ns, xs, h => by
    simp only [List.map_cons, Rs, R] at h ⊢
    obtain ⟨x, r, rfl, rfl, h2⟩ := h
    rw [Rs.of_ints h2]
theorem Rs.of_bls : ∀ {ns : List Bool} {xs : List V}, Rs K H W (ns.map PyData.bool) xs → xs = ns.map V.bl
  | [], xs, h => by simpa [Rs] using h
  | n :: ns, xs, h => by
    simp only [List.map_cons, Rs, R] at h ⊢
    obtain ⟨x, r, rfl, rfl, h2⟩ := h
    rw [Rs.of_bls h2]
/-- what is no list, dict, tuple -/
def flat : D → Bool
  | .none | .bool _ | .int _ | .str _ => true
  | _ => false
theorem R.flat {d : D} {v : V} (f : flat d = true) (h : R K H W d v) : R K H' W' d v := by
  cases d <;> simp [DI.flat] at f <;> simpa [R] using h
end
end DI
set_option Elab.async false
set_option linter.all false
set_option maxRecDepth 100000
set_option maxHeartbeats 4000000
/-! the small language: resolved syntax, answers, evaluation -/
namespace DI
open PySem PySem.Spec PyProof.Rows L2
inductive Out (α : Type) where
  | ok (a : α) | exc (c : Str) (p : List D) | bad
def Out.bind {α β : Type} (o : Out α) (f : α → Out β) : Out β := match o with
  | .ok a => f a
  | .exc c p => .exc c p
  | .bad => .bad
instance : Monad Out where
  pure := .ok
  bind := Out.bind
@[simp] theorem bind_ok {α β : Type} (a : α) (f : α → Out β) : Out.bind (.ok a) f = f a := rfl
@[simp] theorem bind_exc {α β : Type} (c : Str) (p : List D) (f : α → Out β) : Out.bind (.exc c p : Out α) f = .exc c p := rfl
@[simp] theorem bind_bad {α β : Type} (f : α → Out β) : Out.bind (.bad : Out α) f = .bad := rfl
inductive Sl where
  | un | sh (d : D) | ow (d : D)
abbrev Rho := List Sl
mutual
inductive CE where
  | cst (d : D) | gl (d : D) | var (i : Nat)
  | tup (es : CL) | lst (es : CL) | dic0
  | bin (op : Operator) (a b : CE) | neg (a : CE)
  | cmp (op : CmpOp) (a b : CE) | chn (o1 o2 : CmpOp) (a b c : CE)
  | and_ (a b : CE) | or_ (a b : CE) | not_ (a : CE) | ife (c a b : CE)
  | call (f : Str) (fr : Bool) (es : CL) | srt (f : Str) (e : CE) | bi (f : String) (es : CL) | isi (a : CE) (t : String)
  | rev (a : CE) | ix (a b : CE) | slc (a : CE) (lo hi : CO)
  | lc (own : List Nat) (tg : List Nat) (isT : Bool) (it : CI) (ifs : CO) (elt : CE)
inductive CO where
  | no | so (e : CE)
inductive CL where
  | nil | cons (e : CE) (es : CL)
inductive CI where
  | val (e : CE) | rng1 (a : CE) | rng2 (a b : CE) | zip (a b : CE) | enm (a : CE)
end
/-! ### operations on data -/
def szOk (n : Nat) : Bool := decide (n ≤ 16777216)
def mulOk (i j : Int) : Bool := (decide (-(2 ^ 64) < i) && decide (i < 2 ^ 64)) || (decide (-(2 ^ 64) < j) && decide (j < 2 ^ 64)) || decide (i.natAbs.log2 + j.natAbs.log2 < 1000000)
def guardP {α : Type} (b : Bool) (o : Option α) : Option α := if b = true then o else none
def binD : Operator → D → D → Option D
  | .Add, .int i, .int j => some (.int (i + j))
  | .Add, .str x, .str y => guardP (szOk (x.length + y.length)) (some (.str (x ++ y)))
  | .Add, .list xs, .list ys => guardP (szOk (xs.length + ys.length)) (some (.list (xs ++ ys)))
  | .Add, .tuple xs, .tuple ys => guardP (szOk (xs.length + ys.length)) (some (.tuple (xs ++ ys)))
  | .Sub, .int i, .int j => some (.int (i - j))
  | .Mult, .int i, .int j => guardP (mulOk i j) (some (.int (i * j)))
  | .FloorDiv, .int i, .int j => guardP (decide (0 < j) && decide (j.natAbs.log2 < 9000)) (some (.int (i / j)))
  | .Mod, .int i, .int j => guardP (decide (0 < j)) (some (.int (i % j)))
  | .Pow, .int i, .int j => guardP (decide (0 ≤ j) && decide (j ≤ 1000000) && decide (i.natAbs < 2 ^ 64)) (some (.int (i ^ j.toNat)))
  | .LShift, .int i, .int j => guardP (decide (0 ≤ j) && decide (j ≤ 1000000) && decide (i.natAbs < 2 ^ 64)) (some (.int (i * 2 ^ j.toNat)))
  | .RShift, .int i, .int j => guardP (decide (0 ≤ j)) (some (.int (i / 2 ^ j.toNat)))
  | .BitAnd, .int i, .int j => some (.int (Builtin.bitAnd i j))
  | .BitOr, .int i, .int j => some (.int (Builtin.bitOr i j))
  | _, _, _ => none
def shp (d : D) : Bool := d.plain && decide (d.depth ≤ 60)
def inD (x : D) : D → Option Bool
  | .list ds => guardP (shp x && shp (.list ds)) (some (ds.any fun z => PyData.eqv z x))
  | .tuple ds => guardP (shp x && shp (.tuple ds)) (some (ds.any fun z => PyData.eqv z x))
  | .str y => match x with
    | .str z => some (!(Builtin.Str.occurrences y z 0 y.length 1).isEmpty)
    | _ => none
  | _ => none
def isNonD : D → Bool
  | .none => true
  | _ => false
def isD : D → D → Option Bool
  | x, .none => some (isNonD x)
  | .bool a, .bool b => some (a == b)
  | _, _ => none
def ltD : D → D → Option Bool
  | .int i, .int j => some (decide (i < j))
  | .str x, .str y => some (decide (x.cps.toList < y.cps.toList))
  | .tuple xs, .tuple ys => guardP (shp (.tuple xs) && (shp (.tuple ys) && PySem.W.alike (.tuple xs) (.tuple ys))) (some (PySem.W.dataLt (.tuple xs) (.tuple ys)))
  | .list xs, .list ys => guardP (shp (.list xs) && (shp (.list ys) && PySem.W.alike (.list xs) (.list ys))) (some (PySem.W.dataLt (.list xs) (.list ys)))
  | _, _ => none
def cmpD : CmpOp → D → D → Option Bool
  | .Eq, x, y => guardP (shp x && shp y) (some (PyData.eqv x y))
  | .NotEq, x, y => guardP (shp x && shp y) (some (!PyData.eqv x y))
  | .Lt, x, y => ltD x y
  | .Gt, .int i, .int j => some (decide (j < i))
  | .LtE, .int i, .int j => some (decide (i ≤ j))
  | .GtE, .int i, .int j => some (decide (j ≤ i))
  | .In, x, y => inD x y
  | .NotIn, x, y => (inD x y).map (!·)
  | .Is, x, y => isD x y
  | .IsNot, x, y => (isD x y).map (!·)
  | _, _, _ => none
def ixD : D → D → Option D
  | .list xs, .int i => atI xs i
  | .tuple xs, .int i => atI xs i
  | .str z, .int i => guardP (szOk z.length) ((atI z.cps.toList i).map fun c => .str ⟨#[c]⟩)
  | _, _ => none
def ob {α : Type} : Option α → Out α
  | some a => .ok a
  | none => .bad
def cutD (xs : List D) (lo hi : Option Int) : List D := (xs.drop (HT.sIx xs.length 0 lo)).take (HT.sIx xs.length xs.length hi - HT.sIx xs.length 0 lo)
def slcD : D → Option Int → Option Int → Option D
  | .list xs, lo, hi => some (.list (cutD xs lo hi))
  | .tuple xs, lo, hi => some (.tuple (cutD xs lo hi))
  | _, _, _ => none
def asB : D → Option Bool
  | .bool b => some b
  | _ => none
def asI : D → Option Int
  | .int i => some i
  | _ => none
def boolsOf : List D → Option (List Bool)
  | [] => some []
  | .bool b :: r => (boolsOf r).map (b :: ·)
  | _ :: _ => none
def intsOf : List D → Option (List Int)
  | [] => some []
  | .int b :: r => (intsOf r).map (b :: ·)
  | _ :: _ => none
/-- they can be sorted by these -/
def tupNE : D → Bool
  | .tuple (_ :: _) => true
  | _ => false
def notNT : D → Bool
  | .none => false
  | .tuple _ => false
  | _ => true
def srtOk (ks : List D) : Bool := (ks.all shp && (ks.all fun x => ks.all fun y => PySem.W.alike x y)) && ((ks.all tupNE || ks.all notNT) && szOk ks.length)
/-- sorted by keys -/
def srtK (xs ks : List D) : List D := ((xs.zip ks).mergeSort (PySem.W.dataLe false Prod.snd)).map Prod.fst
def asSq : D → Option (List D)
  | .list ds => some ds
  | _ => none
/-- built-in functions -/
def biD : String → List D → Option D
  | "len", [.list xs] => some (.int xs.length)
  | "len", [.tuple xs] => some (.int xs.length)
  | "len", [.str x] => guardP (szOk x.length) (some (.int x.length))
  | "list", [.list xs] => some (.list xs)
  | "list", [.tuple xs] => some (.list xs)
  | "tuple", [.list xs] => some (.tuple xs)
  | "tuple", [.tuple xs] => some (.tuple xs)
  | "int", [.int i] => some (.int i)
  | "int", [.bool b] => some (.int (if b then 1 else 0))
  | "all", [.list xs] => (boolsOf xs).map fun bs => .bool (bs.all id)
  | "any", [.list xs] => (boolsOf xs).map fun bs => .bool (bs.any id)
  | "sorted", [.list xs] => guardP (srtOk xs) (some (.list (srtK xs xs)))
  | "sum", [.list xs] => (intsOf xs).map fun ns => .int ns.sum
  | "min", [.int i, .int j] => some (.int (if j < i then j else i))
  | "max", [.int i, .int j] => some (.int (if j > i then j else i))
  | _, _ => none
def tyD : D → String
  | .none => "NoneType"
  | .bool _ => "bool"
  | .int _ => "int"
  | .str _ => "str"
  | .list _ => "list"
  | .tuple _ => "tuple"
  | .dict _ => "dict"
/-- isinstance of a built-in type -/
def isiD (d : D) (t : String) : Option D :=
  if t = "str" ∨ t = "int" ∨ t = "bool" ∨ t = "tuple" ∨ t = "list" ∨ t = "dict" then some (.bool (decide (tyD d = t) || (decide (tyD d = "bool") && decide (t = "int")))) else none
/-- what is walked -/
def itemsD : D → Option (List D)
  | .list xs => some xs
  | .tuple xs => some xs
  | .str x => some (x.cps.toList.map fun c => .str ⟨#[c]⟩)
  | _ => none
def rngD (i j : Int) : Option (List D) := guardP (decide (-(2 ^ 62) ≤ i) && decide (i < 2 ^ 62) && decide (-(2 ^ 62) ≤ j) && decide (j < 2 ^ 62)) (some ((List.range (j - i).toNat).map fun (k : Nat) => .int (i + k)))
def zipD : D → D → Option (List D)
  | .list xs, .list ys => some (List.zipWith (fun x y => .tuple [x, y]) xs ys)
  | .tuple xs, .tuple ys => some (List.zipWith (fun x y => .tuple [x, y]) xs ys)
  | _, _ => none
def enmD : D → Option (List D)
  | .list xs => some ((List.range xs.length).zipWith (fun (k : Nat) x => .tuple [.int k, x]) xs)
  | _ => none
/-- a target given what is walked -/
def setAll : List Nat → List D → Rho → Rho
  | i :: is, d :: ds, ρ => setAll is ds (ρ.set i (.sh d))
  | _, _, ρ => ρ
def setTg (tg : List Nat) (isT : Bool) (d : D) (ρ : Rho) : Out Rho :=
  if isT = true then match d with
    | .tuple ds => if ds.length = tg.length then .ok (setAll tg ds ρ) else .bad
    | _ => .bad
  else match tg with
    | [i] => .ok (ρ.set i (.sh d))
    | _ => .bad
/-- slots of a comprehension's own names -/
def wipeR : Rho → List Nat → Rho
  | ρ, [] => ρ
  | ρ, i :: is => (wipeR ρ is).set i .un
/-- over what is walked -/
def notOw (ρ : Rho) (i : Nat) : Bool := match ρ[i]? with | some (.ow _) => false | _ => true
def mapD (f : List D → Out D) : List D → Out (List D)
  | [] => .ok []
  | d :: ds => match f [d] with
    | .ok x => (mapD f ds).bind fun r => .ok (x :: r)
    | _ => .bad
def lcLoop (f : D → Out (Option D)) : List D → Out (List D)
  | [] => .ok []
  | d :: ds => match f d with
    | .ok (some x) => (lcLoop f ds).bind fun r => .ok (x :: r)
    | .ok none => lcLoop f ds
    | _ => .bad
/-! ### evaluation -/
section
variable (cf : Str → List D → Out D)
mutual
def evalE : Bool → CE → Rho → Out D
  | _, .cst d, _ => .ok d
  | _, .gl d, _ => .ok d
  | pk, .var i, ρ => match ρ[i]? with | some (.sh d) => .ok d | some (.ow d) => if pk = true then .ok d else .bad | _ => .bad
  | _, .tup es, ρ => (evalL es ρ).bind fun ds => ob (guardP (szOk ds.length) (some (.tuple ds)))
  | _, .lst es, ρ => (evalL es ρ).bind fun ds => ob (guardP (szOk ds.length) (some (.list ds)))
  | _, .dic0, _ => .ok (.dict [])
  | _, .bin op a b, ρ => (evalE true a ρ).bind fun x => (evalE true b ρ).bind fun y => ob (binD op x y)
  | _, .neg a, ρ => (evalE true a ρ).bind fun x => (ob (asI x)).bind fun i => .ok (.int (-i))
  | _, .cmp op a b, ρ => (evalE true a ρ).bind fun x => (evalE true b ρ).bind fun y => (ob (cmpD op x y)).bind fun c => .ok (.bool c)
  | _, .chn o1 o2 a b c, ρ => (evalE true a ρ).bind fun x => (evalE true b ρ).bind fun y => (ob (cmpD o1 x y)).bind fun k => if k = true then (evalE true c ρ).bind fun z => (ob (cmpD o2 y z)).bind fun c => .ok (.bool c) else .ok (.bool false)
  | _, .and_ a b, ρ => (evalE false a ρ).bind fun x => (ob (asB x)).bind fun k => if k = true then evalE false b ρ else .ok (.bool false)
  | _, .or_ a b, ρ => (evalE false a ρ).bind fun x => (ob (asB x)).bind fun k => if k = true then .ok (.bool true) else evalE false b ρ
  | _, .not_ a, ρ => (evalE false a ρ).bind fun x => (ob (asB x)).bind fun k => .ok (.bool (!k))
  | _, .ife c a b, ρ => (evalE false c ρ).bind fun x => (ob (asB x)).bind fun k => if k = true then evalE false a ρ else evalE false b ρ
  | _, .call f _ es, ρ => (evalL es ρ).bind fun ds => cf f ds
  | _, .srt f e, ρ => (evalE true e ρ).bind fun x => (ob (asSq x)).bind fun xs => (mapD (cf f) xs).bind fun ks => ob (guardP (srtOk ks) (some (.list (srtK xs ks))))
  | _, .bi f es, ρ => (evalPL es ρ).bind fun ds => ob (biD f ds)
  | _, .isi a t, ρ => (evalE true a ρ).bind fun x => ob (isiD x t)
  | _, .rev a, ρ => (evalE true a ρ).bind fun x => (ob (asSq x)).bind fun xs => .ok (.list xs.reverse)
  | _, .ix a b, ρ => (evalE true a ρ).bind fun x => (evalE true b ρ).bind fun y => ob (ixD x y)
  | _, .slc a lo hi, ρ => (evalE true a ρ).bind fun x => (evalO lo ρ).bind fun l => (evalO hi ρ).bind fun h => ob (slcD x l h)
  | _, .lc own tg isT it ifs elt, ρ => if (own.all (notOw ρ)) = true then (evalI it ρ).bind fun ds =>
      (lcLoop (fun d => (setTg tg isT d (wipeR ρ own)).bind fun ρ' => (evalT ifs ρ').bind fun k => if k = true then (evalE false elt ρ').bind fun x => .ok (some x) else .ok none) ds).bind fun r => ob (guardP (szOk ds.length) (some (.list r))) else .bad
def evalO : CO → Rho → Out (Option Int)
  | .no, _ => .ok none
  | .so e, ρ => (evalE false e ρ).bind fun x => (ob (asI x)).bind fun i => .ok (some i)
def evalT : CO → Rho → Out Bool
  | .no, _ => .ok true
  | .so e, ρ => (evalE false e ρ).bind fun x => ob (asB x)
def evalL : CL → Rho → Out (List D)
  | .nil, _ => .ok []
  | .cons e es, ρ => (evalE false e ρ).bind fun x => (evalL es ρ).bind fun xs => .ok (x :: xs)
def evalPL : CL → Rho → Out (List D)
  | .nil, _ => .ok []
  | .cons e es, ρ => (evalE true e ρ).bind fun x => (evalPL es ρ).bind fun xs => .ok (x :: xs)
def evalI : CI → Rho → Out (List D)
  | .val e, ρ => (evalE false e ρ).bind fun x => ob (itemsD x)
  | .rng1 a, ρ => (evalE false a ρ).bind fun x => (ob (asI x)).bind fun i => ob (rngD 0 i)
  | .rng2 a b, ρ => (evalE false a ρ).bind fun x => (evalE false b ρ).bind fun y => (ob (asI x)).bind fun i => (ob (asI y)).bind fun j => ob (rngD i j)
  | .zip a b, ρ => (evalE false a ρ).bind fun x => (evalE false b ρ).bind fun y => ob (zipD x y)
  | .enm a, ρ => (evalE false a ρ).bind fun x => ob (enmD x)
end
end
def compLs (f : Expr → Option CE) : List Expr → Option CL
  | [] => some .nil
  | e :: es => (f e).bind fun c => (compLs f es).bind fun cl => some (.cons c cl)
def compB (op : BoolOp) (f : Expr → Option CE) : List Expr → Option CE
  | [] => none
  | [e] => f e
  | e :: e2 :: es => (f e).bind fun c => (compB op f (e2 :: es)).bind fun c' => some (match op with | .And => .and_ c c' | .Or => .or_ c c')
/-- a list, a dict that comes of it is new -/
def freshE : CE → Bool
  | .lst _ | .dic0 | .bin _ _ _ | .slc _ _ _ | .lc _ _ _ _ _ _ | .bi _ _ | .srt _ _ | .rev _ => true
  | .call _ fr _ => fr
  | _ => false
end DI
set_option Elab.async false
set_option linter.all false
set_option maxRecDepth 100000
set_option maxHeartbeats 4000000
/-! what evaluation answers is what the model does: expressions -/
namespace DI
open PySem PySem.Spec PyProof.Rows L2
def Wn (W0 : WS) (σ : L2.St) (ρ : Rho) : WS := fun a => W0 a ∨ ∃ (i : Nat) (d : D), ρ[i]? = some (Sl.ow d) ∧ σ[i]? = some (some (V.ref a))
def OwnAt (K : PySem.W.Frag × World) (H : Hp) (W : WS) (a : Addr) : D → Prop
  | .list ds => ∃ xs, H a = some (.lst xs) ∧ Rs K H W ds xs
  | .dict kvs => ∃ o es ep, H a = some (.ext fun h => h.get? a = some o) ∧ (a == sysModules) = false ∧ o.ExactDict ∧ o.data = .dict es ep ∧ Re K H W kvs es.toList
  | _ => False
theorem OwnAt.trk {K : PySem.W.Frag × World} {H : Hp} {W : WS} {a : Addr} {d : D} (h : OwnAt K H W a d) : H a ≠ none := by
  cases d <;> simp only [OwnAt] at h
  · obtain ⟨xs, h1, _⟩ := h; rw [h1]; simp
  · obtain ⟨o, es, ep, h1, _⟩ := h; rw [h1]; simp
structure Rep (K : PySem.W.Frag × World) (W0 : WS) (σ : L2.St) (H : Hp) (ρ : Rho) : Prop where
  len : ρ.length = σ.length
  sh : ∀ (i : Nat) (d : D), ρ[i]? = some (Sl.sh d) → ∃ v, σ[i]? = some (some v) ∧ R K H (Wn W0 σ ρ) d v
  ow : ∀ (i : Nat) (d : D), ρ[i]? = some (Sl.ow d) → ∃ a, σ[i]? = some (some (V.ref a)) ∧ OwnAt K H (Wn W0 σ ρ) a d ∧ ¬ W0 a
  apart : ∀ (i j : Nat) (di dj : D) (a : Addr), ρ[i]? = some (Sl.ow di) → ρ[j]? = some (Sl.ow dj) → σ[i]? = some (some (V.ref a)) → σ[j]? = some (some (V.ref a)) → i = j
  trk : ∀ a, W0 a → H a ≠ none
section
variable {K : PySem.W.Frag × World} {W0 W W' : WS} {σ : L2.St} {H H' : Hp} {ρ : Rho}
theorem OwnAt.stp {a : Addr} {d : D} (s : Stp H W H' W') (ha : ∀ o, H a = some o → H' a = some o) (h : OwnAt K H W a d) : OwnAt K H' W' a d := by
  cases d <;> simp only [OwnAt] at h ⊢
  · obtain ⟨xs, h1, h2⟩ := h; exact ⟨xs, ha _ h1, Rs.stp s _ _ h2⟩
  · obtain ⟨o, es, ep, h1, h2, h3, h4, h5⟩ := h; exact ⟨o, es, ep, ha _ h1, h2, h3, h4, Re.stp s _ _ h5⟩
theorem Rep.same (r : Rep K W0 σ H ρ) (s : Same H H') : Rep K W0 σ H' ρ :=
  ⟨r.len, fun i d e => let ⟨v, h1, h2⟩ := r.sh i d e; ⟨v, h1, R.stp (Stp.of_same s) d v h2⟩,
   fun i d e => let ⟨a, h1, h2, h3⟩ := r.ow i d e; ⟨a, h1, h2.stp (Stp.of_same s) (fun o => s a o), h3⟩, r.apart,
   fun a h => by
    cases e : H a with
    | none => exact absurd e (r.trk a h)
    | some o => rw [s a o e]; simp⟩
theorem Rep.wtrk (r : Rep K W0 σ H ρ) : ∀ a, Wn W0 σ ρ a → H a ≠ none := fun a h => by
  rcases h with h | ⟨i, d, h1, h2⟩
  · exact r.trk a h
  · obtain ⟨b, e1, e2, _⟩ := r.ow i d h1
    rw [h2] at e1; cases e1
    exact e2.trk
/-- what is read: perhaps an owned one -/
def RP (K : PySem.W.Frag × World) (H : Hp) (W : WS) (d : D) (v : V) : Prop := R K H W d v ∨ ∃ a, v = .ref a ∧ OwnAt K H W a d
theorem RP.same {d : D} {v : V} (s : Same H H') (h : RP K H W d v) : RP K H' W d v := h.elim (fun h => .inl (R.stp (Stp.of_same s) d v h)) fun ⟨a, e, h⟩ => .inr ⟨a, e, h.stp (Stp.of_same s) fun o => s a o⟩
theorem R.same {d : D} {v : V} (s : Same H H') (h : R K H W d v) : R K H' W d v := R.stp (Stp.of_same s) d v h
theorem Rs.same {d : List D} {v : List V} (s : Same H H') (h : Rs K H W d v) : Rs K H' W d v := Rs.stp (Stp.of_same s) d v h
theorem RP.list {ds : List D} {v : V} (h : RP K H W (.list ds) v) : ∃ a xs, v = .ref a ∧ SqL K.1 H a xs ∧ Rs K H W ds xs := by
  rcases h with h | ⟨a, e, h⟩
  · simp only [R] at h
    obtain ⟨a, xs, e, h1, h2⟩ := h
    exact ⟨a, xs, e, h1.sq, h2⟩
  · simp only [OwnAt] at h
    obtain ⟨xs, h1, h2⟩ := h
    exact ⟨a, xs, e, .of h1, h2⟩
theorem RP.tuple {ds : List D} {v : V} (h : RP K H W (.tuple ds) v) : ∃ a xs, v = .ref a ∧ TupAt K.1 H W a xs ∧ Rs K H W ds xs := by
  rcases h with h | ⟨a, e, h⟩
  · simpa only [R] using h
  · simp only [OwnAt] at h
theorem RP.int {i : Int} {v : V} (h : RP K H W (.int i) v) : v = .int i := by
  rcases h with h | ⟨a, e, h⟩
  · simpa only [R] using h
  · simp only [OwnAt] at h
theorem RP.str {i : Str} {v : V} (h : RP K H W (.str i) v) : v = .str i := by
  rcases h with h | ⟨a, e, h⟩
  · simpa only [R] using h
  · simp only [OwnAt] at h
theorem RP.bool {i : Bool} {v : V} (h : RP K H W (.bool i) v) : v = .bl i := by
  rcases h with h | ⟨a, e, h⟩
  · simpa only [R] using h
  · simp only [OwnAt] at h
theorem RP.none {v : V} (h : RP K H W .none v) : v = .non := by
  rcases h with h | ⟨a, e, h⟩
  · simpa only [R] using h
  · simp only [OwnAt] at h
/-- a new tuple, a new list -/
theorem R.newTup {ds : List D} {xs : List V} {p : Addr} (hW : ∀ a, W a → H a ≠ Option.none) (hp : H p = Option.none) (h : Rs K H W ds xs) : R K (upd H p (.tup xs)) W (.tuple ds) (.ref p) := by
  simp only [R]
  exact ⟨p, xs, rfl, .inl ⟨.of upd_same, fun q => hW p q hp⟩, Rs.same (fun b o e => by rw [upd_ne (ne_of_none e hp)]; exact e) h⟩
theorem R.newLst {ds : List D} {xs : List V} {p : Addr} (hW : ∀ a, W a → H a ≠ Option.none) (hp : H p = Option.none) (h : Rs K H W ds xs) : R K (upd H p (.lst xs)) W (.list ds) (.ref p) := by
  simp only [R]
  exact ⟨p, xs, rfl, .inl ⟨.of upd_same, fun q => hW p q hp⟩, Rs.same (fun b o e => by rw [upd_ne (ne_of_none e hp)]; exact e) h⟩
def isBox : D → Bool
  | .list _ | .dict _ => true
  | _ => false
/-- it may be read; a list, a dict is new since H -/
def RN (K : PySem.W.Frag × World) (H H' : Hp) (W : WS) (d : D) (v : V) : Prop := R K H' W d v ∧ (isBox d = true → ∃ a, v = .ref a ∧ H a = Option.none ∧ OwnAt K H' (fun b => W b ∨ b = a) a d)
theorem RN.of {d : D} {v : V} (h : R K H' W d v) (b : isBox d = false) : RN K H H' W d v := ⟨h, fun q => by rw [b] at q; cases q⟩
theorem RN.newLst {ds : List D} {xs : List V} {p : Addr} (hW : ∀ a, W a → H a ≠ Option.none) (hp : H p = Option.none) (h : Rs K H W ds xs) : RN K H (upd H p (.lst xs)) W (.list ds) (.ref p) := by
  refine ⟨R.newLst hW hp h, fun _ => ⟨p, rfl, hp, ?_⟩⟩
  simp only [OwnAt]
  refine ⟨xs, upd_same, Rs.stp ⟨fun a o e n => ⟨by rw [upd_ne (ne_of_none e hp)]; exact e, fun q => q.elim n (ne_of_none e hp)⟩, fun a q => q.elim .inl (fun z => .inr (z ▸ hp))⟩ _ _ h⟩
theorem RN.start {H1 : Hp} {d : D} {v : V} (s : ∀ a, H1 a = Option.none → H a = Option.none) (h : RN K H1 H' W d v) : RN K H H' W d v := ⟨h.1, fun q => let ⟨a, e, n, o⟩ := h.2 q; ⟨a, e, s a n, o⟩⟩
theorem same_new {p : Addr} {o : HO} (hp : H p = Option.none) : Same H (upd H p o) := fun b u e => by rw [upd_ne (ne_of_none e hp)]; exact e
end
/-! ### answers as readings -/
/-- how an exception stands -/
def ExcR (X : Cx) (c : Str) (p : List D) (cls : Value) (dd : Option Addr) (H : Hp) : Prop := ∃ C, X.mg c = some (.ref C) ∧ cls = .ref C ∧ p = [] ∧ dd = none
abbrev Rel (α β : Type) := Hp → Hp → WS → α → β → Prop
/-- from an earlier heap it is the same -/
def Mono {α β : Type} (rel : Rel α β) : Prop := ∀ H H1 H' W a v, Same H H1 → rel H1 H' W a v → rel H H' W a v
def AnW {α β : Type} (X : Cx) (Wx : WX) (W0 : WS) (ρ : Rho) (o : Out α) (rel : Rel α β) (σ : L2.St) (H : Hp) (Q : β → Hp → Prop) : Prop :=
  Rep (X.K, X.w) W0 σ H ρ ∧ match o with
    | .ok d => ∀ v H', Same H H' → rel H H' (Wn W0 σ ρ) d v → Q v H'
    | .exc c p => ∀ cls dd H', Same H H' → ExcR X c p cls dd H' → Wx cls dd σ H'
    | .bad => False
def An {α β : Type} (X : Cx) (Wx : WX) (ρ : Rho) (o : Out α) (rel : Rel α β) : L2.St → Hp → (β → Hp → Prop) → Prop := fun σ H Q => ∃ W0, AnW X Wx W0 ρ o rel σ H Q
section
variable {X : Cx} {Wx : WX} {W0 : WS} {ρ : Rho} {σ : L2.St} {H : Hp}
theorem AnW.bind {α β γ δ : Type} {o : Out α} {f : α → Out γ} {rel1 : Rel α β} {rel2 : Rel γ δ} {Q : δ → Hp → Prop} {P : β → Hp → Prop} (h : AnW X Wx W0 ρ (o.bind f) rel2 σ H Q) (m : Mono rel2)
    (k : ∀ a v H1, Same H H1 → rel1 H H1 (Wn W0 σ ρ) a v → AnW X Wx W0 ρ (f a) rel2 σ H1 Q → P v H1) : AnW X Wx W0 ρ o rel1 σ H P := by
  obtain ⟨rep, h⟩ := h
  cases o with
  | ok a =>
    refine ⟨rep, fun v H1 s r => k a v H1 s r ⟨rep.same s, ?_⟩⟩
    simp only [bind_ok] at h
    revert h
    cases f a with
    | ok d => exact fun h v H' s' r' => h v H' (s.trans s') (m _ _ _ _ _ _ s r')
    | exc c p => exact fun h cls dd H' s' r' => h cls dd H' (s.trans s') r'
    | bad => exact id
  | exc c p => exact ⟨rep, h⟩
  | bad => exact ⟨rep, h⟩
/-- the answer is known -/
theorem AnW.ok {α β : Type} {a : α} {rel : Rel α β} {Q : β → Hp → Prop} (h : AnW X Wx W0 ρ (.ok a) rel σ H Q) {v : β} {H' : Hp} (s : Same H H') (r : rel H H' (Wn W0 σ ρ) a v) : Q v H' := h.2 v H' s r
theorem AnW.ob {α β : Type} {o : Option α} {rel : Rel α β} {Q : β → Hp → Prop} (h : AnW X Wx W0 ρ (DI.ob o) rel σ H Q) : ∃ a, o = some a ∧ AnW X Wx W0 ρ (.ok a) rel σ H Q := by
  cases o with
  | some a => exact ⟨a, rfl, h⟩
  | none => exact h.2.elim
theorem AnW.obb {α β γ : Type} {o : Option α} {f : α → Out γ} {rel : Rel γ β} {Q : β → Hp → Prop} (h : AnW X Wx W0 ρ ((DI.ob o).bind f) rel σ H Q) : ∃ a, o = some a ∧ AnW X Wx W0 ρ (f a) rel σ H Q := by
  cases o with
  | some a => exact ⟨a, rfl, h⟩
  | none => exact h.2.elim
theorem AnW.bad {α β : Type} {rel : Rel α β} {Q : β → Hp → Prop} (h : AnW X Wx W0 ρ (.bad : Out α) rel σ H Q) : False := h.2
theorem PE.imp {e : Expr} {t t' : TE} (h : PE X e t) (i : ∀ σ H Q, t' σ H Q → t σ H Q) : PE X e t' := ⟨fun pins s σ H Q I q => h.run pins s σ H Q I (i σ H Q q)⟩
theorem PT.imp {e : Expr} {t t' : TT} (h : PT X e t) (i : ∀ σ H Q, t' σ H Q → t σ H Q) : PT X e t' := ⟨fun pins s σ H Q I q => h.run pins s σ H Q I (i σ H Q q)⟩
theorem PTs.imp {e : List Expr} {t t' : TT} (h : PTs X e t) (i : ∀ σ H Q, t' σ H Q → t σ H Q) : PTs X e t' := ⟨fun pins s σ H Q I q => h.run pins s σ H Q I (i σ H Q q)⟩
theorem PW.imp {e : Expr} {t t' : TT} (h : PW X e t) (i : ∀ σ H Q, t' σ H Q → t σ H Q) : PW X e t' := ⟨fun wh pins s σ H Q I q => h.run wh pins s σ H Q I (i σ H Q q)⟩
theorem PS.imp {e : Stmt} {t t' : TS} (h : PS X e t) (i : ∀ D σ H, t' D σ H → t D σ H) : PS X e t' := ⟨fun pins s σ H D I q => h.run pins s σ H D I (i D σ H q)⟩
theorem PSs.imp {e : List Stmt} {t t' : TS} (h : PSs X e t) (i : ∀ D σ H, t' D σ H → t D σ H) : PSs X e t' := ⟨fun pins s σ H D I q => h.run pins s σ H D I (i D σ H q)⟩
theorem PA.imp {e : List Expr} {t t' : TA} (h : PA X e t) (i : ∀ σ H Q, t' σ H Q → t σ H Q) : PA X e t' := ⟨fun pos pins s σ H Q I q => h.run pos pins s σ H Q I (i σ H Q q)⟩
theorem PI.imp {tg e : Expr} {t t' : TI} (h : PI X tg e t) (i : ∀ σ H Q, t' σ H Q → t σ H Q) : PI X tg e t' := ⟨fun pins s σ H Q I q => h.run pins s σ H Q I (i σ H Q q)⟩
theorem PO.imp {e : Option Expr} {t t' : TO} (h : PO X e t) (i : ∀ σ H Q, t' σ H Q → t σ H Q) : PO X e t' := ⟨fun pins s σ H Q I q => h.run pins s σ H Q I (i σ H Q q)⟩
end
/-- what a value is to be: to be read; to be read, perhaps an owned one; new, where it is a list or a dict -/
inductive Md where
  | val | pk | fr
  deriving DecidableEq
def RM (K : PySem.W.Frag × World) : Md → Rel D V
  | .val => fun _ H' W d v => R K H' W d v
  | .pk => fun _ H' W d v => RP K H' W d v
  | .fr => fun H H' W d v => RN K H H' W d v
theorem RM.mono {K : PySem.W.Frag × World} (m : Md) : Mono (RM K m) := fun H H1 H' W d v s h => by
  cases m
  · exact h
  · exact h
  · exact h.start fun a e => s.free e
/-- what is new is fit for all -/
theorem RM.ofN {K : PySem.W.Frag × World} {m : Md} {H H' : Hp} {W : WS} {d : D} {v : V} (h : RN K H H' W d v) : RM K m H H' W d v := by
  cases m
  · exact h.1
  · exact .inl h.1
  · exact h
theorem RM.ofR {K : PySem.W.Frag × World} {m : Md} (hm : m ≠ .fr) {H H' : Hp} {W : WS} {d : D} {v : V} (h : R K H' W d v) : RM K m H H' W d v := by
  cases m
  · exact h
  · exact .inl h
  · exact absurd rfl hm
abbrev tE (X : Cx) (Wx : WX) (m : Md) (ρ : Rho) (o : Out D) : TE := An X Wx ρ o (RM (X.K, X.w) m)
abbrev tB (X : Cx) (Wx : WX) (ρ : Rho) (o : Out Bool) : TT := An X Wx ρ o (fun _ _ _ d v => d = v)
abbrev tOI (X : Cx) (Wx : WX) (ρ : Rho) (o : Out (Option Int)) : TO := An X Wx ρ o (fun _ _ _ d v => d = v)
theorem monoC {α β : Type} {rel : Hp → WS → α → β → Prop} : Mono (fun _ H' W a v => rel H' W a v) := fun _ _ _ _ _ _ _ h => h
end DI
set_option Elab.async false
set_option linter.all false
set_option maxRecDepth 100000
set_option maxHeartbeats 4000000
/-! operators -/
namespace DI
open PySem PySem.Spec PyProof.Rows L2
theorem guardP_some {α : Type} {b : Bool} {o : Option α} {a : α} (h : guardP b o = some a) : b = true ∧ o = some a := by
  cases b with
  | true => exact ⟨rfl, h⟩
  | false => cases h
theorem szOk_le {n : Nat} (h : szOk n = true) : n ≤ sizeLine := by
  have := of_decide_eq_true h
  rw [sizeLine_eq]
  exact this
section
variable {X : Cx} {pins : List (Addr × Obj)} {σ : L2.St} {H H' : Hp} {W W' : WS} {s : Shared}
mutual
theorem R.reads (I : Inv X pins σ H s) : ∀ (d : D) (v : V) (u : Value), d.plain = true → R (X.K, X.w) H W d v → RelV v u → ∃ as, Reads s.heap u d as
  | .none, _, _, _, h, r => by
    simp only [R] at h; subst h
    cases r
    exact ⟨_, Reads.none⟩
  | .bool b, _, _, _, h, r => by
    simp only [R] at h; subst h
    cases r
    exact ⟨_, Reads.bool b⟩
  | .int i, _, _, _, h, r => by
    simp only [R] at h; subst h
    obtain ⟨t, rfl⟩ := r
    exact ⟨_, Reads.int i t⟩
  | .str x, _, _, _, h, r => by
    simp only [R] at h; subst h
    obtain ⟨t, rfl⟩ := r
    exact ⟨_, Reads.str x t⟩
  | .list ds, _, _, p, h, r => by
    simp only [R] at h
    obtain ⟨a, xs, rfl, hs, ha⟩ := h
    cases r
    obtain ⟨its, rv, ⟨o, n, ho, hc, _, hd⟩, _⟩ := I.list hs.sq
    obtain ⟨as, hr⟩ := Rs.reads I ds _ its (by simpa only [PyData.plain] using p) ha rv
    exact ⟨_, Reads.list ho hc hd hr⟩
  | .tuple ds, _, _, p, h, r => by
    simp only [R] at h
    obtain ⟨a, xs, rfl, hs, ha⟩ := h
    cases r
    obtain ⟨its, rv, ⟨o, ho, hc, n, hd⟩, _⟩ := I.tuple hs.sq
    obtain ⟨as, hr⟩ := Rs.reads I ds _ its (by simpa only [PyData.plain] using p) ha rv
    exact ⟨_, Reads.tuple ho hc hd hr⟩
  | .dict _, _, _, p, _, _ => by simp [PyData.plain] at p
theorem Rs.reads (I : Inv X pins σ H s) : ∀ (ds : List D) (vs : List V) (us : List Value), PyData.plainAll ds = true → Rs (X.K, X.w) H W ds vs → Vals vs us → ∃ as, ReadsAll s.heap us ds as
  | [], _, _, _, h, r => by
    simp only [Rs] at h; subst h
    cases r
    exact ⟨_, ReadsAll.nil⟩
  | d :: ds, _, _, p, h, r => by
    simp only [Rs] at h
    obtain ⟨x, xs, rfl, h1, h2⟩ := h
    simp only [PyData.plainAll, Bool.and_eq_true] at p
    cases r with
    | cons r1 r2 =>
      obtain ⟨as, q1⟩ := R.reads I d _ _ p.1 h1 r1
      obtain ⟨bs, q2⟩ := Rs.reads I ds _ _ p.2 h2 r2
      exact ⟨_, ReadsAll.cons q1 q2⟩
end
theorem RP.reads (I : Inv X pins σ H s) {d : D} {v : V} {u : Value} (p : d.plain = true) (h : RP (X.K, X.w) H W d v) (r : RelV v u) : ∃ as, Reads s.heap u d as := by
  rcases h with h | ⟨a, rfl, h⟩
  · exact R.reads I d v u p h r
  · cases d <;> simp only [OwnAt] at h
    · rename_i ds
      obtain ⟨xs, h1, h2⟩ := h
      cases r
      obtain ⟨its, rv, ⟨o, n, ho, hc, _, hd⟩, _⟩ := I.list (.of h1)
      obtain ⟨as, hr⟩ := Rs.reads I ds _ its (by simpa only [PyData.plain] using p) h2 rv
      exact ⟨_, Reads.list ho hc hd hr⟩
    · simp [PyData.plain] at p
theorem shp_plain {d : D} (h : shp d = true) : d.plain = true := (Bool.and_eq_true_iff.mp h).1
theorem shp_depth {d : D} (h : shp d = true) : d.depth ≤ 60 := of_decide_eq_true (Bool.and_eq_true_iff.mp h).2
theorem shp_list {ds : List D} (h : shp (.list ds) = true) : PyData.plainAll ds = true := by have := shp_plain h; simpa only [PyData.plain] using this
theorem shp_tuple {ds : List D} (h : shp (.tuple ds) = true) : PyData.plainAll ds = true := by have := shp_plain h; simpa only [PyData.plain] using this
theorem shp_lists {ds : List D} (h : shp (.list ds) = true) : shp (.tuple ds) = true := by
  have h1 := shp_plain h
  have h2 := shp_depth h
  unfold shp
  rw [Bool.and_eq_true]
  refine ⟨?_, decide_eq_true ?_⟩
  · simp only [PyData.plain] at h1 ⊢; exact h1
  · simp only [PyData.depth] at h2 ⊢; exact h2
/-- a reading by data: of two values -/
def rD (X : Cx) (f : D → D → Option D) : R2 := fun x y H Q => ∃ W dx dy d, (∀ a, W a → H a ≠ none) ∧ RP (X.K, X.w) H W dx x ∧ RP (X.K, X.w) H W dy y ∧ f dx dy = some d ∧ ∀ v H', Same H H' → RN (X.K, X.w) H H' W d v → Q v H'
theorem opr_weak {f : Value → Value → Sem Value} {r r' : R2} (h : OpR X f r) (i : ∀ x y H Q, r' x y H Q → r x y H Q) : OpR X f r' := fun pins s σ H x y v u Q I rx ry q => h pins s σ H x y v u Q I rx ry (i x y H Q q)
theorem opr_none {f : Value → Value → Sem Value} {r' : R2} (i : ∀ x y H Q, r' x y H Q → False) : OpR X f r' := fun pins s σ H x y v u Q I rx ry q => (i x y H Q q).elim
theorem mulOk_or {i j : Int} (h : mulOk i j = true) : CMul i j ∨ CMulW i j := by
  unfold mulOk at h
  simp only [Bool.or_eq_true, Bool.and_eq_true, decide_eq_true_eq] at h
  rcases h with (h | h) | h
  · exact .inl (.inl h)
  · exact .inl (.inr h)
  · exact .inr h
/-- xs + ys of lists that are read -/
theorem op_catL : OpR X (binaryOp .Add) (fun x y H Q => ∃ l b xs zs, x = .ref l ∧ y = .ref b ∧ SqL X.K H l xs ∧ SqL X.K H b zs ∧ xs.length + zs.length ≤ sizeLine ∧ ∀ p, H p = none → Q (.ref p) (upd H p (.lst (xs ++ zs)))) := by
  intro pins s σ H x y v u Q I rx ry h
  obtain ⟨l, b, xs, zs, rfl, rfl, hH, hB, hz, q⟩ := h
  cases rx
  cases ry
  obtain ⟨its, r, ⟨⟨c1, d1, da1, s1⟩, n, ho, hc, hdn, hd⟩, z⟩ := I.list hH
  obtain ⟨its2, r2, ⟨⟨c2, d2, da2, s2⟩, n2, ho2, hc2, hdn2, hd2⟩, z2⟩ := I.list hB
  simp only at hc hdn hd hc2 hdn2 hd2
  subst hc hdn hd hc2 hdn2 hd2
  have hl := r.length
  have hl2 := r2.length
  have ea : its.toArray ++ its2.toArray = (its ++ its2).toArray := by simp
  refine concat_meets ⟨_, ho, rfl⟩ ⟨_, ho2, rfl⟩ noFill_list_add seq_list_add PySem.F.slot_list_add PySem.F.entry_list_add (PySem.F.args_list_add_2 _ _) (list_addW l b its.toArray its2.toArray n n2 none none s1 s2 (by simp; omega)) ⟨ho, ho2, ?_⟩
  rw [ea]
  exact ⟨.ref _, _, I.lnew (t' := s.toks) (r.append r2) (by rw [List.length_append]; omega), rfl, q _ I.fresh⟩
theorem binD_ok (op : Operator) : OpR X (binaryOp op) (rD X (binD op)) := by
  have none' : ∀ op', (∀ x y, binD op' x y = none) → OpR X (binaryOp op') (rD X (binD op')) := fun op' h => opr_none fun x y H Q ⟨W, dx, dy, d, _, _, _, e, _⟩ => by rw [h] at e; cases e
  cases op with
  | Add =>
    refine opr_weak (OpR.or op_add (OpR.or op_add_str (OpR.or op_catL op_catA))) fun x y H Q h => ?_
    obtain ⟨W, dx, dy, d, hW, h1, h2, e, q⟩ := h
    cases dx <;> cases dy <;> simp only [binD] at e <;> first | cases e | skip
    · refine .inl ⟨_, _, h1.int, h2.int, q _ H (Same.refl H) (RN.of (by simp only [R]) rfl)⟩
    · obtain ⟨g, e⟩ := guardP_some e
      cases e
      exact .inr (.inl ⟨_, _, h1.str, h2.str, szOk_le g, q _ H (Same.refl H) (RN.of (by simp only [R]) rfl)⟩)
    · obtain ⟨g, e⟩ := guardP_some e
      cases e
      obtain ⟨a, xs, rfl, s1, r1⟩ := h1.list
      obtain ⟨b, ys, rfl, s2, r2⟩ := h2.list
      refine .inr (.inr (.inl ⟨a, b, xs, ys, rfl, rfl, s1, s2, by rw [r1.length, r2.length]; exact szOk_le g, fun p hp => q _ _ (same_new hp) (RN.newLst hW hp (r1.append r2))⟩))
    · obtain ⟨g, e⟩ := guardP_some e
      cases e
      obtain ⟨a, xs, rfl, s1, r1⟩ := h1.tuple
      obtain ⟨b, ys, rfl, s2, r2⟩ := h2.tuple
      rename_i ds es
      refine .inr (.inr (.inr ⟨a, b, xs, ys, rfl, rfl, s1.sq, s2.sq, by rw [r1.length, r2.length]; exact szOk_le g, fun hx => ?_, fun _ hy => ?_, fun _ _ p hp => q _ _ (same_new hp) (RN.of (R.newTup hW hp (r1.append r2)) rfl)⟩))
      · subst hx
        refine q _ H (Same.refl H) (RN.of ?_ rfl)
        have : ds = [] := List.length_eq_zero_iff.mp (by rw [← r1.length]; rfl)
        subst this
        simp only [R, List.nil_append]
        exact ⟨b, ys, rfl, s2, r2⟩
      · subst hy
        refine q _ H (Same.refl H) (RN.of ?_ rfl)
        have : es = [] := List.length_eq_zero_iff.mp (by rw [← r2.length]; rfl)
        subst this
        simp only [R, List.append_nil]
        exact ⟨a, xs, rfl, s1, r1⟩
  | Sub =>
    refine opr_weak op_sub fun x y H Q h => ?_
    obtain ⟨W, dx, dy, d, hW, h1, h2, e, q⟩ := h
    cases dx <;> cases dy <;> simp only [binD] at e <;> first | cases e | skip
    exact ⟨_, _, h1.int, h2.int, q _ H (Same.refl H) (RN.of (by simp only [R]) rfl)⟩
  | Mult =>
    refine opr_weak (OpR.or op_mul op_mulW) fun x y H Q h => ?_
    obtain ⟨W, dx, dy, d, hW, h1, h2, e, q⟩ := h
    cases dx <;> cases dy <;> simp only [binD] at e <;> first | cases e | skip
    obtain ⟨g, e⟩ := guardP_some e
    cases e
    rcases mulOk_or g with g | g
    · exact .inl ⟨_, _, h1.int, h2.int, g, q _ H (Same.refl H) (RN.of (by simp only [R]) rfl)⟩
    · exact .inr ⟨_, _, h1.int, h2.int, g, q _ H (Same.refl H) (RN.of (by simp only [R]) rfl)⟩
  | FloorDiv =>
    refine opr_weak op_fdivW fun x y H Q h => ?_
    obtain ⟨W, dx, dy, d, hW, h1, h2, e, q⟩ := h
    cases dx <;> cases dy <;> simp only [binD] at e <;> first | cases e | skip
    obtain ⟨g, e⟩ := guardP_some e
    cases e
    simp only [Bool.and_eq_true, decide_eq_true_eq] at g
    exact ⟨_, _, h1.int, h2.int, g, q _ H (Same.refl H) (RN.of (by simp only [R]) rfl)⟩
  | Mod =>
    refine opr_weak op_mod fun x y H Q h => ?_
    obtain ⟨W, dx, dy, d, hW, h1, h2, e, q⟩ := h
    cases dx <;> cases dy <;> simp only [binD] at e <;> first | cases e | skip
    obtain ⟨g, e⟩ := guardP_some e
    cases e
    simp only [decide_eq_true_eq] at g
    exact ⟨_, _, h1.int, h2.int, g, q _ H (Same.refl H) (RN.of (by simp only [R]) rfl)⟩
  | Pow =>
    refine opr_weak op_pow fun x y H Q h => ?_
    obtain ⟨W, dx, dy, d, hW, h1, h2, e, q⟩ := h
    cases dx <;> cases dy <;> simp only [binD] at e <;> first | cases e | skip
    obtain ⟨g, e⟩ := guardP_some e
    cases e
    simp only [Bool.and_eq_true, decide_eq_true_eq] at g
    exact ⟨_, _, h1.int, h2.int, ⟨g.1.1, g.1.2, g.2⟩, q _ H (Same.refl H) (RN.of (by simp only [R]) rfl)⟩
  | LShift =>
    refine opr_weak op_shl fun x y H Q h => ?_
    obtain ⟨W, dx, dy, d, hW, h1, h2, e, q⟩ := h
    cases dx <;> cases dy <;> simp only [binD] at e <;> first | cases e | skip
    obtain ⟨g, e⟩ := guardP_some e
    cases e
    simp only [Bool.and_eq_true, decide_eq_true_eq] at g
    exact ⟨_, _, h1.int, h2.int, ⟨g.1.1, g.1.2, g.2⟩, q _ H (Same.refl H) (RN.of (by simp only [R]) rfl)⟩
  | RShift =>
    refine opr_weak op_shr fun x y H Q h => ?_
    obtain ⟨W, dx, dy, d, hW, h1, h2, e, q⟩ := h
    cases dx <;> cases dy <;> simp only [binD] at e <;> first | cases e | skip
    obtain ⟨g, e⟩ := guardP_some e
    cases e
    simp only [decide_eq_true_eq] at g
    exact ⟨_, _, h1.int, h2.int, g, q _ H (Same.refl H) (RN.of (by simp only [R]) rfl)⟩
  | BitAnd =>
    refine opr_weak op_and fun x y H Q h => ?_
    obtain ⟨W, dx, dy, d, hW, h1, h2, e, q⟩ := h
    cases dx <;> cases dy <;> simp only [binD] at e <;> first | cases e | skip
    exact ⟨_, _, h1.int, h2.int, q _ H (Same.refl H) (RN.of (by simp only [R]) rfl)⟩
  | BitOr =>
    refine opr_weak op_or fun x y H Q h => ?_
    obtain ⟨W, dx, dy, d, hW, h1, h2, e, q⟩ := h
    cases dx <;> cases dy <;> simp only [binD] at e <;> first | cases e | skip
    exact ⟨_, _, h1.int, h2.int, q _ H (Same.refl H) (RN.of (by simp only [R]) rfl)⟩
  | BitXor => exact none' _ fun x y => by cases x <;> cases y <;> rfl
  | MatMult => exact none' _ fun x y => by cases x <;> cases y <;> rfl
  | Div => exact none' _ fun x y => by cases x <;> cases y <;> rfl
end
end DI
set_option Elab.async false
set_option linter.all false
set_option maxRecDepth 100000
set_option maxHeartbeats 4000000
/-! comparisons, places, slices, built-ins -/
namespace DI
open PySem PySem.Spec PyProof.Rows L2
section
variable {X : Cx} {pins : List (Addr × Obj)} {σ : L2.St} {H H' : Hp} {W W' : WS} {s : Shared} {k : Nat}
def rDB (X : Cx) (f : D → D → Option Bool) : R2 := fun x y H Q => ∃ W dx dy b, RP (X.K, X.w) H W dx x ∧ RP (X.K, X.w) H W dy y ∧ f dx dy = some b ∧ Q (.bl b) H
theorem RP.isNon {d : D} {x : V} (h : RP (X.K, X.w) H W d x) : decide (x = .non) = isNonD d := by
  rcases h with h | ⟨a, rfl, h⟩
  · cases d <;> simp only [R] at h
    · subst h; rfl
    · subst h; rfl
    · subst h; rfl
    · subst h; rfl
    · obtain ⟨a, xs, rfl, _⟩ := h; rfl
    · obtain ⟨a, xs, rfl, _⟩ := h; rfl
    · obtain ⟨a, _, _, _, rfl, _⟩ := h; rfl
  · cases d <;> simp only [OwnAt] at h
    · rfl
    · rfl
theorem op_eqP (hr : Room k X.A) : OpR X (compareOp .Eq) (rDB X (cmpD .Eq)) := by
  intro pins s σ H x y v u Q I rx ry ⟨W, dx, dy, b, h1, h2, e, q⟩
  simp only [cmpD] at e
  obtain ⟨g, e⟩ := guardP_some e
  rw [Bool.and_eq_true] at g
  obtain ⟨as, r1⟩ := h1.reads I (shp_plain g.1) rx
  obtain ⟨bs, r2⟩ := h2.reads I (shp_plain g.2) ry
  cases e
  exact SeqAt.eq_plain r1 r2 (shp_plain g.1) (shp_plain g.2) (by have := hr.units; have := shp_depth g.1; have := Nat.min_le_left dx.depth dy.depth; omega) ⟨.bl _, H, I, rfl, q⟩
theorem op_neP (hr : Room k X.A) : OpR X (compareOp .NotEq) (rDB X (cmpD .NotEq)) := by
  intro pins s σ H x y v u Q I rx ry ⟨W, dx, dy, b, h1, h2, e, q⟩
  simp only [cmpD] at e
  obtain ⟨g, e⟩ := guardP_some e
  rw [Bool.and_eq_true] at g
  obtain ⟨as, r1⟩ := h1.reads I (shp_plain g.1) rx
  obtain ⟨bs, r2⟩ := h2.reads I (shp_plain g.2) ry
  cases e
  exact SeqAt.ne_plain r1 r2 (shp_plain g.1) (shp_plain g.2) (by have := hr.units; have := shp_depth g.1; have := Nat.min_le_left dx.depth dy.depth; omega) ⟨.bl _, H, I, rfl, q⟩
theorem room_in {ds : List D} {d : D} (hr : Room k X.A) (g : shp d = true) : X.A.units + 1 + min (PyData.depthAll ds) d.depth < cLine := by
  have := hr.units; have := shp_depth g; have := Nat.min_le_right (PyData.depthAll ds) d.depth; omega
theorem op_inP (hr : Room k X.A) : OpR X (compareOp .In) (rDB X inD) := by
  intro pins s σ H x y v u Q I rx ry ⟨W, dx, dy, b, h1, h2, e, q⟩
  cases dy <;> simp only [inD] at e <;> first | cases e | skip
  · cases dx <;> simp only at e <;> first | cases e | skip
    cases h1.str
    cases h2.str
    exact op_in_str pins s σ H _ _ v u Q I rx ry ⟨_, _, rfl, rfl, q⟩
  · obtain ⟨g, e⟩ := guardP_some e
    rw [Bool.and_eq_true] at g
    obtain ⟨as, r1⟩ := h1.reads I (shp_plain g.1) rx
    obtain ⟨bs, r2⟩ := h2.reads I (shp_plain g.2) ry
    cases e
    exact SeqAt.in_list_data r2 r1 (shp_list g.2) (shp_plain g.1) (room_in hr g.1) ⟨.bl _, H, I, rfl, q⟩
  · obtain ⟨g, e⟩ := guardP_some e
    rw [Bool.and_eq_true] at g
    obtain ⟨as, r1⟩ := h1.reads I (shp_plain g.1) rx
    obtain ⟨bs, r2⟩ := h2.reads I (shp_plain g.2) ry
    cases e
    exact SeqAt.in_tuple_data r2 r1 (shp_tuple g.2) (shp_plain g.1) (room_in hr g.1) ⟨.bl _, H, I, rfl, q⟩
theorem op_ninP (hr : Room k X.A) : OpR X (compareOp .NotIn) (rDB X (fun x y => (inD x y).map (!·))) := by
  intro pins s σ H x y v u Q I rx ry ⟨W, dx, dy, b, h1, h2, e, q⟩
  obtain ⟨c, e2, hb⟩ := Option.map_eq_some_iff.mp e
  clear e
  subst hb
  cases dy <;> simp only [inD] at e2 <;> first | cases e2 | skip
  · cases dx <;> simp only at e2 <;> first | cases e2 | skip
    cases h1.str
    cases h2.str
    exact op_notIn_str pins s σ H _ _ v u Q I rx ry ⟨_, _, rfl, rfl, q⟩
  · obtain ⟨g, e3⟩ := guardP_some e2
    rw [Bool.and_eq_true] at g
    obtain ⟨as, r1⟩ := h1.reads I (shp_plain g.1) rx
    obtain ⟨bs, r2⟩ := h2.reads I (shp_plain g.2) ry
    cases e3
    exact SeqAt.notIn_list_data r2 r1 (shp_list g.2) (shp_plain g.1) (room_in hr g.1) ⟨.bl _, H, I, rfl, q⟩
  · obtain ⟨g, e3⟩ := guardP_some e2
    rw [Bool.and_eq_true] at g
    obtain ⟨as, r1⟩ := h1.reads I (shp_plain g.1) rx
    obtain ⟨bs, r2⟩ := h2.reads I (shp_plain g.2) ry
    cases e3
    exact SeqAt.notIn_tuple_data r2 r1 (shp_tuple g.2) (shp_plain g.1) (room_in hr g.1) ⟨.bl _, H, I, rfl, q⟩
theorem op_isP : OpR X (compareOp .Is) (rDB X isD) := by
  refine opr_weak (OpR.or op_isN op_isBl) fun x y H Q ⟨W, dx, dy, b, h1, h2, e, q⟩ => ?_
  cases dy with
  | none =>
    refine .inl ⟨h2.none, ?_⟩
    rw [h1.isNon]
    simp only [isD, Option.some.injEq] at e
    subst e
    exact q
  | bool c =>
    cases dx <;> simp only [isD] at e <;> first | cases e | skip
    refine .inr ⟨_, _, h1.bool, h2.bool, ?_⟩
    rw [Bool.beq_eq_decide_eq] at q
    exact q
  | _ => cases dx <;> simp [isD] at e
theorem op_notP : OpR X (compareOp .IsNot) (rDB X (fun x y => (isD x y).map (!·))) := by
  refine opr_weak (OpR.or op_notN op_notBl) fun x y H Q ⟨W, dx, dy, b, h1, h2, e, q⟩ => ?_
  obtain ⟨c, e', hb⟩ := Option.map_eq_some_iff.mp e
  clear e
  subst hb
  cases dy with
  | none =>
    refine .inl ⟨h2.none, ?_⟩
    rw [h1.isNon]
    simp only [isD, Option.some.injEq] at e'
    rw [e']
    exact q
  | bool c =>
    cases dx <;> simp only [isD] at e' <;> first | cases e' | skip
    refine .inr ⟨_, _, h1.bool, h2.bool, ?_⟩
    rw [Bool.beq_eq_decide_eq] at q
    exact q
  | _ => cases dx <;> simp [isD] at e'
/-- a row is less than another one -/
theorem op_ltP (hr : Room k X.A) : OpR X (compareOp .Lt) (fun x y H Q => ∃ W dx dy, RP (X.K, X.w) H W dx x ∧ RP (X.K, X.w) H W dy y ∧ shp dx = true ∧ shp dy = true ∧ PySem.W.alike dx dy = true ∧ dx ≠ .none ∧ Q (.bl (PySem.W.dataLt dx dy)) H) := by
  intro pins s σ H x y v u Q I rx ry ⟨W, dx, dy, h1, h2, g1, g2, al, hn, q⟩
  obtain ⟨as, r1⟩ := h1.reads I (shp_plain g1) rx
  obtain ⟨bs, r2⟩ := h2.reads I (shp_plain g2) ry
  exact PySem.W.rcLt_alike dx dy X.A s v u as bs r1 r2 al hn (by have := hr.units; have := shp_depth g1; have := Nat.min_le_left dx.depth dy.depth; omega) X.prog X.w X.xe (EP X pins σ Q) ⟨.bl _, H, I, rfl, q⟩
theorem cmpD_ok (hr : Room k X.A) (op : CmpOp) : OpR X (compareOp op) (rDB X (cmpD op)) := by
  cases op with
  | Eq => exact op_eqP hr
  | NotEq => exact op_neP hr
  | In => exact op_inP hr
  | NotIn => exact op_ninP hr
  | Is => exact op_isP
  | IsNot => exact op_notP
  | Lt =>
    refine opr_weak (OpR.or op_lt (OpR.or op_lt_str (op_ltP hr))) fun x y H Q ⟨W, dx, dy, b, h1, h2, e, q⟩ => ?_
    cases dx <;> cases dy <;> simp only [cmpD, ltD] at e <;> first | cases e | skip
    · exact .inl ⟨_, _, h1.int, h2.int, q⟩
    · exact .inr (.inl ⟨_, _, h1.str, h2.str, q⟩)
    · obtain ⟨g, e⟩ := guardP_some e
      rw [Bool.and_eq_true, Bool.and_eq_true] at g
      cases e
      exact .inr (.inr ⟨W, _, _, h1, h2, g.1, g.2.1, g.2.2, (fun z => by cases z), q⟩)
    · obtain ⟨g, e⟩ := guardP_some e
      rw [Bool.and_eq_true, Bool.and_eq_true] at g
      cases e
      exact .inr (.inr ⟨W, _, _, h1, h2, g.1, g.2.1, g.2.2, (fun z => by cases z), q⟩)
  | LtE =>
    refine opr_weak op_le fun x y H Q ⟨W, dx, dy, b, h1, h2, e, q⟩ => ?_
    cases dx <;> cases dy <;> simp only [cmpD, ltD] at e <;> first | cases e | skip
    exact ⟨_, _, h1.int, h2.int, q⟩
  | Gt =>
    refine opr_weak op_gt fun x y H Q ⟨W, dx, dy, b, h1, h2, e, q⟩ => ?_
    cases dx <;> cases dy <;> simp only [cmpD, ltD] at e <;> first | cases e | skip
    exact ⟨_, _, h1.int, h2.int, q⟩
  | GtE =>
    refine opr_weak op_ge fun x y H Q ⟨W, dx, dy, b, h1, h2, e, q⟩ => ?_
    cases dx <;> cases dy <;> simp only [cmpD, ltD] at e <;> first | cases e | skip
    exact ⟨_, _, h1.int, h2.int, q⟩
/-! places -/
theorem Rs.atI {K : PySem.W.Frag × World} {ds : List D} {xs : List V} {i : Int} {d : D} (h : Rs K H W ds xs) (e : L2.atI ds i = some d) : ∃ x, L2.atI xs i = some x ∧ R K H W d x := by
  unfold L2.atI at e ⊢
  rw [h.length]
  cases q : ixN ds.length i with
  | none => rw [q] at e; cases e
  | some j =>
    rw [q] at e
    exact h.get e
def rDV (X : Cx) (f : D → D → Option D) : R2 := fun x y H Q => ∃ W dx dy d, (∀ a, W a → H a ≠ none) ∧ RP (X.K, X.w) H W dx x ∧ RP (X.K, X.w) H W dy y ∧ f dx dy = some d ∧ ∀ v H', Same H H' → R (X.K, X.w) H' W d v → Q v H'
theorem ixD_ok : IxR X (rDV X ixD) := by
  have base : IxR X (rIx X.K) := ix_seq
  intro value slice pins s σ H x y v u Q I rx ry ⟨W, dx, dy, d, hW, h1, h2, e, q⟩ hsub
  refine base value slice pins s σ H x y v u Q I rx ry ?_ hsub
  cases dx <;> cases dy <;> simp only [ixD] at e <;> first | cases e | skip
  · obtain ⟨g, e⟩ := guardP_some e
    obtain ⟨c, e2, hb⟩ := Option.map_eq_some_iff.mp e
    subst hb
    exact .inr (.inr ⟨_, _, c, h1.str, h2.int, szOk_le g, e2, q _ H (Same.refl H) (by simp only [R])⟩)
  · obtain ⟨a, xs, rfl, s1, r1⟩ := h1.list
    obtain ⟨z, e1, r2⟩ := Rs.atI r1 e
    exact .inl ⟨a, xs, _, z, rfl, h2.int, s1, e1, q _ H (Same.refl H) r2⟩
  · obtain ⟨a, xs, rfl, s1, r1⟩ := h1.tuple
    obtain ⟨z, e1, r2⟩ := Rs.atI r1 e
    exact .inr (.inl ⟨a, xs, _, z, rfl, h2.int, s1.sq, e1, q _ H (Same.refl H) r2⟩)
/-! slices -/
def rDS (X : Cx) : V → Option Int → Option Int → Hp → VK → Prop := fun x lo hi H Q => ∃ W dx d, (∀ a, W a → H a ≠ none) ∧ RP (X.K, X.w) H W dx x ∧ slcD dx lo hi = some d ∧ ∀ v H', Same H H' → RN (X.K, X.w) H H' W d v → Q v H'
theorem Rs.cut {K : PySem.W.Frag × World} {ds : List D} {xs : List V} (h : Rs K H W ds xs) (lo hi : Option Int) : Rs K H W (cutD ds lo hi) (cutV xs lo hi) := by
  unfold cutD cutV
  rw [h.length]
  exact (h.drop _).take _
theorem slcD_ok : SlR X (rDS X) := by
  have base := SlR.or (X := X) sl_list sl_tupA
  intro pins s σ H x v vl vu lo hi sl Q I rx hs pl pu ⟨W, dx, d, hW, h1, e, q⟩
  refine base pins s σ H x v vl vu lo hi sl Q I rx hs pl pu ?_
  cases dx <;> simp only [slcD] at e <;> first | cases e | skip
  · obtain ⟨a, xs, rfl, s1, r1⟩ := h1.list
    exact .inl ⟨a, xs, rfl, s1, fun p hp => q _ _ (same_new hp) (RN.newLst hW hp (r1.cut lo hi))⟩
  · obtain ⟨a, xs, rfl, s1, r1⟩ := h1.tuple
    refine .inr ⟨a, xs, rfl, s1.sq, fun hw => ?_, fun _ p hp => q _ _ (same_new hp) (RN.of (R.newTup hW hp (r1.cut lo hi)) rfl)⟩
    refine q _ H (Same.refl H) (RN.of ?_ rfl)
    rename_i ds
    have hl := r1.length
    have e2 : cutD ds lo hi = ds := by
      unfold cutD
      rw [← hl, hw.1, hw.2, List.drop_zero, Nat.sub_zero, hl, List.take_length]
    rw [e2]
    simp only [R]
    exact ⟨a, xs, rfl, s1, r1⟩
end
end DI
set_option Elab.async false
set_option linter.all false
set_option maxRecDepth 100000
set_option maxHeartbeats 4000000
/-! built-in functions, isinstance, iteration -/
namespace DI
open PySem PySem.Spec PyProof.Rows L2
def RPs (K : PySem.W.Frag × World) (H : Hp) (W : WS) : List D → List V → Prop
  | [], xs => xs = []
  | d :: ds, xs => ∃ x r, xs = x :: r ∧ RP K H W d x ∧ RPs K H W ds r
section
variable {X : Cx} {pins : List (Addr × Obj)} {σ : L2.St} {H H' : Hp} {W W' : WS} {s : Shared} {k : Nat}
theorem RPs.same {K : PySem.W.Frag × World} (s : Same H H') : ∀ {ds : List D} {xs : List V}, RPs K H W ds xs → RPs K H' W ds xs
  | [], xs, h => h
  | d :: ds, xs, h => by
    simp only [RPs] at h ⊢
    obtain ⟨x, r, e, h1, h2⟩ := h
    exact ⟨x, r, e, h1.same s, RPs.same s h2⟩
theorem RPs.one {K : PySem.W.Frag × World} {d : D} {xs : List V} (h : RPs K H W [d] xs) : ∃ x, xs = [x] ∧ RP K H W d x := by
  simp only [RPs] at h
  obtain ⟨x, r, rfl, h1, rfl⟩ := h
  exact ⟨x, rfl, h1⟩
theorem RPs.two {K : PySem.W.Frag × World} {d e : D} {xs : List V} (h : RPs K H W [d, e] xs) : ∃ x y, xs = [x, y] ∧ RP K H W d x ∧ RP K H W e y := by
  simp only [RPs] at h
  obtain ⟨x, r, rfl, h1, y, r', rfl, h2, rfl⟩ := h
  exact ⟨x, y, rfl, h1, h2⟩
theorem rs_pairs {K : PySem.W.Frag × World} {H : Hp} {W : WS} {α : Type} (f : α → D) (g : α → V) : ∀ (l : List α), (∀ p ∈ l, R K H W (f p) (g p)) → Rs K H W (l.map f) (l.map g)
  | [], _ => by simp [Rs]
  | p :: l, h => by
    simp only [List.map_cons, Rs]
    exact ⟨_, _, rfl, h p List.mem_cons_self, rs_pairs f g l fun q hq => h q (List.mem_cons_of_mem _ hq)⟩
theorem rs_zip {K : PySem.W.Frag × World} {H : Hp} {W : WS} : ∀ {ds : List D} {vs : List V}, Rs K H W ds vs → ∀ p ∈ ds.zip vs, R K H W p.1 p.2
  | [], vs, _, p, hp => by simp at hp
  | d :: ds, vs, h, p, hp => by
    simp only [Rs] at h
    obtain ⟨x, r, rfl, h1, h2⟩ := h
    rw [List.zip_cons_cons, List.mem_cons] at hp
    rcases hp with rfl | hp
    · exact h1
    · exact rs_zip h2 p hp
theorem each_vals {α : Type} (g : α → V) : ∀ {l : List α} {us : List Value}, Vals (l.map g) us → PySem.W.EachIs (fun u p => RelV (g p) u) us l
  | [], _, .nil => .nil
  | _ :: _, _, .cons h t => .cons h (each_vals g t)
theorem vals_each {α : Type} {P : α → Prop} (g : α → V) : ∀ {l : List α} {us : List Value}, PySem.W.EachIs (fun u p => RelV (g p) u ∧ P p) us l → Vals (l.map g) us
  | [], [], .nil => .nil
  | _ :: _, _ :: _, .cons h t => .cons h.1 (vals_each g t)
theorem srtOk_all {ks : List D} (h : srtOk ks = true) : PySem.W.AllAlike ks ∧ PySem.W.Sortable ks ∧ (∀ d ∈ ks, shp d = true) ∧ ks.length ≤ 16777216 := by
  unfold srtOk szOk at h
  simp only [Bool.and_eq_true, Bool.or_eq_true, List.all_eq_true, decide_eq_true_eq] at h
  obtain ⟨⟨h1, h2⟩, h3, h4⟩ := h
  refine ⟨fun d hd d' hd' => h2 d hd d' hd', ?_, h1, h4⟩
  rcases h3 with h3 | h3
  · refine .inl fun d hd => ?_
    have := h3 d hd
    cases d <;> simp [tupNE] at this
    rename_i xs
    cases xs with
    | nil => simp [tupNE] at this
    | cons x r => exact ⟨x, r, rfl⟩
  · refine .inr fun d hd => ?_
    have := h3 d hd
    cases d <;> simp [notNT] at this <;> exact ⟨(fun z => by cases z), fun xs z => by cases z⟩
/-- sorted items, by pairs of them and their keys -/
theorem srt_back {vs : List V} {ds ks : List D} (h1 : ds.length = vs.length) (h2 : ks.length = ds.length) : ((((ds.zip ks).zip vs).mergeSort (PySem.W.dataLe false fun b => b.1.2)).map fun b => b.1.1) = srtK ds ks := by
  have e : (((ds.zip ks).zip vs).mergeSort (PySem.W.dataLe false fun b => b.1.2)).map Prod.fst = (ds.zip ks).mergeSort (PySem.W.dataLe false Prod.snd) := by
    rw [List.map_mergeSort (r := PySem.W.dataLe false fun b : (D × D) × V => b.1.2) (s := PySem.W.dataLe false Prod.snd) (f := Prod.fst) (fun a _ b _ => rfl), List.map_fst_zip]
    rw [List.length_zip, h2, Nat.min_self, h1]
    exact Nat.le_refl _
  unfold srtK
  rw [← e, List.map_map]
  rfl
def rDL (X : Cx) (f : List D → Option D) : List V → Hp → VK → Prop := fun xs H Q => ∃ W ds d, (∀ a, W a → H a ≠ none) ∧ RPs (X.K, X.w) H W ds xs ∧ f ds = some d ∧ ∀ v H', Same H H' → RN (X.K, X.w) H H' W d v → Q v H'
theorem callr_weak {f : Value} {r r' : List V → Hp → VK → Prop} (h : CallR X f r) (i : ∀ x H Q, r' x H Q → r x H Q) : CallR X f r' := fun pins s σ H x u Q I rx q => h pins s σ H x u Q I rx (i x H Q q)
theorem len_one {f : String} {ds : List D} {d : D} (hf : f = "len" ∨ f = "list" ∨ f = "tuple" ∨ f = "int" ∨ f = "all" ∨ f = "any" ∨ f = "sum" ∨ f = "sorted") (h : biD f ds = some d) : ∃ a, ds = [a] := by
  match ds with
  | [] => rcases hf with rfl | rfl | rfl | rfl | rfl | rfl | rfl | rfl <;> simp [biD] at h
  | [a] => exact ⟨a, rfl⟩
  | a :: b :: r => rcases hf with rfl | rfl | rfl | rfl | rfl | rfl | rfl | rfl <;> simp [biD] at h
theorem boolsOf_map : ∀ {ds : List D} {bs : List Bool}, boolsOf ds = some bs → ds = bs.map PyData.bool
  | [], bs, h => by simp [boolsOf] at h; subst h; rfl
  | d :: ds, bs, h => by
    cases d <;> simp [boolsOf] at h
    obtain ⟨r, h1, rfl⟩ := h
    rw [boolsOf_map h1]
    rfl
theorem intsOf_map : ∀ {ds : List D} {bs : List Int}, intsOf ds = some bs → ds = bs.map PyData.int
  | [], bs, h => by simp [intsOf] at h; subst h; rfl
  | d :: ds, bs, h => by
    cases d <;> simp [intsOf] at h
    obtain ⟨r, h1, rfl⟩ := h
    rw [intsOf_map h1]
    rfl
theorem bi_len : CallR X (.builtin "len") (rDL X (biD "len")) := by
  refine callr_weak call_len fun xs H Q ⟨W, ds, d, hW, h, e, q⟩ => ?_
  obtain ⟨a, rfl⟩ := len_one (by simp) e
  obtain ⟨x, rfl, h1⟩ := h.one
  cases a <;> simp [biD] at e
  · obtain ⟨g, e⟩ := guardP_some e
    cases e
    cases h1.str
    exact ⟨_, _, rfl, ⟨szOk_le g, rfl⟩, q _ H (Same.refl H) (RN.of (by simp only [R]) rfl)⟩
  · subst e
    obtain ⟨a, xs, rfl, s1, r1⟩ := h1.list
    exact ⟨_, _, rfl, .inl ⟨xs, s1, rfl⟩, q _ H (Same.refl H) (RN.of (by simp only [R]; rw [r1.length]) rfl)⟩
  · subst e
    obtain ⟨a, xs, rfl, s1, r1⟩ := h1.tuple
    exact ⟨_, _, rfl, .inr ⟨xs, s1.sq, rfl⟩, q _ H (Same.refl H) (RN.of (by simp only [R]; rw [r1.length]) rfl)⟩
theorem bi_list : CallR X (.type "list") (rDL X (biD "list")) := by
  refine callr_weak call_list_of fun xs H Q ⟨W, ds, d, hW, h, e, q⟩ => ?_
  obtain ⟨a, rfl⟩ := len_one (by simp) e
  obtain ⟨x, rfl, h1⟩ := h.one
  cases a <;> simp [biD] at e
  · subst e
    obtain ⟨a, xs, rfl, s1, r1⟩ := h1.list
    exact ⟨_, xs, rfl, .inl s1, fun p hp => q _ _ (same_new hp) (RN.newLst hW hp r1)⟩
  · subst e
    obtain ⟨a, xs, rfl, s1, r1⟩ := h1.tuple
    exact ⟨_, xs, rfl, .inr s1.sq, fun p hp => q _ _ (same_new hp) (RN.newLst hW hp r1)⟩
theorem bi_tuple : CallR X (.type "tuple") (rDL X (biD "tuple")) := by
  refine callr_weak call_tuple_of fun xs H Q ⟨W, ds, d, hW, h, e, q⟩ => ?_
  obtain ⟨a, rfl⟩ := len_one (by simp) e
  obtain ⟨x, rfl, h1⟩ := h.one
  cases a <;> simp [biD] at e
  · subst e
    obtain ⟨a, xs, rfl, s1, r1⟩ := h1.list
    exact ⟨_, xs, rfl, .inl ⟨s1, fun p hp => q _ _ (same_new hp) (RN.of (R.newTup hW hp r1) rfl)⟩⟩
  · subst e
    obtain ⟨a, xs, rfl, s1, r1⟩ := h1.tuple
    exact ⟨_, xs, rfl, .inr ⟨s1.sq, q _ H (Same.refl H) (RN.of (by simp only [R]; exact ⟨a, xs, rfl, s1, r1⟩) rfl)⟩⟩
theorem bi_int : CallR X (.type "int") (rDL X (biD "int")) := by
  refine callr_weak call_int1 fun xs H Q ⟨W, ds, d, hW, h, e, q⟩ => ?_
  obtain ⟨a, rfl⟩ := len_one (by simp) e
  obtain ⟨x, rfl, h1⟩ := h.one
  cases a <;> simp [biD] at e
  · subst e
    cases h1.bool
    exact .inr ⟨_, rfl, q _ H (Same.refl H) (RN.of (by simp only [R]) rfl)⟩
  · subst e
    cases h1.int
    exact .inl ⟨_, rfl, q _ H (Same.refl H) (RN.of (by simp only [R]) rfl)⟩
theorem bi_all (hc : X.calm = true) : CallR X (.builtin "all") (rDL X (biD "all")) := by
  refine callr_weak (cr_all hc) fun xs H Q ⟨W, ds, d, hW, h, e, q⟩ => ?_
  obtain ⟨a, rfl⟩ := len_one (by simp) e
  obtain ⟨x, rfl, h1⟩ := h.one
  cases a <;> simp only [biD] at e <;> first | cases e | skip
  obtain ⟨bs, e2, hb⟩ := Option.map_eq_some_iff.mp e
  have e3 := boolsOf_map e2
  subst e3
  subst hb
  obtain ⟨a, xs, rfl, s1, r1⟩ := h1.list
  have e4 := Rs.of_bls r1
  subst e4
  exact ⟨a, bs, rfl, s1, q _ H (Same.refl H) (RN.of (by simp only [R]) rfl)⟩
theorem bi_any (hc : X.calm = true) : CallR X (.builtin "any") (rDL X (biD "any")) := by
  refine callr_weak (cr_any hc) fun xs H Q ⟨W, ds, d, hW, h, e, q⟩ => ?_
  obtain ⟨a, rfl⟩ := len_one (by simp) e
  obtain ⟨x, rfl, h1⟩ := h.one
  cases a <;> simp only [biD] at e <;> first | cases e | skip
  obtain ⟨bs, e2, hb⟩ := Option.map_eq_some_iff.mp e
  have e3 := boolsOf_map e2
  subst e3
  subst hb
  obtain ⟨a, xs, rfl, s1, r1⟩ := h1.list
  have e4 := Rs.of_bls r1
  subst e4
  exact ⟨a, bs, rfl, s1, q _ H (Same.refl H) (RN.of (by simp only [R]) rfl)⟩
theorem bi_sum (hc : X.calm = true) : CallR X (.builtin "sum") (rDL X (biD "sum")) := by
  refine callr_weak (cr_sum hc) fun xs H Q ⟨W, ds, d, hW, h, e, q⟩ => ?_
  obtain ⟨a, rfl⟩ := len_one (by simp) e
  obtain ⟨x, rfl, h1⟩ := h.one
  cases a <;> simp only [biD] at e <;> first | cases e | skip
  obtain ⟨bs, e2, hb⟩ := Option.map_eq_some_iff.mp e
  have e3 := intsOf_map e2
  subst e3
  subst hb
  obtain ⟨a, xs, rfl, s1, r1⟩ := h1.list
  have e4 := Rs.of_ints r1
  subst e4
  exact ⟨a, bs, rfl, s1, q _ H (Same.refl H) (RN.of (by simp only [R]) rfl)⟩
theorem two_of {f : String} {ds : List D} {d : D} (hf : f = "min" ∨ f = "max") (h : biD f ds = some d) : ∃ i j, ds = [.int i, .int j] := by
  match ds with
  | [] => rcases hf with rfl | rfl <;> simp [biD] at h
  | [a] => rcases hf with rfl | rfl <;> simp [biD] at h
  | [a, b] => rcases hf with rfl | rfl <;> cases a <;> cases b <;> simp [biD] at h <;> exact ⟨_, _, rfl⟩
  | a :: b :: c :: r => rcases hf with rfl | rfl <;> simp [biD] at h
theorem bi_min (hc : X.calm = true) : CallR X (.builtin "min") (rDL X (biD "min")) := by
  refine callr_weak (call_min2 hc) fun xs H Q ⟨W, ds, d, hW, h, e, q⟩ => ?_
  obtain ⟨i, j, rfl⟩ := two_of (by simp) e
  obtain ⟨x, y, rfl, h1, h2⟩ := h.two
  simp only [biD, Option.some.injEq] at e
  subst e
  cases h1.int
  cases h2.int
  exact ⟨i, j, rfl, q _ H (Same.refl H) (RN.of (by simp only [R]) rfl)⟩
theorem bi_max (hc : X.calm = true) : CallR X (.builtin "max") (rDL X (biD "max")) := by
  refine callr_weak (call_max2 hc) fun xs H Q ⟨W, ds, d, hW, h, e, q⟩ => ?_
  obtain ⟨i, j, rfl⟩ := two_of (by simp) e
  obtain ⟨x, y, rfl, h1, h2⟩ := h.two
  simp only [biD, Option.some.injEq] at e
  subst e
  cases h1.int
  cases h2.int
  exact ⟨i, j, rfl, q _ H (Same.refl H) (RN.of (by simp only [R]) rfl)⟩
/-! isinstance -/
theorem RP.tyx {d : D} {x : V} (h : RP (X.K, X.w) H W d x) (hd : ∀ kvs, d ≠ .dict kvs) : TyX X.K H x (.type (tyD d)) := by
  cases d with
  | none => cases h.none; exact .base .non
  | bool b => cases h.bool; exact .base (.bl _)
  | int b => cases h.int; exact .base (.int _)
  | str b => cases h.str; exact .base (.str _)
  | list ds =>
    obtain ⟨a, xs, rfl, s1, r1⟩ := h.list
    rcases s1 with (s1 | ⟨o, s1⟩) | ⟨o, its, n, hk, hc, _⟩
    · exact .base (.lst s1)
    · exact .base (.frz s1)
    · exact .kList hk hc
  | tuple ds =>
    obtain ⟨a, xs, rfl, s1, r1⟩ := h.tuple
    rcases s1.sq with (s1 | ⟨o, s1⟩) | ⟨o, its, n, hk, hc, _⟩
    · exact .base (.tup s1)
    · exact .fTuple s1
    · exact .kTuple hk hc
  | dict kvs => exact absurd rfl (hd kvs)
def isiTs : List String := ["str", "int", "bool", "tuple", "list", "dict"]
theorem kit_all : ∀ t ∈ isiTs, ∀ u ∈ ["NoneType", "bool", "int", "str", "list", "tuple", "dict"], kitB u t = some (decide (u = t) || (decide (u = "bool") && decide (t = "int"))) := by decide +kernel
theorem tyD_mem (d : D) : tyD d ∈ ["NoneType", "bool", "int", "str", "list", "tuple", "dict"] := by cases d <;> simp [tyD]
/-- a dict of ours, for isinstance -/
theorem kit_dict {o : Obj} {a : Addr} {u : Value} (I : Inv X pins σ H s) (e : H a = some (.ext fun h => h.get? a = some o)) (hx : o.ExactDict) (r : RelV (.ref a) u) : ∃ P : Heap → Prop, PySem.W.KitX X.K u (.type "dict") P ∧ P s.heap ∧ u ≠ .builtin "__main__.__loader__#opaque" := by
  cases r
  have h1 := (I.hok a _ e).1
  exact ⟨_, PySem.W.kitx_dict, ⟨o, h1, hx.1⟩, fun z => nomatch z⟩
theorem bi_sorted (hu : X.A.units + 70 < cLine) : CallR X (.builtin "sorted") (rDL X (biD "sorted")) := by
  intro pins s σ H xs us Q I rx ⟨W, ds, d, hW, h, e, q⟩
  obtain ⟨a, rfl⟩ := len_one (by simp) e
  obtain ⟨x, rfl, h1⟩ := h.one
  cases a <;> simp only [biD] at e <;> first | cases e | skip
  rename_i ds
  obtain ⟨g, e⟩ := guardP_some e
  cases e
  obtain ⟨al, so, sh, hl⟩ := srtOk_all g
  obtain ⟨a, vs, rfl, s1, r1⟩ := h1.list
  rw [Vals.ref1 rx]
  obtain ⟨its, rv, hL, hz⟩ := I.list s1
  have hlen := r1.length
  have hzl : ((ds.zip ds).zip vs).length = ds.length := by rw [List.length_zip, List.length_zip, hlen]; omega
  have em : ((ds.zip ds).zip vs).map (fun b => b.1.2) = ds := by
    rw [show (fun b : (D × D) × V => b.1.2) = Prod.snd ∘ Prod.fst from rfl, ← List.map_map, List.map_fst_zip (by rw [List.length_zip, hlen]; omega), List.map_snd_zip (Nat.le_refl _)]
  have em1 : ((ds.zip ds).zip vs).map (fun b => b.1.1) = ds := by
    rw [show (fun b : (D × D) × V => b.1.1) = Prod.fst ∘ Prod.fst from rfl, ← List.map_map, List.map_fst_zip (by rw [List.length_zip, hlen]; omega), List.map_fst_zip (Nat.le_refl _)]
  have em2 : ((ds.zip ds).zip vs).map (fun b => b.2) = vs := by
    rw [show (fun b : (D × D) × V => b.2) = Prod.snd from rfl, List.map_snd_zip (by rw [List.length_zip, hlen]; omega)]
  have pl : PyData.plainAll ds = true := by
    have : ∀ (l : List D), (∀ d ∈ l, shp d = true) → PyData.plainAll l = true := fun l => by
      induction l with
      | nil => exact fun _ => rfl
      | cons d l ih =>
        intro h
        simp only [PyData.plainAll, Bool.and_eq_true]
        exact ⟨shp_plain (h d List.mem_cons_self), ih fun e he => h e (List.mem_cons_of_mem _ he)⟩
    exact this ds sh
  obtain ⟨as, hr⟩ := Rs.reads I ds vs its pl r1 rv
  have e1 : PySem.W.EachIs (fun (u : Value) (b : (D × D) × V) => RelV b.2 u) its ((ds.zip ds).zip vs) := each_vals (fun b : (D × D) × V => b.2) (by rw [em2]; exact rv)
  have e2 := PySem.W.each_mem e1
  have e3 : PySem.W.EachIs (fun v (b : (D × D) × V) => ∃ as, Reads s.heap v b.1.2 as) its ((ds.zip ds).zip vs) := PySem.W.readsAll_each (fun b : (D × D) × V => b.1.2) (by rw [em]; exact hr)
  refine PySem.W.sorted_data (enc := fun b : (D × D) × V => b.1.2) hL.isList e2 e3 (by rw [em]; exact al) (by rw [em]; exact so) (by rw [hzl, sizeLine_eq]; exact hl) (fun b hb => ?_) fun out ho hE => ?_
  · have : b.1.2 ∈ ds := by rw [← em]; exact List.mem_map_of_mem hb
    have := shp_depth (sh _ this)
    omega
  · obtain ⟨ep, he'⟩ := PyProof.Rows.sortedAll_at s.heap its out.toArray
    have hv := vals_each (P := fun b : (D × D) × V => b ∈ (ds.zip ds).zip vs) (fun b : (D × D) × V => b.2) hE
    have hn := I.hok.fresh (Nat.le_succ s.heap.objs.size)
    have hR : Rs (X.K, X.w) H W (srtK ds ds) ((((ds.zip ds).zip vs).mergeSort (PySem.W.dataLe false fun b : (D × D) × V => b.1.2)).map fun b : (D × D) × V => b.2) := by
      rw [← srt_back hlen.symm rfl]
      refine rs_pairs _ _ _ fun p hp => ?_
      have hp := List.mem_mergeSort.mp hp
      have h3 : (p.1.1, p.2) ∈ ds.zip vs := by
        have : (((ds.zip ds).zip vs).map fun b : (D × D) × V => (b.1.1, b.2)) = ds.zip vs := by
          have z := List.zip_map' (f := fun b : (D × D) × V => b.1.1) (g := fun b : (D × D) × V => b.2) (l := (ds.zip ds).zip vs)
          rw [em1, em2] at z
          exact z.symm
        rw [← this]
        exact List.mem_map_of_mem hp
      exact rs_zip r1 _ h3
    refine ⟨.ref _, upd H (s.heap.objs.size + 1) (.lst ((((ds.zip ds).zip vs).mergeSort (PySem.W.dataLe false fun b : (D × D) × V => b.1.2)).map fun b : (D × D) × V => b.2)), I.laid (t' := s.toks) (fun _ _ => PyProof.Rows.sortedAll_old) (Nat.le_succ _) ⟨?_, out, ep, hv, he'⟩, rfl, q _ _ (same_new hn) (RN.newLst hW hn hR)⟩
    rw [List.length_map, List.length_mergeSort, hzl, sizeLine_eq]
    exact hl
theorem bi_isi (t : String) (ht : t ∈ isiTs) : CallR X (.builtin "isinstance") (fun xs H Q => ∃ W x d, xs = [x, .ty t] ∧ RP (X.K, X.w) H W d x ∧ ∀ b, isiD d t = some (.bool b) → Q (.bl b) H) := by
  intro pins s σ H xs us Q I r h
  obtain ⟨W, x, d, rfl, h1, q⟩ := h
  have ek := kit_all t ht (tyD d) (tyD_mem d)
  have ek2 : PySem.W.kitOne X.K (.type (tyD d)) (.type t) = some (decide (tyD d = t) || (decide (tyD d = "bool") && decide (t = "int"))) := kit_ty ek
  have q2 := q (decide (tyD d = t) || (decide (tyD d = "bool") && decide (t = "int"))) (by
    unfold isiD
    rw [if_pos]
    simpa [isiTs] using ht)
  by_cases hd : ∃ kvs, d = .dict kvs
  · obtain ⟨kvs, rfl⟩ := hd
    obtain ⟨u1, u2, rfl, r1, r2⟩ := vals2 r
    have e2 : u2 = .type t := r2
    subst e2
    have key : ∃ a o, x = .ref a ∧ H a = some (.ext fun h => h.get? a = some o) ∧ o.ExactDict := by
      rcases h1 with h1 | ⟨a, rfl, h1⟩
      · simp only [R] at h1
        obtain ⟨a, o, es, ep, rfl, h2, _, _, h3, _⟩ := h1
        exact ⟨a, o, rfl, h2, h3⟩
      · simp only [OwnAt] at h1
        obtain ⟨o, es, ep, h2, _, h3, _⟩ := h1
        exact ⟨a, o, rfl, h2, h3⟩
    obtain ⟨a, o, rfl, h2, h3⟩ := key
    obtain ⟨P, Z, p, hx⟩ := kit_dict I h2 h3 r1
    exact PySem.W.kia_one Z I.kIn p ek2 hx fun tk => ⟨.bl _, H, I.tok tk, rfl, q2⟩
  · exact call_isi pins s σ H _ us Q I r ⟨x, .ty t, .type (tyD d), .type t, _, rfl, .ty t, h1.tyx (fun kvs e => hd ⟨kvs, e⟩), ek2, q2⟩
end
end DI
set_option Elab.async false
set_option linter.all false
set_option maxRecDepth 100000
set_option maxHeartbeats 4000000
/-! what is walked; targets; comprehensions -/
namespace DI
open PySem PySem.Spec PyProof.Rows L2
/-- what the iterator gives, whatever comes between -/
def Feeds (K : PySem.W.Frag × World) (H : Hp) (W : WS) (ds : List D) (J : It) : Prop := ∀ H' W', Stp H W H' W' → (∀ a, W' a → H' a ≠ none) →
  (∀ (i : Nat) (d : D), ds[i]? = some d → J.go i H' ∧ ∀ x H'', J.yld i H' x H'' → Same H' H'' ∧ R K H'' W' d x) ∧ J.stop ds.length H'
abbrev tI (X : Cx) (Wx : WX) (ρ : Rho) (o : Out (List D)) : TI := An X Wx ρ o (fun _ H W ds J => Feeds (X.K, X.w) H W ds J)
section
variable {X : Cx} {pins : List (Addr × Obj)} {σ : L2.St} {H H' : Hp} {W W' : WS} {s : Shared} {k : Nat} {K : PySem.W.Frag × World} {W0 : WS} {ρ : Rho}
theorem pi_or {tg e : Expr} {t t' : TI} (h : PI X tg e t) (h' : PI X tg e t') : PI X tg e (fun σ H Q => t σ H Q ∨ t' σ H Q) := ⟨fun pins s σ H Q I q => q.elim (h.run pins s σ H Q I) (h'.run pins s σ H Q I)⟩
theorem feeds_list {a : Addr} {xs : List V} {ds : List D} (s1 : LstAt K.1 H W a xs) (r : Rs K H W ds xs) : Feeds K H W ds (Itl K.1 a) := by
  intro H' W' st tr
  have s2 := s1.stp st
  have r2 := Rs.stp st _ _ r
  refine ⟨fun i d e => ?_, xs, s2.sq, by rw [r.length]; exact Nat.le_refl _⟩
  obtain ⟨x, e1, r3⟩ := r2.get e
  refine ⟨⟨xs, x, s2.sq, e1⟩, fun y H'' ⟨eh, hy⟩ => ?_⟩
  subst eh
  refine ⟨Same.refl _, ?_⟩
  have := hy xs s2.sq
  rw [e1] at this
  cases this
  exact r3
theorem feeds_tup {a : Addr} {xs : List V} {ds : List D} (s1 : TupAt K.1 H W a xs) (r : Rs K H W ds xs) : Feeds K H W ds (Itt K.1 a) := by
  intro H' W' st tr
  have s2 := s1.stp st
  have r2 := Rs.stp st _ _ r
  refine ⟨fun i d e => ?_, xs, s2.sq, by rw [r.length]; exact Nat.le_refl _⟩
  obtain ⟨x, e1, r3⟩ := r2.get e
  refine ⟨⟨xs, x, s2.sq, e1⟩, fun y H'' ⟨eh, hy⟩ => ?_⟩
  subst eh
  refine ⟨Same.refl _, ?_⟩
  have := hy xs s2.sq
  rw [e1] at this
  cases this
  exact r3
theorem feeds_str {x : Str} : Feeds K H W (x.cps.toList.map fun c => .str ⟨#[c]⟩) (Its x) := by
  intro H' W' st tr
  refine ⟨fun i d e => ?_, ?_⟩
  · rw [List.getElem?_map] at e
    obtain ⟨c, e1, rfl⟩ := Option.map_eq_some_iff.mp e
    have e2 : x.cps[i]? = some c := by simpa using e1
    have hlt : i < x.cps.size := (Array.getElem?_eq_some_iff.mp e2).1
    refine ⟨hlt, fun y H'' ⟨eh, c', e3, hy⟩ => ?_⟩
    subst eh
    rw [e2] at e3
    cases e3
    refine ⟨Same.refl _, ?_⟩
    simp only [R]
    exact hy
  · show x.cps.size ≤ _
    simp
theorem feeds_rng {lo : Int} {n : Nat} : Feeds K H W ((List.range n).map fun (k : Nat) => .int (lo + k)) (Itr lo n) := by
  intro H' W' st tr
  refine ⟨fun i d e => ?_, ?_⟩
  · rw [List.getElem?_map] at e
    obtain ⟨c, e1, rfl⟩ := Option.map_eq_some_iff.mp e
    have hlt : i < n := by
      have := (List.getElem?_eq_some_iff.mp e1).1
      simpa using this
    have ec : c = i := by
      rw [List.getElem?_range hlt] at e1
      exact (Option.some.inj e1).symm
    subst ec
    refine ⟨hlt, fun y H'' ⟨eh, hy⟩ => ?_⟩
    subst eh
    refine ⟨Same.refl _, ?_⟩
    simp only [R]
    exact hy
  · show n ≤ _
    simp
/-- a list, a tuple, a text -/
theorem pi_val {tg e : Expr} {Wx : WX} {o : Out D} (h : PE X e (tE X Wx .val ρ o)) : PI X tg e (tI X Wx ρ (o.bind fun x => ob (itemsD x))) := by
  refine PI.imp (pi_or (pi_list h) (pi_or (pi_tup h) (pi_str h))) fun σ H Q ⟨W0, q⟩ => ?_
  obtain ⟨rep, q⟩ := q
  cases o with
  | bad => exact q.elim
  | exc c p =>
    refine .inl ⟨W0, rep, q⟩
  | ok d =>
    have q' : AnW X Wx W0 ρ (ob (itemsD d)) (fun _ H W ds J => Feeds (X.K, X.w) H W ds J) σ H Q := ⟨rep, q⟩
    obtain ⟨ds, e1, q'⟩ := q'.ob
    cases d <;> simp only [itemsD] at e1 <;> first | cases e1 | skip
    · refine .inr (.inr ⟨W0, rep, fun v H' sm r => ?_⟩)
      simp only [RM, R] at r
      exact ⟨_, r, q'.ok sm feeds_str⟩
    · refine .inl ⟨W0, rep, fun v H' sm r => ?_⟩
      simp only [RM, R] at r
      obtain ⟨a, xs, rfl, s1, r1⟩ := r
      exact ⟨a, rfl, ⟨xs, s1.sq⟩, q'.ok sm (feeds_list s1 r1)⟩
    · refine .inr (.inl ⟨W0, rep, fun v H' sm r => ?_⟩)
      simp only [RM, R] at r
      obtain ⟨a, xs, rfl, s1, r1⟩ := r
      exact ⟨a, rfl, ⟨xs, s1.sq⟩, q'.ok sm (feeds_tup s1 r1)⟩
/-! slots -/
theorem wn_less {ρ' : Rho} {σ' : L2.St} (h : ∀ (i : Nat) (d : D) (a : Addr), ρ'[i]? = some (Sl.ow d) → σ'[i]? = some (some (V.ref a)) → ρ[i]? = some (Sl.ow d) ∧ σ[i]? = some (some (V.ref a))) : ∀ a, Wn W0 σ' ρ' a → Wn W0 σ ρ a := fun a q => by
  rcases q with q | ⟨i, d, e1, e2⟩
  · exact .inl q
  · obtain ⟨h1, h2⟩ := h i d a e1 e2
    exact .inr ⟨i, d, h1, h2⟩
/-- a slot forgotten -/
theorem Rep.forget (r : Rep K W0 σ H ρ) (j : Nat) (hn : ∀ d, ρ[j]? ≠ some (Sl.ow d)) : Rep K W0 (σ.set j none) H (ρ.set j .un) ∧ (∀ a, Wn W0 (σ.set j none) (ρ.set j .un) a ↔ Wn W0 σ ρ a) := by
  have get : ∀ (i : Nat) (x : Sl), (ρ.set j .un)[i]? = some x → x ≠ .un → i ≠ j ∧ ρ[i]? = some x := fun i x e hx => by
    by_cases hij : j = i
    · subst hij
      by_cases hl : j < ρ.length
      · rw [List.getElem?_set_self hl] at e
        cases e
        exact absurd rfl hx
      · rw [List.getElem?_eq_none (by simpa using hl)] at e
        cases e
    · rw [List.getElem?_set_ne hij] at e
      exact ⟨fun z => hij z.symm, e⟩
  have gσ : ∀ i : Nat, i ≠ j → (σ.set j none)[i]? = σ[i]? := fun i h => List.getElem?_set_ne (fun z => h z.symm)
  have eqv : ∀ a, Wn W0 (σ.set j none) (ρ.set j .un) a ↔ Wn W0 σ ρ a := fun a => by
    constructor
    · rintro (q | ⟨i, d, e1, e2⟩)
      · exact .inl q
      · obtain ⟨hne, e3⟩ := get i _ e1 (by simp)
        rw [gσ i hne] at e2
        exact .inr ⟨i, d, e3, e2⟩
    · rintro (q | ⟨i, d, e1, e2⟩)
      · exact .inl q
      · have hne : i ≠ j := fun z => hn d (z ▸ e1)
        refine .inr ⟨i, d, ?_, ?_⟩
        · rw [List.getElem?_set_ne (fun z => hne z.symm)]; exact e1
        · rw [gσ i hne]; exact e2
  have st : Stp H (Wn W0 σ ρ) H (Wn W0 (σ.set j none) (ρ.set j .un)) := Stp.less fun a q => (eqv a).mp q
  refine ⟨⟨by simpa using r.len, fun i d e => ?_, fun i d e => ?_, fun i i' d d' a e1 e2 e3 e4 => ?_, r.trk⟩, eqv⟩
  · obtain ⟨hne, e1⟩ := get i _ e (by simp)
    obtain ⟨v, h1, h2⟩ := r.sh i d e1
    exact ⟨v, by rw [gσ i hne]; exact h1, R.stp st d v h2⟩
  · obtain ⟨hne, e1⟩ := get i _ e (by simp)
    obtain ⟨a, h1, h2, h3⟩ := r.ow i d e1
    exact ⟨a, by rw [gσ i hne]; exact h1, h2.stp st (fun o h => h), h3⟩
  · obtain ⟨hne, f1⟩ := get i _ e1 (by simp)
    obtain ⟨hne', f2⟩ := get i' _ e2 (by simp)
    rw [gσ i hne] at e3
    rw [gσ i' hne'] at e4
    exact r.apart i i' d d' a f1 f2 e3 e4
theorem notOw_of {i : Nat} (h : notOw ρ i = true) : ∀ d, ρ[i]? ≠ some (Sl.ow d) := fun d e => by
  unfold notOw at h
  rw [e] at h
  cases h
theorem Rep.wipe (r : Rep K W0 σ H ρ) : ∀ (own : List Nat), (own.all (notOw ρ)) = true → Rep K W0 (L2.wipe σ own) H (wipeR ρ own) ∧ (∀ a, Wn W0 (L2.wipe σ own) (wipeR ρ own) a ↔ Wn W0 σ ρ a)
  | [], _ => ⟨r, fun a => Iff.rfl⟩
  | j :: own, h => by
    simp only [List.all_cons, Bool.and_eq_true] at h
    obtain ⟨r1, q1⟩ := r.wipe own h.2
    have hn : ∀ d, (wipeR ρ own)[j]? ≠ some (Sl.ow d) := fun d e => by
      have key : ∀ (own : List Nat) (i : Nat) (d : D), (wipeR ρ own)[i]? = some (Sl.ow d) → ρ[i]? = some (Sl.ow d) := by
        intro own
        induction own with
        | nil => exact fun i d e => e
        | cons m own ih =>
          intro i d e
          unfold wipeR at e
          by_cases hm : m = i
          · subst hm
            by_cases hl : m < (wipeR ρ own).length
            · rw [List.getElem?_set_self hl] at e; cases e
            · rw [List.getElem?_eq_none (by simpa using hl)] at e; cases e
          · rw [List.getElem?_set_ne hm] at e
            exact ih i d e
      exact notOw_of h.1 d (key own j d e)
    obtain ⟨r2, q2⟩ := r1.forget j hn
    exact ⟨r2, fun a => (q2 a).trans (q1 a)⟩
/-- a slot set to what may be read -/
theorem Rep.setSh (r : Rep K W0 σ H ρ) {j : Nat} {v : V} {d : D} (hv : R K H (Wn W0 σ ρ) d v) : Rep K W0 (σ.set j (some v)) H (ρ.set j (.sh d)) ∧ (∀ a, Wn W0 (σ.set j (some v)) (ρ.set j (.sh d)) a → Wn W0 σ ρ a) ∧ ((∀ d, ρ[j]? ≠ some (Sl.ow d)) → ∀ a, Wn W0 σ ρ a → Wn W0 (σ.set j (some v)) (ρ.set j (.sh d)) a) := by
  have get : ∀ (i : Nat) (d' : D), (ρ.set j (.sh d))[i]? = some (Sl.ow d') → i ≠ j ∧ ρ[i]? = some (Sl.ow d') := fun i d' e => by
    by_cases hij : j = i
    · subst hij
      by_cases hl : j < ρ.length
      · rw [List.getElem?_set_self hl] at e
        cases e
      · rw [List.getElem?_eq_none (by simpa using hl)] at e
        cases e
    · rw [List.getElem?_set_ne hij] at e
      exact ⟨fun z => hij z.symm, e⟩
  have gσ : ∀ i : Nat, i ≠ j → (σ.set j (some v))[i]? = σ[i]? := fun i h => List.getElem?_set_ne (fun z => h z.symm)
  have less : ∀ a, Wn W0 (σ.set j (some v)) (ρ.set j (.sh d)) a → Wn W0 σ ρ a := wn_less fun i d' a e1 e2 => by
    obtain ⟨hne, e3⟩ := get i d' e1
    rw [gσ i hne] at e2
    exact ⟨e3, e2⟩
  have st := Stp.less (H := H) less
  refine ⟨⟨by simpa using r.len, fun i d' e => ?_, fun i d' e => ?_, fun i i' d1 d2 a e1 e2 e3 e4 => ?_, r.trk⟩, less, fun hn a q => ?_⟩
  · by_cases hij : j = i
    · subst hij
      by_cases hl : j < ρ.length
      · rw [List.getElem?_set_self hl] at e
        cases e
        exact ⟨v, by rw [List.getElem?_set_self (by rw [← r.len]; exact hl)], R.stp st d v hv⟩
      · rw [List.getElem?_eq_none (by simpa using hl)] at e
        cases e
    · rw [List.getElem?_set_ne hij] at e
      obtain ⟨u, h1, h2⟩ := r.sh i d' e
      exact ⟨u, by rw [gσ i (fun z => hij z.symm)]; exact h1, R.stp st d' u h2⟩
  · obtain ⟨hne, e1⟩ := get i d' e
    obtain ⟨a, h1, h2, h3⟩ := r.ow i d' e1
    exact ⟨a, by rw [gσ i hne]; exact h1, h2.stp st (fun o h => h), h3⟩
  · obtain ⟨hne, f1⟩ := get i d1 e1
    obtain ⟨hne', f2⟩ := get i' d2 e2
    rw [gσ i hne] at e3
    rw [gσ i' hne'] at e4
    exact r.apart i i' d1 d2 a f1 f2 e3 e4
  · rcases q with q | ⟨i, d', e1, e2⟩
    · exact .inl q
    · have hne : i ≠ j := fun z => hn d' (z ▸ e1)
      refine .inr ⟨i, d', ?_, ?_⟩
      · rw [List.getElem?_set_ne (fun z => hne z.symm)]; exact e1
      · rw [gσ i hne]; exact e2
end
end DI
set_option Elab.async false
set_option linter.all false
set_option maxRecDepth 100000
set_option maxHeartbeats 4000000
/-! nodes of expressions -/
namespace DI
open PySem PySem.Spec PyProof.Rows L2
section
variable {X : Cx} {Wx : WX} {pins : List (Addr × Obj)} {σ : L2.St} {H H' : Hp} {W W' : WS} {s : Shared} {k : Nat} {W0 : WS} {ρ : Rho} {cf : Str → List D → Out D} {m : Md}
/-- e evaluated as c says -/
structure E3 (cf : Str → List D → Out D) (X : Cx) (Wx : WX) (e : Expr) (c : CE) : Prop where
  v : ∀ ρ, PE X e (tE X Wx .val ρ (evalE cf false c ρ))
  p : ∀ ρ, PE X e (tE X Wx .pk ρ (evalE cf true c ρ))
  f : freshE c = true → ∀ ρ, PE X e (tE X Wx .fr ρ (evalE cf false c ρ))
theorem AnW.weak {α β : Type} {o : Out α} {rel rel' : Rel α β} {Q : β → Hp → Prop} (h : AnW X Wx W0 ρ o rel σ H Q) (i : ∀ H' a v, rel' H H' (Wn W0 σ ρ) a v → rel H H' (Wn W0 σ ρ) a v) : AnW X Wx W0 ρ o rel' σ H Q := by
  obtain ⟨rep, h⟩ := h
  refine ⟨rep, ?_⟩
  revert h
  cases o with
  | ok a => exact fun h v H' s r => h v H' s (i H' a v r)
  | exc c p => exact id
  | bad => exact id
theorem AnW.trk {α β : Type} {o : Out α} {rel : Rel α β} {Q : β → Hp → Prop} (h : AnW X Wx W0 ρ o rel σ H Q) : ∀ a, Wn W0 σ ρ a → H a ≠ none := h.1.wtrk
theorem E3.ofFr {e : Expr} {c : CE} (h : ∀ ρ, PE X e (tE X Wx .fr ρ (evalE cf false c ρ))) (q : ∀ ρ, evalE cf true c ρ = evalE cf false c ρ) : E3 cf X Wx e c :=
  ⟨fun ρ => PE.imp (h ρ) fun σ H Q ⟨W0, a⟩ => ⟨W0, a.weak fun H' d v r => r.1⟩,
   fun ρ => by rw [q ρ]; exact PE.imp (h ρ) fun σ H Q ⟨W0, a⟩ => ⟨W0, a.weak fun H' d v r => .inl r.1⟩, fun _ => h⟩
theorem E3.ofVal {e : Expr} {c : CE} (h : ∀ ρ, PE X e (tE X Wx .val ρ (evalE cf false c ρ))) (q : ∀ ρ, evalE cf true c ρ = evalE cf false c ρ) (hf : freshE c = false) : E3 cf X Wx e c :=
  ⟨h, fun ρ => by rw [q ρ]; exact PE.imp (h ρ) fun σ H Q ⟨W0, a⟩ => ⟨W0, a.weak fun H' d v r => .inl r⟩, fun z => by rw [hf] at z; cases z⟩
/-! constants, names -/
theorem e_non {j : Nat} {pos : Pos} : E3 cf X Wx (.Constant .none j pos) (.cst .none) := .ofVal (fun ρ => PE.imp pe_non fun σ H Q ⟨W0, h⟩ => h.ok (Same.refl H) (by simp only [RM, R])) (fun ρ => rfl) rfl
theorem e_bool {b : Bool} {j : Nat} {pos : Pos} : E3 cf X Wx (.Constant (.bool b) j pos) (.cst (.bool b)) := .ofVal (fun ρ => PE.imp pe_bl fun σ H Q ⟨W0, h⟩ => h.ok (Same.refl H) (by simp only [RM, R])) (fun ρ => rfl) rfl
theorem e_int {b : Int} {j : Nat} {pos : Pos} : E3 cf X Wx (.Constant (.int b) j pos) (.cst (.int b)) := .ofVal (fun ρ => PE.imp pe_int fun σ H Q ⟨W0, h⟩ => h.ok (Same.refl H) (by simp only [RM, R])) (fun ρ => rfl) rfl
theorem e_str {b : Str} {j : Nat} {pos : Pos} : E3 cf X Wx (.Constant (.str b) j pos) (.cst (.str b)) := .ofVal (fun ρ => PE.imp pe_str fun σ H Q ⟨W0, h⟩ => h.ok (Same.refl H) (by simp only [RM, R])) (fun ρ => rfl) rfl
theorem e_var {i : Nat} {x : Str} {pos : Pos} (hN : X.N[i]? = some x) (hv : Vis X.env.scope x) (hd : (x == ("__debug__" : Str)) = false) (hcd : (x == ("__classdict__" : Str)) = false) : E3 cf X Wx (.Name x pos) (.var i) := by
  refine ⟨fun ρ => PE.imp (pe_var hN hv hd hcd) fun σ H Q ⟨W0, h⟩ => ?_, fun ρ => PE.imp (pe_var hN hv hd hcd) fun σ H Q ⟨W0, h⟩ => ?_, fun z => by cases z⟩
  · obtain ⟨rep, h⟩ := h
    simp only [evalE] at h
    cases e : ρ[i]? with
    | none => rw [e] at h; exact h.elim
    | some sl =>
      rw [e] at h
      cases sl with
      | un => exact h.elim
      | sh d =>
        obtain ⟨v, h1, h2⟩ := rep.sh i d e
        exact ⟨v, h1, h v H (Same.refl H) h2⟩
      | ow d => exact h.elim
  · obtain ⟨rep, h⟩ := h
    simp only [evalE] at h
    cases e : ρ[i]? with
    | none => rw [e] at h; exact h.elim
    | some sl =>
      rw [e] at h
      cases sl with
      | un => exact h.elim
      | sh d =>
        obtain ⟨v, h1, h2⟩ := rep.sh i d e
        exact ⟨v, h1, h v H (Same.refl H) (.inl h2)⟩
      | ow d =>
        obtain ⟨a, h1, h2, _⟩ := rep.ow i d e
        exact ⟨.ref a, h1, h (.ref a) H (Same.refl H) (.inr ⟨a, rfl, h2⟩)⟩
theorem e_gl {x : Str} {d : D} {v : V} {u : Value} {pos : Pos} (hg : Gl X x) (hm : X.mg x = some u) (r : RelV v u) (hr : R (X.K, X.w) (fun _ => none) (fun _ => False) d v) (hd : (x == ("__debug__" : Str)) = false) : E3 cf X Wx (.Name x pos) (.gl d) := by
  refine .ofVal (fun ρ => PE.imp (pe_glob hg hm r hd) fun σ H Q ⟨W0, h⟩ => h.ok (Same.refl H) ?_) (fun ρ => rfl) rfl
  exact R.stp ⟨(fun a o e => by cases e), (fun a _ => .inr rfl)⟩ d v hr
/-! lists of expressions -/
theorem pa_L {f : Expr → Option CE} (hf : ∀ e c, f e = some c → E3 cf X Wx e c) (hs : ∀ e c, f e = some c → ∀ es, starEach (e :: es) X.env = (false, eval e X.env) :: starEach es X.env) :
    ∀ (es : List Expr) (cl : CL), compLs f es = some cl → ∀ ρ, PA X es (An X Wx ρ (evalL cf cl ρ) (fun _ H W ds vs => Rs (X.K, X.w) H W ds vs))
  | [], cl, h, ρ => by
    simp only [compLs, Option.some.injEq] at h
    subst h
    exact PA.imp pa_nil fun σ H Q ⟨W0, h⟩ => h.ok (Same.refl H) (by simp only [Rs])
  | e :: es, cl, h, ρ => by
    simp only [compLs] at h
    cases e1 : f e with
    | none => rw [e1] at h; cases h
    | some c =>
      cases e2 : compLs f es with
      | none => rw [e1, e2] at h; cases h
      | some cl' =>
        rw [e1, e2] at h
        simp only [Option.bind_some, Option.some.injEq] at h
        subst h
        refine PA.imp (pa_cons ((hf e c e1).v ρ) (pa_L hf hs es cl' e2 ρ) (hs e c e1 es)) fun σ H Q ⟨W0, h⟩ => ?_
        simp only [evalL] at h
        exact ⟨W0, h.bind monoC fun x v H1 s1 r1 h1 => ⟨W0, h1.bind monoC fun xs vs H2 s2 r2 h2 => h2.ok (Same.refl H2) (by simp only [Rs]; exact ⟨v, vs, rfl, R.same s2 r1, r2⟩)⟩⟩
theorem pa_PL {f : Expr → Option CE} (hf : ∀ e c, f e = some c → E3 cf X Wx e c) (hs : ∀ e c, f e = some c → ∀ es, starEach (e :: es) X.env = (false, eval e X.env) :: starEach es X.env) :
    ∀ (es : List Expr) (cl : CL), compLs f es = some cl → ∀ ρ, PA X es (An X Wx ρ (evalPL cf cl ρ) (fun _ H W ds vs => RPs (X.K, X.w) H W ds vs))
  | [], cl, h, ρ => by
    simp only [compLs, Option.some.injEq] at h
    subst h
    exact PA.imp pa_nil fun σ H Q ⟨W0, h⟩ => h.ok (Same.refl H) (by simp only [RPs])
  | e :: es, cl, h, ρ => by
    simp only [compLs] at h
    cases e1 : f e with
    | none => rw [e1] at h; cases h
    | some c =>
      cases e2 : compLs f es with
      | none => rw [e1, e2] at h; cases h
      | some cl' =>
        rw [e1, e2] at h
        simp only [Option.bind_some, Option.some.injEq] at h
        subst h
        refine PA.imp (pa_cons ((hf e c e1).p ρ) (pa_PL hf hs es cl' e2 ρ) (hs e c e1 es)) fun σ H Q ⟨W0, h⟩ => ?_
        simp only [evalPL] at h
        exact ⟨W0, h.bind monoC fun x v H1 s1 r1 h1 => ⟨W0, h1.bind monoC fun xs vs H2 s2 r2 h2 => h2.ok (Same.refl H2) (by simp only [RPs]; exact ⟨v, vs, rfl, RP.same s2 r1, r2⟩)⟩⟩
theorem e_tup {es : List Expr} {cl : CL} {x1 : Nat} {pos : Pos} (h : ∀ ρ, PA X es (An X Wx ρ (evalL cf cl ρ) (fun _ H W ds vs => Rs (X.K, X.w) H W ds vs))) : E3 cf X Wx (.Tuple es x1 pos) (.tup cl) := by
  refine .ofVal (fun ρ => PE.imp (pe_tup (h ρ)) fun σ H Q ⟨W0, a⟩ => ?_) (fun ρ => rfl) rfl
  simp only [evalE] at a
  refine ⟨W0, a.bind (RM.mono _) fun ds vs H1 s1 r1 h1 => ?_⟩
  obtain ⟨d, e, h1⟩ := h1.ob
  obtain ⟨g, e⟩ := guardP_some e
  cases e
  exact ⟨by rw [r1.length]; exact szOk_le g, fun p hp => h1.ok (same_new hp) (R.newTup h1.trk hp r1)⟩
theorem e_lst {es : List Expr} {cl : CL} {pos : Pos} (h : ∀ ρ, PA X es (An X Wx ρ (evalL cf cl ρ) (fun _ H W ds vs => Rs (X.K, X.w) H W ds vs))) : E3 cf X Wx (.List es pos) (.lst cl) := by
  refine .ofFr (fun ρ => PE.imp (pe_lst (h ρ)) fun σ H Q ⟨W0, a⟩ => ?_) (fun ρ => rfl)
  simp only [evalE] at a
  refine ⟨W0, a.bind (RM.mono _) fun ds vs H1 s1 r1 h1 => ?_⟩
  obtain ⟨d, e, h1⟩ := h1.ob
  obtain ⟨g, e⟩ := guardP_some e
  cases e
  exact ⟨by rw [r1.length]; exact szOk_le g, fun p hp => h1.ok (same_new hp) (RN.newLst h1.trk hp r1)⟩
/-! operators -/
theorem e_bin {a b : Expr} {ca cb : CE} {op : Operator} {pos : Pos} (hr : Room k X.A) (ha : E3 cf X Wx a ca) (hb : E3 cf X Wx b cb) : E3 cf X Wx (.BinOp a op b pos) (.bin op ca cb) := by
  refine .ofFr (fun ρ => PE.imp (pe_op (binD_ok op) (ha.p ρ) (hb.p ρ)) fun σ H Q ⟨W0, h⟩ => ?_) (fun ρ => rfl)
  simp only [evalE] at h
  refine ⟨W0, h.bind (RM.mono _) fun x v H1 s1 r1 h1 => ⟨W0, h1.bind (RM.mono _) fun y u H2 s2 r2 h2 => ?_⟩⟩
  obtain ⟨d, e, h2⟩ := h2.ob
  exact ⟨_, x, y, d, h2.trk, RP.same s2 r1, r2, e, fun v H' s r => h2.ok s r⟩
theorem e_neg {a : Expr} {ca : CE} {pos : Pos} (ha : E3 cf X Wx a ca) : E3 cf X Wx (.UnaryOp .USub a pos) (.neg ca) := by
  refine .ofVal (fun ρ => PE.imp (pe_un un_neg (ha.p ρ)) fun σ H Q ⟨W0, h⟩ => ?_) (fun ρ => rfl) rfl
  simp only [evalE] at h
  refine ⟨W0, h.bind (RM.mono _) fun x v H1 s1 r1 h1 => ?_⟩
  obtain ⟨i, e, h1⟩ := h1.obb
  cases x <;> simp [asI] at e
  subst e
  exact ⟨_, RP.int r1, h1.ok (Same.refl _) (by simp only [RM, R])⟩
theorem e_cmp {a b : Expr} {ca cb : CE} {op : CmpOp} {pos : Pos} (hr : Room k X.A) (hm : behindInMarks op b = false) (ha : E3 cf X Wx a ca) (hb : E3 cf X Wx b cb) : E3 cf X Wx (.Compare a [op] [b] pos) (.cmp op ca cb) := by
  refine .ofVal (fun ρ => PE.imp (pe_cmpR (cmpD_ok hr op) (ha.p ρ) (hb.p ρ) hm) fun σ H Q ⟨W0, h⟩ => ?_) (fun ρ => rfl) rfl
  simp only [evalE] at h
  refine ⟨W0, h.bind (RM.mono _) fun x v H1 s1 r1 h1 => ⟨W0, h1.bind (RM.mono _) fun y u H2 s2 r2 h2 => ?_⟩⟩
  obtain ⟨d, e, h2⟩ := h2.obb
  exact ⟨_, x, y, d, RP.same s2 r1, r2, e, h2.ok (Same.refl _) (by simp only [RM, R])⟩
theorem t_cmp {a b : Expr} {ca cb : CE} {op : CmpOp} {pos : Pos} (hr : Room k X.A) (hm : behindInMarks op b = false) (ha : E3 cf X Wx a ca) (hb : E3 cf X Wx b cb) (ρ : Rho) : PT X (.Compare a [op] [b] pos) (tB X Wx ρ ((evalE cf false (.cmp op ca cb) ρ).bind fun x => ob (asB x))) := by
  refine PT.imp (pt_cmpR (cmpD_ok hr op) (ha.p ρ) (hb.p ρ) hm) fun σ H Q ⟨W0, h⟩ => ?_
  simp only [evalE] at h
  have h' : AnW X Wx W0 ρ ((evalE cf true ca ρ).bind fun x => (evalE cf true cb ρ).bind fun y => ob (cmpD op x y)) (fun _ _ _ d v => d = v) σ H Q := by
    revert h
    cases evalE cf true ca ρ with
    | ok x =>
      cases evalE cf true cb ρ with
      | ok y => simp only [bind_ok]; cases cmpD op x y <;> simp [ob, Out.bind, asB]
      | exc c p => simp
      | bad => simp
    | exc c p => simp
    | bad => simp
  refine ⟨W0, h'.bind monoC fun x v H1 s1 r1 h1 => ⟨W0, h1.bind monoC fun y u H2 s2 r2 h2 => ?_⟩⟩
  obtain ⟨d, e, h2⟩ := h2.ob
  exact ⟨_, x, y, d, RP.same s2 r1, r2, e, d, rfl, h2.ok (Same.refl _) rfl⟩
end
end DI
set_option Elab.async false
set_option linter.all false
set_option maxRecDepth 100000
set_option maxHeartbeats 4000000
/-! tests, calls, subscripts -/
namespace DI
open PySem PySem.Spec PyProof.Rows L2
section
variable {X : Cx} {Wx : WX} {pins : List (Addr × Obj)} {σ : L2.St} {H H' : Hp} {W W' : WS} {s : Shared} {k : Nat} {W0 : WS} {ρ : Rho} {cf : Str → List D → Out D} {m : Md}
/-- e tested as c says -/
def T3 (cf : Str → List D → Out D) (X : Cx) (Wx : WX) (e : Expr) (c : CE) : Prop := ∀ ρ, PT X e (tB X Wx ρ ((evalE cf false c ρ).bind fun x => ob (asB x)))
theorem T3.plain {e : Expr} {c : CE} (h : E3 cf X Wx e c) (he : ∀ whole, isTrue e X.env whole = (do let v ← whole; standAt e.pos; holding [v] (truthy v))) : T3 cf X Wx e c := fun ρ => by
  refine PT.imp (pt_val (h.v ρ) he) fun σ H Q ⟨W0, a⟩ => ?_
  refine ⟨W0, a.bind monoC fun x v H1 s1 r1 h1 => ?_⟩
  obtain ⟨b, e, h1⟩ := h1.ob
  cases x <;> simp [asB] at e
  subst e
  simp only [RM, R] at r1
  exact ⟨_, r1, h1.ok (Same.refl _) rfl⟩
theorem e_chn {a b c : Expr} {ca cb cc : CE} {o1 o2 : CmpOp} {pos : Pos} (hr : Room k X.A) (hm : lastMarks [o1, o2] [b, c] = false) (ha : E3 cf X Wx a ca) (hb : E3 cf X Wx b cb) (hc : E3 cf X Wx c cc) : E3 cf X Wx (.Compare a [o1, o2] [b, c] pos) (.chn o1 o2 ca cb cc) := by
  refine .ofVal (fun ρ => PE.imp (pe_chain (cmpD_ok hr o1) (cmpD_ok hr o2) (ha.p ρ) (hb.p ρ) (hc.p ρ) hm) fun σ H Q ⟨W0, h⟩ => ?_) (fun ρ => rfl) rfl
  simp only [evalE] at h
  refine ⟨W0, h.bind (RM.mono _) fun x v H1 s1 r1 h1 => ⟨W0, h1.bind (RM.mono _) fun y u H2 s2 r2 h2 => ?_⟩⟩
  obtain ⟨d, e, h2⟩ := h2.obb
  refine ⟨_, x, y, d, RP.same s2 r1, r2, e, d, rfl, ?_⟩
  cases d with
  | true =>
    rw [if_pos rfl] at h2 ⊢
    refine ⟨W0, h2.bind (RM.mono _) fun z w H3 s3 r3 h3 => ?_⟩
    obtain ⟨d2, e2, h3⟩ := h3.obb
    exact ⟨_, y, z, d2, RP.same s3 r2, r3, e2, h3.ok (Same.refl _) (by simp only [RM, R])⟩
  | false =>
    rw [if_neg Bool.false_ne_true] at h2 ⊢
    exact h2.ok (Same.refl _) (by simp only [RM, R])
theorem t_chn {a b c : Expr} {ca cb cc : CE} {o1 o2 : CmpOp} {pos : Pos} (hr : Room k X.A) (hm : lastMarks [o1, o2] [b, c] = false) (ha : E3 cf X Wx a ca) (hb : E3 cf X Wx b cb) (hc : E3 cf X Wx c cc) : T3 cf X Wx (.Compare a [o1, o2] [b, c] pos) (.chn o1 o2 ca cb cc) := fun ρ => by
  refine PT.imp (pt_chain (cmpD_ok hr o1) (cmpD_ok hr o2) (ha.p ρ) (hb.p ρ) (hc.p ρ) hm) fun σ H Q ⟨W0, h⟩ => ?_
  simp only [evalE] at h
  have h' : AnW X Wx W0 ρ ((evalE cf true ca ρ).bind fun x => (evalE cf true cb ρ).bind fun y => (ob (cmpD o1 x y)).bind fun k => if k = true then (evalE cf true cc ρ).bind fun z => ob (cmpD o2 y z) else .ok false) (fun _ _ _ d v => d = v) σ H Q := by
    revert h
    cases evalE cf true ca ρ with
    | ok x =>
      cases evalE cf true cb ρ with
      | ok y =>
        simp only [bind_ok]
        cases cmpD o1 x y with
        | none => simp [ob]
        | some k =>
          cases k with
          | false => simp [ob, asB]
          | true =>
            simp only [ob, bind_ok, if_true]
            cases evalE cf true cc ρ with
            | ok z => simp only [bind_ok]; cases cmpD o2 y z <;> simp [ob, Out.bind, asB]
            | exc c p => simp
            | bad => simp
      | exc c p => simp
      | bad => simp
    | exc c p => simp
    | bad => simp
  refine ⟨W0, h'.bind monoC fun x v H1 s1 r1 h1 => ⟨W0, h1.bind monoC fun y u H2 s2 r2 h2 => ?_⟩⟩
  obtain ⟨d, e, h2⟩ := h2.obb
  refine ⟨_, x, y, d, RP.same s2 r1, r2, e, d, rfl, ?_⟩
  cases d with
  | true =>
    rw [if_pos rfl] at h2 ⊢
    refine ⟨W0, h2.bind monoC fun z w H3 s3 r3 h3 => ?_⟩
    obtain ⟨d2, e2, h3⟩ := h3.ob
    exact ⟨_, y, z, d2, RP.same s3 r2, r3, e2, d2, rfl, h3.ok (Same.refl _) rfl⟩
  | false =>
    rw [if_neg Bool.false_ne_true] at h2 ⊢
    exact ⟨false, rfl, h2.ok (Same.refl _) rfl⟩
/-! and, or, not -/
theorem e_and {a b : Expr} {es : List Expr} {ca cb : CE} {pos : Pos} (ha : E3 cf X Wx a ca) (hb : E3 cf X Wx (.BoolOp .And (b :: es) pos) cb) : E3 cf X Wx (.BoolOp .And (a :: b :: es) pos) (.and_ ca cb) := by
  refine .ofVal (fun ρ => PE.imp (pe_and (ha.v ρ) (hb.v ρ)) fun σ H Q ⟨W0, h⟩ => ?_) (fun ρ => rfl) rfl
  simp only [evalE] at h
  refine ⟨W0, h.bind (RM.mono _) fun x v H1 s1 r1 h1 => ?_⟩
  obtain ⟨d, e, h1⟩ := h1.obb
  cases x <;> simp [asB] at e
  subst e
  simp only [RM, R] at r1
  refine ⟨_, r1, ?_⟩
  split <;> rename_i hk
  · rw [if_pos hk] at h1
    exact ⟨W0, h1⟩
  · rw [if_neg hk] at h1
    exact h1.ok (Same.refl _) (by simp only [RM, R])
theorem e_or {a b : Expr} {es : List Expr} {ca cb : CE} {pos : Pos} (ha : E3 cf X Wx a ca) (hb : E3 cf X Wx (.BoolOp .Or (b :: es) pos) cb) : E3 cf X Wx (.BoolOp .Or (a :: b :: es) pos) (.or_ ca cb) := by
  refine .ofVal (fun ρ => PE.imp (pe_or (ha.v ρ) (hb.v ρ)) fun σ H Q ⟨W0, h⟩ => ?_) (fun ρ => rfl) rfl
  simp only [evalE] at h
  refine ⟨W0, h.bind (RM.mono _) fun x v H1 s1 r1 h1 => ?_⟩
  obtain ⟨d, e, h1⟩ := h1.obb
  cases x <;> simp [asB] at e
  subst e
  simp only [RM, R] at r1
  refine ⟨_, r1, ?_⟩
  split <;> rename_i hk
  · rw [if_pos hk] at h1
    exact h1.ok (Same.refl _) (by simp only [RM, R])
  · rw [if_neg hk] at h1
    exact ⟨W0, h1⟩
theorem e_not {a : Expr} {ca : CE} {pos : Pos} (ha : E3 cf X Wx a ca) : E3 cf X Wx (.UnaryOp .Not a pos) (.not_ ca) := by
  refine .ofVal (fun ρ => PE.imp (pe_not (ha.v ρ)) fun σ H Q ⟨W0, h⟩ => ?_) (fun ρ => rfl) rfl
  simp only [evalE] at h
  refine ⟨W0, h.bind (RM.mono _) fun x v H1 s1 r1 h1 => ?_⟩
  obtain ⟨d, e, h1⟩ := h1.obb
  cases x <;> simp [asB] at e
  subst e
  simp only [RM, R] at r1
  exact ⟨_, r1, h1.ok (Same.refl _) (by simp only [RM, R])⟩
theorem t_not {a : Expr} {ca : CE} {pos : Pos} (ha : T3 cf X Wx a ca) : T3 cf X Wx (.UnaryOp .Not a pos) (.not_ ca) := fun ρ => by
  refine PT.imp (pt_not (ha ρ)) fun σ H Q ⟨W0, h⟩ => ?_
  simp only [evalE] at h
  have h' : AnW X Wx W0 ρ (((evalE cf false ca ρ).bind fun x => ob (asB x)).bind fun k => .ok (!k)) (fun _ _ _ d v => d = v) σ H Q := by
    revert h
    cases evalE cf false ca ρ with
    | ok x => simp only [bind_ok]; cases asB x <;> simp [ob, asB]
    | exc c p => simp
    | bad => simp
  exact ⟨W0, h'.bind monoC fun x v H1 s1 r1 h1 => h1.ok (Same.refl _) (by rw [r1])⟩
def W3 (cf : Str → List D → Out D) (X : Cx) (Wx : WX) (e : Expr) (c : CE) : Prop := ∀ ρ, PW X e (tB X Wx ρ ((evalE cf false c ρ).bind fun x => ob (asB x)))
theorem w_and {a b : Expr} {es : List Expr} {ca cb : CE} {pos : Pos} (ha : T3 cf X Wx a ca) (hb : W3 cf X Wx (.BoolOp .And (b :: es) pos) cb) : W3 cf X Wx (.BoolOp .And (a :: b :: es) pos) (.and_ ca cb) := fun ρ => by
  refine PW.imp (pw_and (ha ρ) (hb ρ)) fun σ H Q ⟨W0, h⟩ => ?_
  simp only [evalE] at h
  have h' : AnW X Wx W0 ρ (((evalE cf false ca ρ).bind fun x => ob (asB x)).bind fun k => if k = true then (evalE cf false cb ρ).bind fun x => ob (asB x) else .ok false) (fun _ _ _ d v => d = v) σ H Q := by
    revert h
    cases evalE cf false ca ρ with
    | ok x =>
      simp only [bind_ok]
      cases asB x with
      | none => simp [ob]
      | some k => cases k <;> simp [ob, asB]
    | exc c p => simp
    | bad => simp
  refine ⟨W0, h'.bind monoC fun x v H1 s1 r1 h1 => ?_⟩
  subst r1
  split <;> rename_i hk
  · rw [if_pos hk] at h1
    exact ⟨W0, h1⟩
  · rw [if_neg hk] at h1
    exact h1.ok (Same.refl _) rfl
theorem w_or {a b : Expr} {es : List Expr} {ca cb : CE} {pos : Pos} (ha : T3 cf X Wx a ca) (hb : W3 cf X Wx (.BoolOp .Or (b :: es) pos) cb) : W3 cf X Wx (.BoolOp .Or (a :: b :: es) pos) (.or_ ca cb) := fun ρ => by
  refine PW.imp (pw_or (ha ρ) (hb ρ)) fun σ H Q ⟨W0, h⟩ => ?_
  simp only [evalE] at h
  have h' : AnW X Wx W0 ρ (((evalE cf false ca ρ).bind fun x => ob (asB x)).bind fun k => if k = true then .ok true else (evalE cf false cb ρ).bind fun x => ob (asB x)) (fun _ _ _ d v => d = v) σ H Q := by
    revert h
    cases evalE cf false ca ρ with
    | ok x =>
      simp only [bind_ok]
      cases asB x with
      | none => simp [ob]
      | some k => cases k <;> simp [ob, asB]
    | exc c p => simp
    | bad => simp
  refine ⟨W0, h'.bind monoC fun x v H1 s1 r1 h1 => ?_⟩
  subst r1
  split <;> rename_i hk
  · rw [if_pos hk] at h1
    exact h1.ok (Same.refl _) rfl
  · rw [if_neg hk] at h1
    exact ⟨W0, h1⟩
theorem boolop_ok {op : BoolOp} {f : Expr → Option CE} {pos : Pos} (hf : ∀ e c, f e = some c → E3 cf X Wx e c ∧ T3 cf X Wx e c) : ∀ (es : List Expr) (c : CE), compB op f es = some c → E3 cf X Wx (.BoolOp op es pos) c ∧ W3 cf X Wx (.BoolOp op es pos) c
  | [], c, h => by simp [compB] at h
  | [e], c, h => by
    simp only [compB] at h
    obtain ⟨h1, h2⟩ := hf e c h
    refine ⟨⟨fun ρ => pe_one (h1.v ρ), fun ρ => pe_one (h1.p ρ), fun z ρ => pe_one (h1.f z ρ)⟩, fun ρ => ?_⟩
    cases op
    · exact pw_and1 (h2 ρ)
    · exact pw_or1 (h2 ρ)
  | e :: e2 :: es, c, h => by
    simp only [compB] at h
    cases e1 : f e with
    | none => rw [e1] at h; cases h
    | some c1 =>
      cases e3 : compB op f (e2 :: es) with
      | none => rw [e1, e3] at h; cases h
      | some c2 =>
        rw [e1, e3] at h
        simp only [Option.bind_some, Option.some.injEq] at h
        subst h
        obtain ⟨h1, h2⟩ := hf e c1 e1
        obtain ⟨h3, h4⟩ := boolop_ok hf (e2 :: es) c2 e3
        cases op
        · exact ⟨e_and h1 h3, w_and h2 h4⟩
        · exact ⟨e_or h1 h3, w_or h2 h4⟩
theorem e_ife {c a b : Expr} {cc ca cb : CE} {pos : Pos} (hc : T3 cf X Wx c cc) (ha : E3 cf X Wx a ca) (hb : E3 cf X Wx b cb) : E3 cf X Wx (.IfExp c a b pos) (.ife cc ca cb) := by
  refine .ofVal (fun ρ => PE.imp (pe_ifExp (hc ρ) (ha.v ρ) (hb.v ρ)) fun σ H Q ⟨W0, h⟩ => ?_) (fun ρ => rfl) rfl
  simp only [evalE] at h
  have h' : AnW X Wx W0 ρ (((evalE cf false cc ρ).bind fun x => ob (asB x)).bind fun k => if k = true then evalE cf false ca ρ else evalE cf false cb ρ) (RM (X.K, X.w) .val) σ H Q := by
    revert h
    cases evalE cf false cc ρ with
    | ok x => exact id
    | exc c p => exact id
    | bad => exact id
  refine ⟨W0, h'.bind (RM.mono _) fun x v H1 s1 r1 h1 => ?_⟩
  subst r1
  split <;> rename_i hk
  · rw [if_pos hk] at h1
    exact ⟨W0, h1⟩
  · rw [if_neg hk] at h1
    exact ⟨W0, h1⟩
/-! places, slices -/
theorem e_ix {a b : Expr} {ca cb : CE} {pos : Pos} (hs : PlainIx b) (ha : E3 cf X Wx a ca) (hb : E3 cf X Wx b cb) : E3 cf X Wx (.Subscript a b pos) (.ix ca cb) := by
  refine .ofVal (fun ρ => PE.imp (pe_ix ixD_ok (ha.p ρ) (hb.p ρ) hs) fun σ H Q ⟨W0, h⟩ => ?_) (fun ρ => rfl) rfl
  simp only [evalE] at h
  refine ⟨W0, h.bind (RM.mono _) fun x v H1 s1 r1 h1 => ⟨W0, h1.bind (RM.mono _) fun y u H2 s2 r2 h2 => ?_⟩⟩
  obtain ⟨d, e, h2⟩ := h2.ob
  exact ⟨_, x, y, d, h2.trk, RP.same s2 r1, r2, e, fun v H' s r => h2.ok s r⟩
theorem e_rev {a : Expr} {ca : CE} {j : Nat} {p1 p2 p3 pos : Pos} (ha : E3 cf X Wx a ca) : E3 cf X Wx (.Subscript a (.Slice none none (some (.UnaryOp .USub (.Constant (.int 1) j p1) p2)) p3) pos) (.rev ca) := by
  refine .ofFr (fun ρ => PE.imp (pe_revL (ha.p ρ)) fun σ H Q ⟨W0, h⟩ => ?_) (fun ρ => rfl)
  simp only [evalE] at h
  refine ⟨W0, h.bind (RM.mono _) fun x v H1 s1 r1 h1 => ?_⟩
  obtain ⟨ds, e1, h1⟩ := h1.obb
  cases x <;> simp [asSq] at e1
  subst e1
  obtain ⟨a, xs, rfl, q1, q2⟩ := RP.list r1
  exact ⟨a, xs, rfl, q1, fun p hp => h1.ok (same_new hp) (RN.newLst h1.trk hp q2.reverse)⟩
def O3 (cf : Str → List D → Out D) (X : Cx) (Wx : WX) (e : Option Expr) (c : CO) : Prop := ∀ ρ, PO X e (tOI X Wx ρ (evalO cf c ρ))
theorem o_no : O3 cf X Wx none .no := fun ρ => PO.imp po_none fun σ H Q ⟨W0, h⟩ => h.ok (Same.refl _) rfl
theorem o_so {e : Expr} {c : CE} (h : E3 cf X Wx e c) : O3 cf X Wx (some e) (.so c) := fun ρ => by
  refine PO.imp (po_some (h.v ρ)) fun σ H Q ⟨W0, h⟩ => ?_
  simp only [evalO] at h
  refine ⟨W0, h.bind monoC fun x v H1 s1 r1 h1 => ?_⟩
  obtain ⟨i, e, h1⟩ := h1.obb
  cases x <;> simp [asI] at e
  subst e
  simp only [RM, R] at r1
  exact ⟨_, r1, h1.ok (Same.refl _) rfl⟩
theorem e_slc {a : Expr} {lo hi : Option Expr} {ca : CE} {cl ch : CO} {p2 pos : Pos} (ha : E3 cf X Wx a ca) (hl : O3 cf X Wx lo cl) (hh : O3 cf X Wx hi ch) : E3 cf X Wx (.Subscript a (.Slice lo hi none p2) pos) (.slc ca cl ch) := by
  refine .ofFr (fun ρ => PE.imp (pe_slice slcD_ok (ha.p ρ) (hl ρ) (hh ρ)) fun σ H Q ⟨W0, h⟩ => ?_) (fun ρ => rfl)
  simp only [evalE] at h
  refine ⟨W0, h.bind (RM.mono _) fun x v H1 s1 r1 h1 => ⟨W0, h1.bind (RM.mono _) fun l l' H2 s2 r2 h2 => ⟨W0, h2.bind (RM.mono _) fun u u' H3 s3 r3 h3 => ?_⟩⟩⟩
  obtain ⟨d, e, h3⟩ := h3.ob
  subst r2 r3
  exact ⟨_, x, d, h3.trk, RP.same s3 (RP.same s2 r1), e, fun v H' s r => h3.ok s r⟩
end
end DI
set_option Elab.async false
set_option linter.all false
set_option maxRecDepth 100000
set_option maxHeartbeats 4000000
/-! calls, targets, comprehensions -/
namespace DI
open PySem PySem.Spec PyProof.Rows L2
def bltK : List (String × Bool) := [("len", false), ("list", true), ("tuple", true), ("int", true), ("all", false), ("any", false), ("sum", false), ("min", false), ("max", false), ("sorted", false)]
def bltV (p : String × Bool) : Value := if p.2 = true then .type p.1 else .builtin p.1
theorem bltK_boot : ∀ p ∈ bltK, bootBuiltins (Str.ofString p.1) = some (bltV p) := by decide +kernel
theorem bltK_nm : ∀ p ∈ bltK, Str.ofString p.1 ≠ ("__name__" : Str) := by decide +kernel
theorem bltK_db : ∀ p ∈ bltK, (Str.ofString p.1 == ("__debug__" : Str)) = false := by decide +kernel
theorem isiTs_boot : ∀ t ∈ isiTs, bootBuiltins (Str.ofString t) = some (.type t) := by decide +kernel
theorem isiTs_nm : ∀ p ∈ isiTs, Str.ofString p ≠ ("__name__" : Str) := by decide +kernel
theorem isiTs_db : ∀ p ∈ isiTs, (Str.ofString p == ("__debug__" : Str)) = false := by decide +kernel
section
variable {X : Cx} {Wx : WX} {pins : List (Addr × Obj)} {σ : L2.St} {H H' : Hp} {W W' : WS} {s : Shared} {k : Nat} {W0 : WS} {ρ : Rho} {cf : Str → List D → Out D} {m : Md}
theorem biD_ok (hc : X.calm = true) (hr : Room k X.A) : ∀ p ∈ bltK, CallR X (bltV p) (rDL X (biD p.1)) := fun p hp => by
  simp only [bltK, List.mem_cons, List.not_mem_nil, or_false] at hp
  rcases hp with rfl | rfl | rfl | rfl | rfl | rfl | rfl | rfl | rfl | rfl
  · exact bi_len
  · exact bi_list
  · exact bi_tuple
  · exact bi_int
  · exact bi_all hc
  · exact bi_any hc
  · exact bi_sum hc
  · exact bi_min hc
  · exact bi_max hc
  · exact bi_sorted (by have := hr.un; omega)
theorem e_bi {f : String} {t : Bool} {e : Expr} {es : List Expr} {cl : CL} {p pos : Pos} (hc : X.calm = true) (hr : Room k X.A) (hp : (f, t) ∈ bltK) (hg : Gl X (Str.ofString f)) (hm : X.mg (Str.ofString f) = none)
    (h : ∀ ρ, PA X (e :: es) (An X Wx ρ (evalPL cf cl ρ) (fun _ H W ds vs => RPs (X.K, X.w) H W ds vs))) (he : starEach (e :: es) X.env = (false, eval e X.env) :: starEach es X.env) (hpl : (backTo pos (starEach es X.env)).any (·.1) = false) :
    E3 cf X Wx (.Call (.Name (Str.ofString f) p) (e :: es) [] pos) (.bi f cl) := by
  refine .ofFr (fun ρ => ?_) (fun ρ => rfl)
  have key : PE X (.Call (.Name (Str.ofString f) p) (e :: es) [] pos) (tCB (rDL X (biD f)) (An X Wx ρ (evalPL cf cl ρ) (fun _ H W ds vs => RPs (X.K, X.w) H W ds vs))) := by
    have h1 := biD_ok hc hr (f, t) hp
    have h2 := bltK_boot (f, t) hp
    cases t with
    | true => exact pe_callTy h1 hg hm h2 (h ρ) (bltK_nm _ hp) (bltK_db _ hp) he hpl
    | false => exact pe_callB h1 hg hm h2 (h ρ) (bltK_nm _ hp) (bltK_db _ hp) he hpl
  refine PE.imp key fun σ H Q ⟨W0, a⟩ => ?_
  simp only [evalE] at a
  refine ⟨W0, a.bind (RM.mono _) fun ds vs H1 s1 r1 h1 => ?_⟩
  obtain ⟨d, e, h1⟩ := h1.ob
  exact ⟨_, ds, d, h1.trk, r1, e, fun v H' s r => h1.ok s r⟩
theorem e_isi {t : String} {e : Expr} {c : CE} {p pos p2 : Pos} (ht : t ∈ isiTs) (hg : Gl X "isinstance") (hm : X.mg "isinstance" = none) (hg2 : Gl X (Str.ofString t)) (hm2 : X.mg (Str.ofString t) = none) (h : E3 cf X Wx e c)
    (he : starEach (e :: [.Name (Str.ofString t) p2]) X.env = (false, eval e X.env) :: starEach [.Name (Str.ofString t) p2] X.env) :
    E3 cf X Wx (.Call (.Name "isinstance" p) [e, .Name (Str.ofString t) p2] [] pos) (.isi c t) := by
  refine .ofVal (fun ρ => ?_) (fun ρ => rfl) rfl
  have hb : PE X (.Name (Str.ofString t) p2) (tC (.ty t)) := pe_bltn hg2 hm2 (isiTs_boot t ht) rfl (isiTs_nm t ht) (isiTs_db t ht)
  have ha := pa_cons (h.p ρ) (pa_cons hb pa_nil) he
  refine PE.imp (pe_callB (bi_isi t ht) hg hm (by decide +kernel) ha (by decide) (by decide) he rfl) fun σ H Q ⟨W0, a⟩ => ?_
  simp only [evalE] at a
  refine ⟨W0, a.bind (RM.mono _) fun x v H1 s1 r1 h1 => ?_⟩
  obtain ⟨d, e, h1⟩ := h1.ob
  refine ⟨_, v, x, rfl, r1, fun b hb => ?_⟩
  rw [hb] at e
  cases e
  exact h1.ok (Same.refl _) (by simp only [RM, R])
/-! the program's own functions -/
/-- what a function promises: what cf tells of the arguments -/
def spF (K : PySem.W.Frag × World) (mg : Str → Option Value) (ar : Nat) (fr : Bool) (f : List D → Out D) : Sp := fun vs H Q E => ∃ W ds, (∀ a, W a → H a ≠ none) ∧ Rs K H W ds vs ∧ ds.length = ar ∧ match f ds with
  | .ok d => ∀ v H', Same H H' → (if fr = true then RN K H H' W d v else R K H' W d v) → Q v H'
  | .exc c p => ∀ C, mg c = some (.ref C) → p = [] → ∀ H', Same H H' → E (.ref C) none H'
  | .bad => False
structure FnGood (X : Cx) (k : Nat) (cf : Str → List D → Out D) (x : Str) (fr : Bool) (ar : Nat) : Prop where
  ex : ∃ (f : Addr) (fd : FuncData) (ps : List Str), X.mg x = some (.ref f) ∧ PySem.W.keepIn X.K (.ref f) = true ∧ Binds X.K fd ps [] ∧ FnOk X.prog X.w X.K X.mg X.base (L2.CX X.prog X.w) k f fd ps (spF (X.K, X.w) X.mg ar fr (cf x))
  ar : ∀ ds, cf x ds ≠ .bad → ds.length = ar
  db : (x == ("__debug__" : Str)) = false
theorem call_sp {ar : Nat} {fr : Bool} {x : Str} {ds : List D} {vs : List V} {Q : VK} {pk : Md} (hm : pk = .fr → fr = true) (hal : ds.length = ar) (h : AnW X Wx W0 ρ (cf x ds) (RM (X.K, X.w) pk) σ H Q) (r : Rs (X.K, X.w) H (Wn W0 σ ρ) ds vs) :
    spF (X.K, X.w) X.mg ar fr (cf x) vs H Q (WE Wx σ) := by
  refine ⟨_, ds, h.trk, r, hal, ?_⟩
  obtain ⟨rep, h⟩ := h
  revert h
  cases cf x ds with
  | ok d =>
    intro h v H' s q
    refine h v H' s ?_
    cases fr with
    | true =>
      rw [if_pos rfl] at q
      exact RM.ofN q
    | false =>
      rw [if_neg Bool.false_ne_true] at q
      exact RM.ofR (fun z => by cases hm z) q
  | exc c p => exact fun h C hC hp H' s => h _ _ H' s ⟨C, hC, rfl, hp, rfl⟩
  | bad => exact id
theorem e_call {x : Str} {fr : Bool} {e : Expr} {es : List Expr} {cl : CL} {p pos : Pos} (tk : Takes X Wx) (hr : Room k X.A) (hg : Gl X x) {ar : Nat} (F : FnGood X k cf x fr ar)
    (h : ∀ ρ, PA X (e :: es) (An X Wx ρ (evalL cf cl ρ) (fun _ H W ds vs => Rs (X.K, X.w) H W ds vs))) (he : starEach (e :: es) X.env = (false, eval e X.env) :: starEach es X.env) (hpl : (backTo pos (starEach es X.env)).any (·.1) = false) :
    E3 cf X Wx (.Call (.Name x p) (e :: es) [] pos) (.call x fr cl) := by
  obtain ⟨f, fd, ps, gm, gk, gb, G⟩ := F.ex
  have key : ∀ (pk : Md), (pk = .fr → fr = true) → ∀ ρ, PE X (.Call (.Name x p) (e :: es) [] pos) (tE X Wx pk ρ (evalE cf false (.call x fr cl) ρ)) := fun pk hpk ρ => by
    refine PE.imp (pe_callS (E := WE Wx) G hr hg gm gk gb (fun σ => passAt tk σ) (h ρ) F.db he hpl) fun σ H Q ⟨W0, a⟩ => ?_
    simp only [evalE] at a
    refine ⟨W0, a.bind (RM.mono _) fun ds vs H1 s1 r1 h1 => ?_⟩
    by_cases hb : cf x ds = .bad
    · rw [hb] at h1
      exact h1.bad.elim
    · exact call_sp hpk (F.ar ds hb) h1 r1
  exact ⟨fun ρ => key .val (fun z => by cases z) ρ, fun ρ => key .pk (fun z => by cases z) ρ, fun z ρ => key .fr (fun _ => z) ρ⟩
end
end DI
set_option Elab.async false
set_option linter.all false
set_option maxRecDepth 100000
set_option maxHeartbeats 4000000
/-! sorted(xs, key=f), f a def of the program -/
namespace DI
open PySem PySem.Spec PyProof.Rows L2
def ksX (X : Cx) : Cx := { X with A := X.A.in1.in1, xe := fun _ _ => False }
theorem mapD_exc {f : List D → Out D} : ∀ (ds : List D) (c : Str) (p : List D), mapD f ds ≠ .exc c p
  | [], c, p, h => by cases h
  | d :: ds, c, p, h => by
    simp only [mapD] at h
    split at h
    · cases e : mapD f ds with
      | ok r => rw [e] at h; cases h
      | exc c' p' => exact mapD_exc ds c' p' e
      | bad => rw [e] at h; cases h
    · cases h
theorem mapD_get {f : List D → Out D} : ∀ {ds ks : List D}, mapD f ds = .ok ks → ks.length = ds.length ∧ ∀ (i : Nat) (d : D), ds[i]? = some d → ∃ k, ks[i]? = some k ∧ f [d] = .ok k
  | [], ks, h => by
    simp only [mapD] at h
    cases h
    exact ⟨rfl, fun i d e => by simp at e⟩
  | d :: ds, ks, h => by
    simp only [mapD] at h
    cases e : f [d] with
    | ok x =>
      rw [e] at h
      dsimp only at h
      cases e2 : mapD f ds with
      | ok r =>
        rw [e2] at h
        cases h
        obtain ⟨h1, h2⟩ := mapD_get e2
        refine ⟨by rw [List.length_cons, List.length_cons, h1], fun i d' e' => ?_⟩
        cases i with
        | zero =>
          simp at e'
          subst e'
          exact ⟨x, rfl, e⟩
        | succ i =>
          obtain ⟨k, k1, k2⟩ := h2 i d' (by simpa using e')
          exact ⟨k, by simpa using k1, k2⟩
      | exc c p => rw [e2] at h; cases h
      | bad => rw [e2] at h; cases h
    | exc c p => rw [e] at h; cases h
    | bad => rw [e] at h; cases h
section
variable {X : Cx} {Wx : WX} {pins : List (Addr × Obj)} {σ : L2.St} {H H' : Hp} {W W' : WS} {s : Shared} {k : Nat} {W0 : WS} {ρ : Rho} {cf : Str → List D → Out D} {m : Md}
theorem inv_ks (I : Inv X pins σ H s) : Inv (ksX X) pins σ H s :=
  ⟨⟨I.ok.mod, I.ok.kind, I.ok.glob, I.ok.blt, I.ok.above, I.ok.inj, I.ok.has, I.ok.cab, I.ok.hd, I.ok.frames, I.ok.stk, I.ok.exf, I.ok.bs, I.ok.bsz, I.ok.noex, I.ok.exfs, I.ok.funs, I.ok.frf⟩, I.os, I.bare, I.base, I.loc, I.cell, I.free, I.freeC, I.pin, I.hok, I.len⟩
theorem inv_unks (ok : X.Ok) (I : Inv (ksX X) pins σ H s) : Inv X pins σ H s :=
  ⟨ok, I.os, I.bare, I.base, I.loc, I.cell, I.free, I.freeC, I.pin, I.hok, I.len⟩
theorem room_ks (hr : Room (k + 1) X.A) : Room k (ksX X).A := ⟨hr.hd, by have := hr.dp; show X.A.depth + 3 * k + 5 < _; omega, by have := hr.un; show X.A.units + 1 + 1 + 16 * k + 200 < _; omega⟩
/-- one key -/
theorem key_turn {x : Str} {fr : Bool} (hr : Room (k + 1) X.A) (F : FnGood X k cf x fr 1) {fa : Addr} (hfa : X.mg x = some (.ref fa)) (I : Inv X pins σ H s) {d key : D} {v : V} {u : Value} (hW : ∀ a, W a → H a ≠ none) (r : R (X.K, X.w) H W d v) (rv : RelV v u) (hk : cf x [d] = .ok key) :
    wpAny (model X.prog X.w) X.A.in1.in1 (call (.ref fa) [u]) (fun u' s' => ∃ v' H', Inv X pins σ H' s' ∧ RelV v' u' ∧ Same H H' ∧ R (X.K, X.w) H' W key v') (fun _ _ => False) s := by
  obtain ⟨f, fd, ps, gm, gk, gb, G⟩ := F.ex
  rw [hfa] at gm
  cases gm
  have key0 : wpAny (model X.prog X.w) (ksX X).A (call (.ref fa) [u]) (EP (ksX X) pins σ (fun v' H' => Same H H' ∧ R (X.K, X.w) H' W key v')) (ksX X).xe s := by
    refine run_fnS (X := ksX X) (E := WE (fun _ _ _ _ => False)) (k := k) G (room_ks hr) gb (passAt takes0 σ) (inv_ks I) (vs := [v]) (.cons rv .nil) ?_
    refine ⟨W, [d], hW, Rs.one r, rfl, ?_⟩
    rw [hk]
    intro v' H' sm q
    refine ⟨sm, ?_⟩
    split at q
    · exact q.1
    · exact q
  exact wpAny_mono key0 (fun u' s' ⟨v', H', I', rv', q1, q2⟩ => ⟨v', H', inv_unks I.ok I', rv', q1, q2⟩) fun _ _ z => z
/-- the record at it is another one; it is ours and not tracked -/
theorem inv_turned {h' : Heap} {t' : Nat} {it : Addr} (I : Inv X pins σ H s) (kp : ∀ b o, b ≠ it → s.heap.get? b = some o → h'.get? b = some o) (fp : FpOk X pins H it) : Inv X pins σ H { s with heap := h', toks := t' } :=
  I.turned kp fp.1 fp.2.1 fp.2.2.2.1 fp.2.2.2.2.1 fp.2.2.2.2.2
theorem inv_pin {it : Addr} {o : Obj} (I : Inv X pins σ H s) (fp : FpOk X pins H it) (e : s.heap.get? it = some o) (hd : ∀ v, o.data ≠ .cell v) : Inv X (pins ++ [(it, o)]) σ H s :=
  I.pins_of fun p hp => by
    rcases List.mem_append.mp hp with hp | hp
    · exact I.pin p (List.mem_append_right _ hp)
    · rw [List.mem_singleton] at hp
      subst hp
      exact ⟨e, fp.1, fp.2.1, fp.2.2.1, hd⟩
theorem inv_unpin {q : Addr × Obj} (I : Inv X (pins ++ [q]) σ H s) : Inv X pins σ H s := I.unpinned
theorem fpOk_mono {it : Addr} {ps : List (Addr × Obj)} (fp : FpOk X (pins ++ ps) H it) (hn : H' it = none) : FpOk X pins H' it :=
  ⟨hn, fp.2.1, fp.2.2.1, fp.2.2.2.1, fp.2.2.2.2.1, fun p hp => fp.2.2.2.2.2 p ((List.mem_append.mp hp).elim (fun z => List.mem_append_left _ z) fun z => List.mem_append_right _ (List.mem_append_left _ z))⟩
theorem plain_all : ∀ (l : List D), (∀ d ∈ l, shp d = true) → PyData.plainAll l = true
  | [], _ => rfl
  | d :: l, h => by
    simp only [PyData.plainAll, Bool.and_eq_true]
    exact ⟨shp_plain (h d List.mem_cons_self), plain_all l fun e he => h e (List.mem_cons_of_mem _ he)⟩
/-- the loop over the keys -/
theorem key_loop {x : Str} {fr : Bool} (hr : Room (k + 1) X.A) (F : FnGood X k cf x fr 1) {fa a kS : Addr} (hfa : X.mg x = some (.ref fa)) {ds ks : List D} {vs : List V} {its : List Value} {e1 : Nat} {b : Bool} {P : PySem.Fin → Shared → Prop} {E : Value → Shared → Prop}
    (hm : mapD (cf x) ds = .ok ks) (hg : srtOk ks = true) (hlen : its.length = ds.length) (hz : its.length ≤ sizeLine)
    (I : Inv X (pins ++ [(a, seqObj "list" #[] e1)]) σ H s) (fk : FpOk X (pins ++ [(a, seqObj "list" #[] e1)]) H kS) (ok : s.heap.get? kS = some (seqObj "list" #[] 0))
    (hW : ∀ a, W a → H a ≠ none) (r : Rs (X.K, X.w) H W ds vs) (rv : Vals vs its)
    (fin : ∀ (H' : Hp) (h' : Heap) (s' : Shared) (tk c : Nat) (out : List Value), Inv X (pins ++ [(a, seqObj "list" #[] e1)]) σ H' s' → Same H H' → (∀ c o, c ≠ a → c ≠ kS → s'.heap.get? c = some o → h'.get? c = some o) → H' kS = none → s'.heap.get? kS ≠ none →
      h'.get? a = some (seqObj "list" out.toArray c) → PySem.W.KeyedOut b ks its out → P (.done (.ret .none)) { s' with heap := h', toks := tk }) :
    wpAny (model X.prog X.w) X.A.in1.in1 (PyProof.Rows.ksk_rest a (.ref fa) b its.toArray e1 (.ref kS)) P E s := by
  obtain ⟨al, so, sh, hl⟩ := srtOk_all hg
  obtain ⟨kl, kget⟩ := mapD_get hm
  have rl := r.length
  have hka : kS ≠ a := fun z => fk.2.2.2.2.2 (a, seqObj "list" #[] e1) (List.mem_append_right _ (List.mem_append_right _ (List.mem_singleton.mpr rfl))) z.symm
  unfold PyProof.Rows.ksk_rest
  refine wpAny_bind (wpAny_rule ?_)
  rw [List.forIn_toArray]
  refine wpAny_bind (PyProof.Rows.ksk_fold (fun j s' => ∃ H' kvs kA n, Inv X (pins ++ [(a, seqObj "list" #[] e1)]) σ H' s' ∧ FpOk X (pins ++ [(a, seqObj "list" #[] e1)]) H' kS ∧ s'.heap.get? kS = some (seqObj "list" kA n) ∧ Vals kvs kA.toList ∧ Rs (X.K, X.w) H' W (ks.take j) kvs ∧ Same H H') its 0 s
    ⟨H, [], #[], 0, I, fk, ok, .nil, by simp [Rs], Same.refl H⟩ (fun j u s' hj hI => ?_) fun s' hI => ?_)
  · simp only [Nat.zero_add] at hI ⊢
    obtain ⟨H1, kvs, kA, n, I1, fk1, ok1, rk1, rs1, sm1⟩ := hI
    have hjl : j < its.length := (List.getElem?_eq_some_iff.mp hj).1
    have hdj : ds[j]? = some (ds[j]'(by omega)) := List.getElem?_eq_getElem (by omega)
    obtain ⟨v, hv, rd⟩ := (Rs.same sm1 r).get hdj
    obtain ⟨key, hk1, hk2⟩ := kget j _ hdj
    obtain ⟨u', hu', rvu⟩ := rv.get hv
    rw [hj] at hu'
    cases hu'
    have W1 : ∀ c, W c → H1 c ≠ none := fun c hc => by
      cases e : H c with
      | none => exact absurd e (hW c hc)
      | some o => rw [sm1 c o e]; simp
    have Ip := inv_pin I1 fk1 ok1 (fun v z => by cases z)
    refine wpAny_bind (wpAny_attempt (wpAny_mono (key_turn hr F hfa Ip W1 rd rvu hk2) (fun w s2 hq => ?_) fun _ _ z => z.elim))
    obtain ⟨kv, H2, I2, rkv, sm2, Rk⟩ := hq
    have pk := I2.pin (kS, seqObj "list" kA n) (List.mem_append_right _ (List.mem_append_right _ (List.mem_singleton.mpr rfl)))
    have I3 := inv_unpin I2
    have fk3 : FpOk X (pins ++ [(a, seqObj "list" #[] e1)]) H2 kS := ⟨pk.2.1, fk1.2⟩
    have ksz : kA.size = j := by
      have h1 := rk1.length
      have h2 := rs1.length
      rw [List.length_take] at h2
      rw [← Array.length_toList, ← h1, h2]
      omega
    dsimp only
    obtain ⟨c2, hc2⟩ : ∃ c2, (s2.heap.update kS (Obj.mapSeq (·.push w))).get? kS = some (seqObj "list" (kA.push w) c2) := ⟨_, get?_update_seq pk.1 (·.push w)⟩
    have sb := Heap.SameBut.update s2.heap kS (Obj.mapSeq (·.push w))
    refine wpAny_bind (listUpdate_at pk.1 rfl ?_ (by rw [ksz]; omega) (by rw [Array.size_push, ksz]; omega))
    refine wpAny_pure ⟨rfl, H2, kvs ++ [kv], kA.push w, c2, inv_turned (t' := s2.toks) I3 (fun c o hc e => (sb.2 c hc).trans e) fk3, fk3, hc2, ?_, ?_, sm1.trans sm2⟩
    · rw [Array.toList_push]
      exact rk1.append (.cons rkv .nil)
    · rw [List.take_add_one, hk1]
      exact (Rs.same sm2 rs1).append (Rs.one Rk)
  · simp only [Nat.zero_add] at hI
    obtain ⟨H1, kvs, kA, n, I1, fk1, ok1, rk1, rs1, sm1⟩ := hI
    rw [List.take_of_length_le (by omega)] at rs1
    have pa := I1.pin (a, seqObj "list" #[] e1) (List.mem_append_right _ (List.mem_append_right _ (List.mem_singleton.mpr rfl)))
    obtain ⟨as, hr2⟩ := Rs.reads I1 ks kvs kA.toList (plain_all ks sh) rs1 rk1
    have ke : PySem.W.EachIs (fun v d => ∃ as, Reads s'.heap v d as) kA.toList ks := PySem.W.readsAll_each (fun d => d) (by rw [List.map_id']; exact hr2)
    have ksz : kA.size = its.length := by
      have h1 := rk1.length
      have h2 := rs1.length
      rw [← Array.length_toList, ← h1, h2]
      omega
    obtain ⟨G, g1, g2⟩ := restrict s'.heap fun c => decide (c ≠ kS)
    refine wpAny_bind (listItems_at ok1 rfl ?_)
    refine PySem.W.keyH_end (κ := PySem.W.dataKind s'.heap ks) (h₁ := G) (fun c o hc e => ?_) (g2 kS (by simp)) ok1 pa.1 hka (PySem.W.SortsAt.data ke al so fun d hd => ?_) ksz hz fun h3 tk3 c k3 n3 => ?_
    · by_cases hck : c = kS
      · subst hck
        rw [g2 c (by simp)] at e
        cases e
      · rw [g1 c (by simpa using hck)] at e
        exact e
    · have := shp_depth (sh d hd)
      have := hr.un
      show X.A.units + 1 + 1 + _ < _
      omega
    · refine fin H1 h3 s' tk3 c _ I1 sm1 (fun c' o h1 h2 e => k3 c' o h1 ?_) fk1.1 (by rw [ok1]; simp) n3 ⟨s'.heap, kA.toList, al, rfl, ke⟩
      rw [g1 c' (by simpa using h2)]
      exact e
/-- two records of ours are other ones; the one is tracked from now on -/
theorem inv_two {h' : Heap} {t' : Nat} {a kS : Addr} {xs : List V} (I : Inv X pins σ H s) (kp : ∀ b o, b ≠ a → b ≠ kS → s.heap.get? b = some o → h'.get? b = some o) (fa : FpOk X pins H a) (fk : FpOk X pins H kS) (new : ObjOk X.prog X.w (upd H a (.lst xs)) h' a (.lst xs)) :
    Inv X pins σ (upd H a (.lst xs)) { s with heap := h', toks := t' } := by
  obtain ⟨G, g1, g2⟩ := restrict s.heap fun c => decide (c ≠ a) && decide (c ≠ kS)
  have gk : ∀ c o, G.get? c = some o → h'.get? c = some o := fun c o e => by
    by_cases h1 : c = a
    · subst h1
      rw [g2 c (by simp)] at e
      cases e
    · by_cases h2 : c = kS
      · subst h2
        rw [g2 c (by simp)] at e
        cases e
      · rw [g1 c (by simp [h1, h2])] at e
        exact kp c o h1 h2 e
  have hokG : HOk X.prog X.w H G := fun c o e => by
    refine (I.hok c o e).stay (fun c' u hc q => ?_) (fun _ q => q) fun _ _ q => q
    have n1 : c' ≠ a := fun z => by
      rcases hc with hc | hc
      · rw [← hc, z, fa.1] at e; cases e
      · rw [z, fa.1] at hc; cases hc
    have n2 : c' ≠ kS := fun z => by
      rcases hc with hc | hc
      · rw [← hc, z, fk.1] at e; cases e
      · rw [z, fk.1] at hc; cases hc
    rw [g1 c' (by simp [n1, n2])]
    exact q
  have hokN : HOk X.prog X.w (upd H a (.lst xs)) h' := fun c o e => by
    by_cases hc : c = a
    · subst hc
      rw [upd_same] at e
      cases e
      exact new
    · rw [upd_ne hc] at e
      exact (hokG c o e).stay (fun c' u _ q => gk c' u q) (fun c' q => by rw [upd_ne (fun z => by rw [z, fa.1] at q; cases q)]; exact q) fun c' ys q => by rw [upd_ne (fun z => by rw [z, fa.1] at q; cases q)]; exact q
  have nin : ∀ c, c ∉ [a, kS] → c ≠ a ∧ c ≠ kS := fun c hc => by simpa using hc
  refine I.step (g' := s.gens) (d' := s.drawn) (ch := [a, kS]) (fun c hc => ?_) (fun c o _ _ hc e _ => kp c o (nin c hc).1 (nin c hc).2 e) (fun c o _ _ hc e _ => ⟨o.slots, kp c o (nin c hc).1 (nin c hc).2 e⟩) (fun c o hc e n => by rw [upd_ne (nin c hc).1]; exact n)
    (fun c o hc e => ⟨o, kp c o (nin c hc).1 (nin c hc).2 e⟩) (fun c xs e => ?_) (fun c o u e => ?_) (fun c ps e => ⟨#[], ?_⟩) (fun m hm => ?_) hokN I.bare
  · have hc' : c = a ∨ c = kS := by simpa using hc
    rcases hc' with hc' | hc' <;> subst hc'
    · exact ⟨fa.2.2.2.1, fa.2.1, fa.2.2.2.2.1, fa.2.2.2.2.2⟩
    · exact ⟨fk.2.2.2.1, fk.2.1, fk.2.2.2.2.1, fk.2.2.2.2.2⟩
  · rw [upd_ne (fun z => by rw [z, fa.1] at e; cases e)]; exact e
  · rw [upd_ne (fun z => by rw [z, fa.1] at e; cases e)]; exact e
  · rw [upd_ne (fun z => by rw [z, fa.1] at e; cases e), e]; simp
  · obtain ⟨o, es, ep, hl, r⟩ := hm
    exact ⟨o, es, ep, kp _ o (Ne.symm fa.2.1) (Ne.symm fk.2.1) hl, r⟩
theorem srt_run {x : Str} {fr : Bool} (hr : Room (k + 1) X.A) (F : FnGood X k cf x fr 1) {fa l : Addr} (hfa : X.mg x = some (.ref fa)) {ds ks : List D} {vs : List V} (hm : mapD (cf x) ds = .ok ks) (hg : srtOk ks = true)
    (I : Inv X pins σ H s) (hs : SqL X.K H l vs) (hW : ∀ a, W a → H a ≠ none) (r : Rs (X.K, X.w) H W ds vs) {Q : VK} (q : ∀ v H', Same H H' → RN (X.K, X.w) H H' W (.list (srtK ds ks)) v → Q v H') :
    wpAny (model X.prog X.w) X.A (call (.builtin "sorted") [.ref l] [(Str.ofString "key", .ref fa)]) (EP X pins σ Q) X.xe s := by
  obtain ⟨its, rv, hL, hz⟩ := I.list hs
  obtain ⟨kl, kget⟩ := mapD_get hm
  obtain ⟨al, so, sh, hkl⟩ := srtOk_all hg
  have hlen := r.length
  have hil : its.length = ds.length := by rw [← rv.length, hlen]
  have hz' : its.length ≤ sizeLine := by rw [← rv.length]; exact hz
  refine PySem.W.sorted_of_sort hL.isList hz' (PyProof.Rows.ksk_s1 _ _) (fun _ => PyProof.Rows.ksk_l1 _ _) fun E' => ?_
  rw [PyProof.Rows.ksk_t1]
  have hO : (PySem.W.copyHeap s.heap its).get? (s.heap.objs.size + 1) = some (seqObj "list" its.toArray 0) := PySem.W.copyHeap_at s.heap its
  have hsz := Heap.lt_size hO
  generalize ha : s.heap.objs.size + 1 = a at hO hsz ⊢
  have aH : H a = none := I.hok.fresh (by omega)
  obtain ⟨e1, hO1⟩ : ∃ e1, ((PySem.W.copyHeap s.heap its).update a (Obj.mapSeq fun _ => (#[] : Array Value))).get? a = some (seqObj "list" #[] e1) := ⟨_, get?_update_seq hO fun _ => #[]⟩
  have hkS : (((PySem.W.copyHeap s.heap its).update a (Obj.mapSeq fun _ => (#[] : Array Value))).push (seqObj "tuple" its.toArray 0)).objs.size = (PySem.W.copyHeap s.heap its).objs.size + 1 := by
    simp [Heap.push, Heap.size_update]
  unfold PyProof.Rows.ksk_tree
  refine wpAny_bind (listItems_at hO rfl ?_)
  refine wpAny_bind (listUpdate_at hO rfl ?_ (by rw [List.size_toArray]; exact hz') (Nat.zero_le _))
  refine wpAny_bind (seqEpoch_at hO1 rfl ?_)
  refine wpAny_bind (wpAny_newTuple ?_ (by show its.length ≤ _; exact hz'))
  refine wpAny_bind (wpAny_newList ?_ (Nat.zero_le _))
  refine wpAny_holding ?_
  have kp0 : ∀ c o, s.heap.get? c = some o → (PySem.W.sortingHeap (PySem.W.copyHeap s.heap its) a its).get? c = some o := fun c o e => PySem.W.sortingHeap_old (Nat.ne_of_lt (Nat.lt_of_lt_of_eq (Nat.lt_succ_of_lt (Heap.lt_size e)) ha)) (PySem.W.copyHeap_old e)
  have I0 : Inv X pins σ H { s with heap := PySem.W.sortingHeap (PySem.W.copyHeap s.heap its) a its } := I.kept (t' := s.toks) kp0
  have fA : FpOk X pins H a := I.fpOk (by omega) aH
  have eA : (PySem.W.sortingHeap (PySem.W.copyHeap s.heap its) a its).get? a = some (seqObj "list" #[] e1) := Heap.get?_push_of_some _ (Heap.get?_push_of_some _ hO1)
  have I1 := inv_pin I0 fA eA (fun v z => by cases z)
  have kz : s.heap.objs.size ≤ (((PySem.W.copyHeap s.heap its).update a (Obj.mapSeq fun _ => (#[] : Array Value))).push (seqObj "tuple" its.toArray 0)).objs.size := by rw [hkS]; exact Nat.le_succ_of_le (Nat.le_trans (Nat.le_of_lt (Nat.lt_of_lt_of_eq (Nat.lt_succ_self _) ha)) (Nat.le_of_lt hsz))
  have kH := I.hok.fresh kz
  have fK0 : FpOk X pins H _ := I.fpOk kz kH
  have fK : FpOk X (pins ++ [(a, seqObj "list" #[] e1)]) H (((PySem.W.copyHeap s.heap its).update a (Obj.mapSeq fun _ => (#[] : Array Value))).push (seqObj "tuple" its.toArray 0)).objs.size := by
    refine ⟨fK0.1, fK0.2.1, fK0.2.2.1, fK0.2.2.2.1, fK0.2.2.2.2.1, fun p hp => ?_⟩
    rcases List.mem_append.mp hp with hp | hp
    · exact fK0.2.2.2.2.2 p (List.mem_append_left _ hp)
    · rcases List.mem_append.mp hp with hp | hp
      · exact fK0.2.2.2.2.2 p (List.mem_append_right _ hp)
      · rw [List.mem_singleton] at hp
        subst hp
        rw [hkS]
        exact Nat.ne_of_lt (Nat.lt_succ_of_lt hsz)
  refine key_loop (s := { s with heap := PySem.W.sortingHeap (PySem.W.copyHeap s.heap its) a its }) hr F hfa hm hg hil hz' I1 fK (Heap.get?_push_size _ rfl) hW r rv fun H' h' s' tk c out I2 sm kp hkn hkk hO2 ko => ⟨rfl, ?_⟩
  -- what is told
  have hzl : ((ds.zip ks).zip vs).length = ds.length := by rw [List.length_zip, List.length_zip, hlen, kl]; omega
  have em : ((ds.zip ks).zip vs).map (fun b : (D × D) × V => b.1.2) = ks := by
    rw [show (fun b : (D × D) × V => b.1.2) = Prod.snd ∘ Prod.fst from rfl, ← List.map_map, List.map_fst_zip (by rw [List.length_zip, hlen, kl]; omega), List.map_snd_zip (by omega)]
  have em1 : ((ds.zip ks).zip vs).map (fun b : (D × D) × V => b.1.1) = ds := by
    rw [show (fun b : (D × D) × V => b.1.1) = Prod.fst ∘ Prod.fst from rfl, ← List.map_map, List.map_fst_zip (by rw [List.length_zip, hlen, kl]; omega), List.map_fst_zip (by omega)]
  have em2 : ((ds.zip ks).zip vs).map (fun b : (D × D) × V => b.2) = vs := by
    rw [show (fun b : (D × D) × V => b.2) = Prod.snd from rfl, List.map_snd_zip (by rw [List.length_zip, hlen, kl]; omega)]
  have ev : PySem.W.EachIs (fun (u : Value) (b : (D × D) × V) => RelV b.2 u) its ((ds.zip ks).zip vs) := each_vals (fun b : (D × D) × V => b.2) (by rw [em2]; exact rv)
  have hE := PySem.W.keyedOut_each (fun b : (D × D) × V => b.1.2) (by rw [em]; exact ko) (PySem.W.each_mem ev)
  have hv := vals_each (P := fun b : (D × D) × V => b ∈ (ds.zip ks).zip vs) (fun b : (D × D) × V => b.2) hE
  have rs' := Rs.same sm r
  have hW' : ∀ c, W c → H' c ≠ none := fun c hc => by
    cases e : H c with
    | none => exact absurd e (hW c hc)
    | some o => rw [sm c o e]; simp
  have aH' : H' a = none := (I2.pin (a, seqObj "list" #[] e1) (List.mem_append_right _ (List.mem_append_right _ (List.mem_singleton.mpr rfl)))).2.1
  have hR : Rs (X.K, X.w) H' W (srtK ds ks) ((((ds.zip ks).zip vs).mergeSort (PySem.W.dataLe false fun b : (D × D) × V => b.1.2)).map fun b : (D × D) × V => b.2) := by
    rw [← srt_back hlen.symm kl]
    refine rs_pairs _ _ _ fun p hp => ?_
    have hp := List.mem_mergeSort.mp hp
    have h3 : (p.1.1, p.2) ∈ ds.zip vs := by
      have z := List.zip_map' (f := fun b : (D × D) × V => b.1.1) (g := fun b : (D × D) × V => b.2) (l := (ds.zip ks).zip vs)
      rw [em1, em2] at z
      rw [z]
      exact List.mem_map_of_mem hp
    exact rs_zip rs' _ h3
  have fA' : FpOk X pins H' a := ⟨aH', fA.2⟩
  have fK' : FpOk X pins H' (((PySem.W.copyHeap s.heap its).update a (Obj.mapSeq fun _ => (#[] : Array Value))).push (seqObj "tuple" its.toArray 0)).objs.size := ⟨hkn, fK0.2⟩
  refine ⟨.ref a, upd H' a (.lst _), inv_two (inv_unpin I2) kp fA' fK' ⟨?_, out, c, hv, hO2⟩, rfl, q _ _ (sm.trans (same_new aH')) ((RN.newLst hW' aH' hR).start fun b e => sm.free e)⟩
  rw [List.length_map, List.length_mergeSort, hzl, ← hil]
  exact hz'
def rSrt (X : Cx) (cf : Str → List D → Out D) (x : Str) : List V → List V → Hp → VK → Prop := fun vs zs H Q => ∃ W ds ks v fa, (∀ a, W a → H a ≠ none) ∧ vs = [v] ∧ RP (X.K, X.w) H W (.list ds) v ∧ zs = [V.ref fa] ∧ X.mg x = some (.ref fa) ∧ mapD (cf x) ds = .ok ks ∧ srtOk ks = true ∧
  ∀ v H', Same H H' → RN (X.K, X.w) H H' W (.list (srtK ds ks)) v → Q v H'
theorem cr_srt {x : Str} {fr : Bool} (hr : Room (k + 1) X.A) (F : FnGood X k cf x fr 1) : CallRK X (.builtin "sorted") [Str.ofString "key"] (rSrt X cf x) := by
  intro pins s σ H vs zs us ws Q I r rz ⟨W, ds, ks, v, fa, hW, e1, r1, e2, hfa, hm, hg, q⟩
  subst e1 e2
  obtain ⟨a, xs, rfl, s1, r1⟩ := r1.list
  rw [Vals.ref1 r, Vals.ref1 rz]
  exact srt_run hr F hfa hm hg I s1 hW r1 q
theorem e_srt {x : Str} {fr : Bool} {e : Expr} {c : CE} {p px kp pos : Pos} (hr : Room (k + 1) X.A) (F : FnGood X k cf x fr 1) (hg : Gl X "sorted") (hm : X.mg "sorted" = none) (hgx : Gl X x) (h : E3 cf X Wx e c) (he : starEach [e] X.env = [(false, eval e X.env)]) :
    E3 cf X Wx (.Call (.Name "sorted" p) [e] [⟨some (Str.ofString "key"), .Name x px, kp⟩] pos) (.srt x c) := by
  refine .ofFr (fun ρ => ?_) (fun ρ => rfl)
  obtain ⟨f, fd, ps, gm, gk, gb, G⟩ := F.ex
  refine PE.imp (pe_callBK (cr_srt hr F) hg hm (by decide +kernel) (pa_cons (h.p ρ) pa_nil he) (pk_cons (pe_glob hgx gm (show RelV (V.ref f) (.ref f) from rfl) F.db) pk_nil) (by decide) (by decide) (by rw [he]; rfl) (by rw [he]; rfl)) fun σ H Q ⟨W0, a⟩ => ?_
  simp only [evalE] at a
  refine ⟨W0, a.bind (RM.mono _) fun x' v H1 s1 r1 h1 => ?_⟩
  obtain ⟨ds, e1, h1⟩ := h1.obb
  cases x' <;> simp [asSq] at e1
  subst e1
  rename_i dds _
  cases hq : mapD (cf x) dds with
  | exc c p => 
    exact absurd hq (mapD_exc _ _ _)
  | bad => rw [hq] at h1; exact h1.bad.elim
  | ok ks =>
    rw [hq] at h1
    obtain ⟨d, e2, h1⟩ := AnW.ob h1
    obtain ⟨g, e2⟩ := guardP_some e2
    cases e2
    exact ⟨_, _, ks, v, f, h1.trk, rfl, r1, rfl, gm, hq, g, fun v' H' s r => h1.ok s r⟩
end
end DI
set_option Elab.async false
set_option linter.all false
set_option maxRecDepth 100000
set_option maxHeartbeats 4000000
/-! ranges, zip; targets; comprehensions -/
namespace DI
open PySem PySem.Spec PyProof.Rows L2
section
variable {X : Cx} {Wx : WX} {pins : List (Addr × Obj)} {σ σ' : L2.St} {H H' : Hp} {W W' : WS} {s : Shared} {k : Nat} {W0 : WS} {ρ ρ' : Rho} {cf : Str → List D → Out D} {m : Md} {K : PySem.W.Frag × World}
def I3 (cf : Str → List D → Out D) (X : Cx) (Wx : WX) (tg e : Expr) (c : CI) : Prop := ∀ ρ, PI X tg e (tI X Wx ρ (evalI cf c ρ))
theorem i_val {tg e : Expr} {c : CE} (h : E3 cf X Wx e c) : I3 cf X Wx tg e (.val c) := fun ρ => by
  have := pi_val (tg := tg) (h.v ρ)
  simpa only [evalI] using this
theorem rng_ok {i j : Int} {ds : List D} (h : rngD i j = some ds) : (-(2 ^ 62) ≤ i ∧ i < 2 ^ 62 ∧ -(2 ^ 62) ≤ j ∧ j < 2 ^ 62) ∧ ds = (List.range (j - i).toNat).map fun (k : Nat) => .int (i + k) := by
  unfold rngD at h
  obtain ⟨g, e⟩ := guardP_some h
  simp only [Bool.and_eq_true, decide_eq_true_eq] at g
  cases e
  exact ⟨⟨g.1.1.1, g.1.1.2, g.1.2, g.2⟩, rfl⟩
theorem feeds_rng0 {i : Int} : Feeds K H W ((List.range (i - 0).toNat).map fun (k : Nat) => .int (0 + k)) (Itr 0 i.toNat) := by
  rw [Int.sub_zero]
  exact feeds_rng
theorem i_rng1 {tg a : Expr} {c : CE} {p pos : Pos} (hg : Gl X "range") (hm : X.mg "range" = none) (h : E3 cf X Wx a c) (hs : starEach [a] X.env = [(false, eval a X.env)]) : I3 cf X Wx tg (.Call (.Name "range" p) [a] [] pos) (.rng1 c) := fun ρ => by
  refine PI.imp (pi_range1 hg hm (pa_cons (h.v ρ) pa_nil hs) hs) fun σ H Q ⟨W0, q⟩ => ?_
  simp only [evalI] at q
  refine ⟨W0, q.bind monoC fun x v H1 s1 r1 h1 => ?_⟩
  obtain ⟨i, e, h1⟩ := h1.obb
  cases x <;> simp [asI] at e
  subst e
  simp only [RM, R] at r1
  obtain ⟨ds, e, h1⟩ := h1.ob
  obtain ⟨⟨g1, g2, g3, g4⟩, rfl⟩ := rng_ok e
  exact ⟨_, by rw [r1], g3, g4, h1.ok (Same.refl _) feeds_rng0⟩
theorem i_rng2 {tg a b : Expr} {c c2 : CE} {p pos : Pos} (hg : Gl X "range") (hm : X.mg "range" = none) (h : E3 cf X Wx a c) (h2 : E3 cf X Wx b c2) (hs : starEach [a, b] X.env = [(false, eval a X.env), (false, eval b X.env)]) (hs2 : starEach [b] X.env = [(false, eval b X.env)]) :
    I3 cf X Wx tg (.Call (.Name "range" p) [a, b] [] pos) (.rng2 c c2) := fun ρ => by
  refine PI.imp (pi_range2 hg hm (pa_cons (h.v ρ) (pa_cons (h2.v ρ) pa_nil hs2) (by rw [hs, hs2])) hs hs2) fun σ H Q ⟨W0, q⟩ => ?_
  simp only [evalI] at q
  refine ⟨W0, q.bind monoC fun x v H1 s1 r1 h1 => ⟨W0, h1.bind monoC fun y u H2 s2 r2 h2 => ?_⟩⟩
  obtain ⟨i, e, h2⟩ := h2.obb
  cases x <;> simp [asI] at e
  subst e
  obtain ⟨j, e, h2⟩ := h2.obb
  cases y <;> simp [asI] at e
  subst e
  simp only [RM, R] at r1 r2
  obtain ⟨ds, e, h2⟩ := h2.ob
  obtain ⟨g, rfl⟩ := rng_ok e
  exact ⟨_, _, by rw [r1, r2], g, h2.ok (Same.refl _) feeds_rng⟩
theorem R.pair {p : Addr} {x y : V} {d e : D} (hW : ∀ a, W a → H a ≠ none) (hp : H p = none) (h1 : R K H W d x) (h2 : R K H W e y) : R K (upd H p (.tup [x, y])) W (.tuple [d, e]) (.ref p) :=
  R.newTup hW hp (by simp only [Rs]; exact ⟨x, [y], rfl, h1, y, [], rfl, h2, rfl⟩)
theorem zip_get {ds es : List D} {i : Nat} {d : D} (h : (List.zipWith (fun x y => PyData.tuple [x, y]) ds es)[i]? = some d) : ∃ a b, ds[i]? = some a ∧ es[i]? = some b ∧ d = .tuple [a, b] := by
  rw [List.getElem?_zipWith] at h
  cases e1 : ds[i]? with
  | none => rw [e1] at h; cases h
  | some a =>
    cases e2 : es[i]? with
    | none => rw [e1, e2] at h; cases h
    | some b =>
      rw [e1, e2] at h
      cases h
      exact ⟨a, b, rfl, rfl, rfl⟩
theorem feeds_zipL {a b : Addr} {xs ys : List V} {ds es : List D} (s1 : LstAt K.1 H W a xs) (r1 : Rs K H W ds xs) (s2 : LstAt K.1 H W b ys) (r2 : Rs K H W es ys) : Feeds K H W (List.zipWith (fun x y => PyData.tuple [x, y]) ds es) (Itz K.1 a b) := by
  intro H' W' st tr
  have q1 := s1.stp st
  have q2 := s2.stp st
  have t1 := Rs.stp st _ _ r1
  have t2 := Rs.stp st _ _ r2
  refine ⟨fun i d e => ?_, xs, ys, q1.sq, q2.sq, ?_⟩
  · obtain ⟨c1, c2, e1, e2, rfl⟩ := zip_get e
    obtain ⟨x, f1, g1⟩ := t1.get e1
    obtain ⟨y, f2, g2⟩ := t2.get e2
    refine ⟨⟨xs, ys, x, y, q1.sq, q2.sq, f1, f2⟩, fun v H'' ⟨T, x', y', ev, hT, eH, k1, k2⟩ => ?_⟩
    have z1 := k1 xs q1.sq
    have z2 := k2 ys q2.sq
    rw [f1] at z1
    rw [f2] at z2
    cases z1
    cases z2
    subst ev eH
    exact ⟨same_new hT, R.pair tr hT g1 g2⟩
  · rw [List.length_zipWith, r1.length, r2.length]
    rcases Nat.le_total ds.length es.length with h | h
    · exact .inl (by rw [Nat.min_eq_left h]; exact Nat.le_refl _)
    · exact .inr (by rw [Nat.min_eq_right h]; exact Nat.le_refl _)
theorem feeds_zipT {a b : Addr} {xs ys : List V} {ds es : List D} (s1 : TupAt K.1 H W a xs) (r1 : Rs K H W ds xs) (s2 : TupAt K.1 H W b ys) (r2 : Rs K H W es ys) : Feeds K H W (List.zipWith (fun x y => PyData.tuple [x, y]) ds es) (RZ.ItzT K.1 a b) := by
  intro H' W' st tr
  have q1 := s1.stp st
  have q2 := s2.stp st
  have t1 := Rs.stp st _ _ r1
  have t2 := Rs.stp st _ _ r2
  refine ⟨fun i d e => ?_, xs, ys, q1.sq, q2.sq, ?_⟩
  · obtain ⟨c1, c2, e1, e2, rfl⟩ := zip_get e
    obtain ⟨x, f1, g1⟩ := t1.get e1
    obtain ⟨y, f2, g2⟩ := t2.get e2
    refine ⟨⟨xs, ys, x, y, q1.sq, q2.sq, f1, f2⟩, fun v H'' ⟨T, x', y', ev, hT, eH, k1, k2⟩ => ?_⟩
    have z1 := k1 xs q1.sq
    have z2 := k2 ys q2.sq
    rw [f1] at z1
    rw [f2] at z2
    cases z1
    cases z2
    subst ev eH
    exact ⟨same_new hT, R.pair tr hT g1 g2⟩
  · rw [List.length_zipWith, r1.length, r2.length]
    rcases Nat.le_total ds.length es.length with h | h
    · exact .inl (by rw [Nat.min_eq_left h]; exact Nat.le_refl _)
    · exact .inr (by rw [Nat.min_eq_right h]; exact Nat.le_refl _)
theorem i_zip {elts : List Expr} {kk : Nat} {tpos : Pos} {a b : Expr} {c c2 : CE} {p pos : Pos} (hg : Gl X "zip") (hm : X.mg "zip" = none) (h : E3 cf X Wx a c) (h2 : E3 cf X Wx b c2)
    (hs : starEach [a, b] X.env = (false, eval a X.env) :: starEach [b] X.env) (hs2 : starEach [b] X.env = [(false, eval b X.env)]) (hpl : (backTo pos (starEach [b] X.env)).any (·.1) = false) :
    I3 cf X Wx (.Tuple elts kk tpos) (.Call (.Name "zip" p) [a, b] [] pos) (.zip c c2) := fun ρ => by
  refine PI.imp (RZ.pi_zipA hg hm (pa_cons (h.v ρ) (pa_cons (h2.v ρ) pa_nil hs2) hs) hs hpl) fun σ H Q ⟨W0, q⟩ => ?_
  simp only [evalI] at q
  refine ⟨W0, q.bind monoC fun x v H1 s1 r1 h1 => ⟨W0, h1.bind monoC fun y u H2 s2 r2 h2 => ?_⟩⟩
  obtain ⟨ds, e, h2⟩ := h2.ob
  have r1' := R.same s2 (show R (X.K, X.w) H1 (Wn W0 σ ρ) x v from r1)
  simp only [RM] at r2
  cases x <;> cases y <;> simp only [zipD] at e <;> first | cases e | skip
  · simp only [R] at r1' r2
    obtain ⟨a, xs, rfl, t1, g1⟩ := r1'
    obtain ⟨b, ys, rfl, t2, g2⟩ := r2
    exact ⟨a, b, xs, ys, rfl, .inl ⟨t1.sq, t2.sq, h2.ok (Same.refl _) (feeds_zipL t1 g1 t2 g2)⟩⟩
  · simp only [R] at r1' r2
    obtain ⟨a, xs, rfl, t1, g1⟩ := r1'
    obtain ⟨b, ys, rfl, t2, g2⟩ := r2
    exact ⟨a, b, xs, ys, rfl, .inr ⟨t1.sq, t2.sq, h2.ok (Same.refl _) (feeds_zipT t1 g1 t2 g2)⟩⟩
/-! targets -/
/-- the target takes d -/
def gD (X : Cx) (tg : List Nat) (isT : Bool) : TG := fun v σ H Q => ∃ W0 ρ d ρ', Rep (X.K, X.w) W0 σ H ρ ∧ R (X.K, X.w) H (Wn W0 σ ρ) d v ∧ setTg tg isT d ρ = .ok ρ' ∧
  ∀ σ', Rep (X.K, X.w) W0 σ' H ρ' → (∀ a, Wn W0 σ' ρ' a → Wn W0 σ ρ a) → ((tg.all (notOw ρ)) = true → ∀ a, Wn W0 σ ρ a → Wn W0 σ' ρ' a) → σ'.length = σ.length → (∀ i, i ∉ tg → σ'[i]? = σ[i]?) → Q σ' H
theorem PG.imp {e : Expr} {t t' : TG} (h : PG X e t) (i : ∀ v σ H Q, t' v σ H Q → t v σ H Q) : PG X e t' := ⟨fun pins s σ H v u Q I r q => h.run pins s σ H v u Q I r (i v σ H Q q)⟩
theorem g_name {i : Nat} {x : Str} {pos : Pos} (hN : X.N.Nodup) (hi : X.N[i]? = some x) (hx : Loc X.env.scope x) (hf : X.fn x = true ∨ X.env.scope.names.lookup x = some .local) : PG X (.Name x pos) (gD X [i] false) := by
  refine PG.imp (pg_name hN hi hx hf) fun v σ H Q ⟨W0, ρ, d, ρ', rep, r, e, q⟩ => ?_
  simp only [setTg, Bool.false_eq_true, if_false] at e
  cases e
  obtain ⟨h1, h2, h3⟩ := rep.setSh (j := i) r
  refine q _ h1 h2 (fun z => h3 (notOw_of (by simpa using z))) (by simp) fun j hj => ?_
  exact List.getElem?_set_ne (fun z => hj (by simp [z]))
/-- the targets, one after another -/
def gDs (X : Cx) (tg : List Nat) : TGs := fun vs σ H Q => ∃ W0 ρ ds, Rep (X.K, X.w) W0 σ H ρ ∧ Rs (X.K, X.w) H (Wn W0 σ ρ) ds vs ∧ ds.length = tg.length ∧
  ∀ σ', Rep (X.K, X.w) W0 σ' H (setAll tg ds ρ) → (∀ a, Wn W0 σ' (setAll tg ds ρ) a → Wn W0 σ ρ a) → ((tg.all (notOw ρ)) = true → ∀ a, Wn W0 σ ρ a → Wn W0 σ' (setAll tg ds ρ) a) → σ'.length = σ.length → (∀ i, i ∉ tg → σ'[i]? = σ[i]?) → Q σ' H
theorem PGs.imp {e : List Expr} {t t' : TGs} (h : PGs X e t) (i : ∀ v σ H Q, t' v σ H Q → t v σ H Q) : PGs X e t' := ⟨fun pins s σ H v u Q I r q => h.run pins s σ H v u Q I r (i v σ H Q q)⟩
theorem notOw_set {j i : Nat} {d : D} (h : notOw ρ i = true) : notOw (ρ.set j (.sh d)) i = true := by
  unfold notOw at h ⊢
  by_cases hij : j = i
  · subst hij
    by_cases hl : j < ρ.length
    · rw [List.getElem?_set_self hl]
    · rw [List.getElem?_eq_none (by simpa using hl)]
  · rw [List.getElem?_set_ne hij]
    exact h
/-- all are names of their own -/
structure TgOk (X : Cx) (e : Expr) (i : Nat) : Prop where
  ex : ∃ x pos, e = .Name x pos ∧ X.N[i]? = some x ∧ Loc X.env.scope x ∧ (X.fn x = true ∨ X.env.scope.names.lookup x = some .local)
theorem gs_names (hN : X.N.Nodup) : ∀ {es : List Expr} {tg : List Nat}, Paired (TgOk X) es tg → PGs X es (gDs X tg)
  | [], [], .nil => by
    refine PGs.imp pgs_nil fun vs σ H Q ⟨W0, ρ, ds, rep, r, hl, q⟩ => ?_
    have : ds = [] := List.length_eq_zero_iff.mp hl
    subst this
    simp only [Rs] at r
    refine ⟨r, q σ rep (fun a h => h) (fun _ a h => h) rfl (fun i _ => rfl)⟩
  | e :: es, i :: tg, .cons h1 h2 => by
    obtain ⟨x, pos, rfl, hi, hx, hf⟩ := h1.ex
    refine PGs.imp (pgs_cons (pg_name hN hi hx hf) (gs_names hN h2) rfl) fun vs σ H Q ⟨W0, ρ, ds, rep, r, hl, q⟩ => ?_
    match ds, hl with
    | d :: ds, hl =>
      simp only [Rs] at r
      obtain ⟨v, vr, rfl, r1, r2⟩ := r
      obtain ⟨k1, k2, k3⟩ := rep.setSh (j := i) r1
      refine ⟨v, vr, rfl, W0, ρ.set i (.sh d), ds, k1, Rs.stp (Stp.less k2) _ _ r2, by simpa using hl, fun σ' p1 p2 p3 p4 p5 => ?_⟩
      refine q σ' p1 (fun a z => k2 a (p2 a z)) (fun z a w => ?_) (by rw [p4]; simp) fun j hj => ?_
      · simp only [List.all_cons, Bool.and_eq_true] at z
        refine p3 ?_ a (k3 (notOw_of z.1) a w)
        rw [List.all_eq_true] at z ⊢
        exact fun j hj => notOw_set (z.2 j hj)
      · simp only [List.mem_cons, not_or] at hj
        rw [p5 j hj.2]
        exact List.getElem?_set_ne (fun z => hj.1 z.symm)
theorem assignEach_names : ∀ {es : List Expr} {tg : List Nat}, Paired (TgOk X) es tg → (assignEach es X.env).length = tg.length ∧ (assignEach es X.env).findIdx? (·.1) = none
  | [], [], .nil => ⟨rfl, rfl⟩
  | e :: es, i :: tg, .cons h1 h2 => by
    obtain ⟨x, pos, rfl, hi, hx, hf⟩ := h1.ex
    obtain ⟨a, b⟩ := assignEach_names h2
    have e1 : assignEach (.Name x pos :: es) X.env = (false, assign (.Name x pos) X.env) :: assignEach es X.env := rfl
    rw [e1]
    refine ⟨by simp [a], ?_⟩
    rw [List.findIdx?_cons, b]
    rfl
theorem g_tup {es : List Expr} {tg : List Nat} {kk : Nat} {pos : Pos} (hc : X.calm = true) (hN : X.N.Nodup) (h : Paired (TgOk X) es tg) : PG X (.Tuple es kk pos) (gD X tg true) := by
  obtain ⟨e1, e2⟩ := assignEach_names h
  refine PG.imp (pg_tup hc (gs_names hN h) e1 e2) fun v σ H Q ⟨W0, ρ, d, ρ', rep, r, e, q⟩ => ?_
  simp only [setTg, if_true] at e
  cases d <;> simp only at e <;> first | cases e | skip
  rename_i ds
  split at e
  · rename_i hl
    cases e
    simp only [R] at r
    obtain ⟨a, xs, rfl, t, r⟩ := r
    exact ⟨a, xs, rfl, t.sq, by rw [r.length, hl], W0, ρ, ds, rep, r, hl, q⟩
  · cases e
end
end DI
set_option Elab.async false
set_option linter.all false
set_option maxRecDepth 100000
set_option maxHeartbeats 4000000
/-! comprehensions -/
namespace DI
open PySem PySem.Spec PyProof.Rows L2
theorem wipe_get (σ : L2.St) : ∀ (vs : List Nat) (i : Nat), (L2.wipe σ vs)[i]? = if i ∈ vs then (σ[i]?).map (fun _ => none) else σ[i]?
  | [], i => by simp [L2.wipe]
  | v :: vs, i => by
    unfold L2.wipe
    have ih := wipe_get σ vs
    by_cases hv : v = i
    · subst hv
      rw [if_pos (by simp)]
      by_cases hl : v < σ.length
      · rw [List.getElem?_set_self (by rw [wipe_length]; exact hl), List.getElem?_eq_getElem hl]
        rfl
      · rw [List.getElem?_eq_none (by simp [wipe_length]; omega), List.getElem?_eq_none (by omega)]
        rfl
    · rw [List.getElem?_set_ne hv, ih i]
      have : (i ∈ v :: vs) = (i ∈ vs) := by simp [Ne.symm hv]
      simp only [this]
theorem wipe_agree {σ σ2 : L2.St} {vs tg : List Nat} (hl : σ2.length = (L2.wipe σ vs).length) (hs : ∀ i ∈ tg, i ∈ vs) (h : ∀ i, i ∉ tg → σ2[i]? = (L2.wipe σ vs)[i]?) : L2.wipe σ2 vs = L2.wipe σ vs := by
  rw [wipe_length] at hl
  apply List.ext_getElem?
  intro i
  rw [wipe_get, wipe_get]
  by_cases hi : i ∈ vs
  · rw [if_pos hi, if_pos hi]
    by_cases hb : i < σ.length
    · rw [List.getElem?_eq_getElem hb, List.getElem?_eq_getElem (by omega)]
      rfl
    · rw [List.getElem?_eq_none (by omega), List.getElem?_eq_none (by omega)]
  · rw [if_neg hi, if_neg hi, h i (fun z => hi (hs i z)), wipe_get, if_neg hi]
theorem lcLoop_exc {f : D → Out (Option D)} : ∀ (ds : List D) (c : Str) (p : List D), lcLoop f ds ≠ .exc c p
  | [], c, p, h => by cases h
  | d :: ds, c, p, h => by
    simp only [lcLoop] at h
    split at h
    · have ih := lcLoop_exc (f := f) ds
      cases e : lcLoop f ds with
      | ok r => rw [e] at h; cases h
      | exc c' p' => exact ih c' p' e
      | bad => rw [e] at h; cases h
    · exact lcLoop_exc ds c p h
    · cases h
section
variable {X : Cx} {Wx : WX} {pins : List (Addr × Obj)} {σ σ' : L2.St} {H H' : Hp} {W W' : WS} {s : Shared} {k : Nat} {W0 : WS} {ρ ρ' : Rho} {cf : Str → List D → Out D} {m : Md} {K : PySem.W.Frag × World}
/-- one more address is set apart -/
theorem Rep.apartD (r : Rep K W0 σ H ρ) {D : Addr} {o : HO} (hD : H D = none) : Rep K (fun a => W0 a ∨ a = D) σ (upd H D o) ρ ∧ (∀ a, Wn (fun a => W0 a ∨ a = D) σ ρ a ↔ (Wn W0 σ ρ a ∨ a = D)) := by
  have eqv : ∀ a, Wn (fun a => W0 a ∨ a = D) σ ρ a ↔ (Wn W0 σ ρ a ∨ a = D) := fun a => by
    unfold Wn
    constructor
    · rintro ((h | h) | h)
      · exact .inl (.inl h)
      · exact .inr h
      · exact .inl (.inr h)
    · rintro ((h | h) | h)
      · exact .inl (.inl h)
      · exact .inr h
      · exact .inl (.inr h)
  have st : Stp H (Wn W0 σ ρ) (upd H D o) (Wn (fun a => W0 a ∨ a = D) σ ρ) := ⟨fun a u e n => ⟨by rw [upd_ne (ne_of_none e hD)]; exact e, fun q => ((eqv a).mp q).elim n (ne_of_none e hD)⟩, fun a q => ((eqv a).mp q).elim .inl fun z => .inr (z ▸ hD)⟩
  have tr : ∀ a, Wn W0 σ ρ a → H a ≠ none := r.wtrk
  refine ⟨⟨r.len, fun i d e => let ⟨v, h1, h2⟩ := r.sh i d e; ⟨v, h1, R.stp st d v h2⟩, fun i d e => ?_, r.apart, fun a h => ?_⟩, eqv⟩
  · obtain ⟨a, h1, h2, h3⟩ := r.ow i d e
    have hne : a ≠ D := fun z => h2.trk (z ▸ hD)
    exact ⟨a, h1, h2.stp st (fun u q => by rw [upd_ne hne]; exact q), fun q => q.elim h3 hne⟩
  · rcases h with h | h
    · cases e : H a with
      | none => exact absurd e (r.trk a h)
      | some u => rw [upd_ne (ne_of_none e hD), e]; simp
    · subst h
      rw [upd_same]; simp
theorem e_lc {elt tg iter : Expr} {ifs : List Expr} {scope : Scope} {own : List (Str × Nat)} {tgl : List Nat} {isT : Bool} {ci : CI} {cifs : CO} {celt : CE} {pos : Pos}
    (hc : X.calm = true) (hN : X.N.Nodup) (hi : I3 cf X Wx tg iter ci) (ok : BlkOk X.N X.env.scope scope own) (hsub : ∀ i ∈ tgl, i ∈ own.map (·.2))
    (hg : ∀ (s : Shared) (H : Hp) (C : Addr) (cl : List (Str × Addr)) (fp : List Addr), PG (X.blk s H scope (compEnvC scope cl C X.env) fp) tg (gD X tgl isT))
    (ht : ∀ (s : Shared) (H : Hp) (C : Addr) (cl : List (Str × Addr)) (fp : List Addr) (ρ : Rho), PTs (X.blk s H scope (compEnvC scope cl C X.env) fp) ifs (tB X (fun _ _ _ _ => False) ρ (evalT cf cifs ρ)))
    (he : ∀ (s : Shared) (H : Hp) (C : Addr) (cl : List (Str × Addr)) (fp : List Addr) (ρ : Rho), PE (X.blk s H scope (compEnvC scope cl C X.env) fp) elt (tE X (fun _ _ _ _ => False) .val ρ (evalE cf false celt ρ)))
    (hs : ∀ x, foldedSetIterable iter X.env x = pure x) (ρ : Rho) :
    ∃ wi g tt te, PI X tg iter wi ∧ (∀ (s : Shared) (H : Hp) (C : Addr) (cl : List (Str × Addr)) (fp : List Addr), PG (X.blk s H scope (compEnvC scope cl C X.env) fp) tg g) ∧ (∀ (s : Shared) (H : Hp) (C : Addr) (cl : List (Str × Addr)) (fp : List Addr), PTs (X.blk s H scope (compEnvC scope cl C X.env) fp) ifs tt) ∧
      (∀ (s : Shared) (H : Hp) (C : Addr) (cl : List (Str × Addr)) (fp : List Addr), PE (X.blk s H scope (compEnvC scope cl C X.env) fp) elt te) ∧
      ∀ σ H Q, tE X Wx .fr ρ (evalE cf false (.lc (own.map (·.2)) tgl isT ci cifs celt) ρ) σ H Q → tLc wi g tt te (own.map (·.2)) σ H Q := by
  refine ⟨tI X Wx ρ (evalI cf ci ρ), gD X tgl isT, (fun σ H Q => ∃ ρ, tB X (fun _ _ _ _ => False) ρ (evalT cf cifs ρ) σ H Q), (fun σ H Q => ∃ ρ, tE X (fun _ _ _ _ => False) .val ρ (evalE cf false celt ρ) σ H Q), hi ρ, hg,
    fun s H C cl fp => ⟨fun pins s1 σ H1 Q I ⟨ρ, q⟩ => (ht s H C cl fp ρ).run pins s1 σ H1 Q I q⟩, fun s H C cl fp => ⟨fun pins s1 σ H1 Q I ⟨ρ, q⟩ => (he s H C cl fp ρ).run pins s1 σ H1 Q I q⟩, fun σ H Q ⟨W0, h⟩ => ?_⟩
  simp only [evalE] at h
  generalize hvs : own.map (·.2) = vs at h hsub ⊢
  cases hno : vs.all (notOw ρ) with
  | false =>
    rw [hno, if_neg Bool.false_ne_true] at h
    exact h.bad.elim
  | true =>
  rw [hno, if_pos rfl] at h
  refine ⟨W0, h.bind (RM.mono _) fun ds J H1 s1 feeds h1 => ?_⟩
  generalize hf : (fun d => (setTg tgl isT d (wipeR ρ vs)).bind fun ρ' => (evalT cf cifs ρ').bind fun k => if k = true then (evalE cf false celt ρ').bind fun x => Out.ok (some x) else Out.ok none) = f at h1
  intro D hD
  cases hr : lcLoop f ds with
  | bad => rw [hr] at h1; exact h1.bad.elim
  | exc c p => exact absurd hr (lcLoop_exc ds c p)
  | ok r =>
  rw [hr] at h1
  have h1 : AnW X Wx W0 ρ (ob (guardP (szOk ds.length) (some (PyData.list r)))) (RM (X.K, X.w) .fr) σ H1 Q := h1
  obtain ⟨dl, e1, h1⟩ := h1.ob
  obtain ⟨g1, e1⟩ := guardP_some e1
  cases e1
  have hsz := szOk_le g1
  have rep1 : Rep (X.K, X.w) W0 σ H1 ρ := h1.1
  obtain ⟨repw, eqw⟩ := rep1.wipe vs hno
  obtain ⟨repd, eqd⟩ := repw.apartD (o := .lst []) hD
  -- all that is set apart in the block
  have eqB : ∀ a, Wn (fun a => W0 a ∨ a = D) (L2.wipe σ vs) (wipeR ρ vs) a ↔ (Wn W0 σ ρ a ∨ a = D) := fun a => (eqd a).trans ⟨fun z => z.imp (eqw a).mp id, fun z => z.imp (eqw a).mpr id⟩
  generalize hWB : Wn (fun a => W0 a ∨ a = D) (L2.wipe σ vs) (wipeR ρ vs) = WB at eqB
  -- the block's state at a heap that keeps what stood
  have repAt : ∀ H', (∀ b o, H1 b = some o → H' b = some o) → H' D ≠ none → Rep (X.K, X.w) (fun a => W0 a ∨ a = D) (L2.wipe σ vs) H' (wipeR ρ vs) := fun H' kp hd => by
    have st : Stp (upd H1 D (.lst [])) WB H' WB := ⟨fun a o e n => ⟨by
      have hne : a ≠ D := fun z => n ((eqB a).mpr (.inr z))
      rw [upd_ne hne] at e
      exact kp a o e, n⟩, fun a q => .inl q⟩
    rw [← hWB] at st
    refine ⟨repd.len, fun i d e => let ⟨v, h1, h2⟩ := repd.sh i d e; ⟨v, h1, R.stp st d v h2⟩, fun i d e => ?_, repd.apart, fun a q => ?_⟩
    · obtain ⟨a, h1, h2, h3⟩ := repd.ow i d e
      refine ⟨a, h1, h2.stp st (fun o q => ?_), h3⟩
      have hne : a ≠ D := fun z => h3 (.inr z)
      rw [upd_ne hne] at q
      exact kp a o q
    · rcases q with q | q
      · cases e : H1 a with
        | none => exact absurd e (rep1.trk a q)
        | some o => rw [kp a o e]; simp
      · rw [q]; exact hd
  let PvR := fun (i : Nat) (H' : Hp) => ∃ racc rrest acc, r = racc ++ rrest ∧ lcLoop f (ds.drop i) = .ok rrest ∧ H' D = some (.lst acc) ∧ Rs (X.K, X.w) H' WB racc acc ∧ acc.length ≤ i ∧ ∀ b o, H1 b = some o → H' b = some o
  refine ⟨fun i m H' => m = ds.length - i ∧ i ≤ ds.length ∧ PvR i H', ⟨ds.length, by simp, Nat.zero_le _, [], r, [], rfl, by simpa using hr, upd_same, by simp [Rs], Nat.zero_le _, fun b o e => by rw [upd_ne (ne_of_none e hD)]; exact e⟩, ?_⟩
  rintro i m H' ⟨rfl, hi', racc, rrest, acc, er, el, eD, rs, hl, kp⟩
  have st1 : Stp H1 (Wn W0 σ ρ) H' WB := ⟨fun a o e n => ⟨kp a o e, fun q => ((eqB a).mp q).elim n (fun z => by rw [z, hD] at e; cases e)⟩, fun a q => ((eqB a).mp q).elim .inl fun z => .inr (by rw [z]; exact hD)⟩
  have trB : ∀ a, WB a → H' a ≠ none := fun a q => by
    rcases (eqB a).mp q with q | q
    · cases e : H1 a with
      | none => exact absurd e (rep1.wtrk a q)
      | some o => rw [kp a o e]; simp
    · rw [q, eD]; simp
  obtain ⟨fd1, fd2⟩ := feeds H' WB st1 trB
  by_cases hlt : i < ds.length
  · obtain ⟨d, hd⟩ : ∃ d, ds[i]? = some d := ⟨ds[i], List.getElem?_eq_getElem hlt⟩
    obtain ⟨go, yl⟩ := fd1 i d hd
    refine .inr ⟨go, PvR (i + 1), fun H'' nx => ⟨ds.length - (i + 1), by omega, rfl, hlt, nx⟩, fun x H2 hy => ?_⟩
    obtain ⟨sm2, rx⟩ := yl x H2 hy
    have hdr : ds.drop i = d :: ds.drop (i + 1) := by
      rw [List.drop_eq_getElem_cons hlt]
      have : ds[i] = d := by rw [List.getElem?_eq_getElem hlt] at hd; exact Option.some.inj hd
      rw [this]
    rw [hdr] at el
    simp only [lcLoop] at el
    have rep2 := repAt H2 (fun b o e => sm2 b o (kp b o e)) (by rw [sm2 D _ eD]; simp)
    have hfd : f d = (setTg tgl isT d (wipeR ρ vs)).bind fun ρ' => (evalT cf cifs ρ').bind fun k => if k = true then (evalE cf false celt ρ').bind fun x => Out.ok (some x) else Out.ok none := by rw [← hf]
    cases hst : setTg tgl isT d (wipeR ρ vs) with
    | bad => rw [hst] at hfd; simp only [bind_bad] at hfd; rw [hfd] at el; cases el
    | exc c p => rw [hst] at hfd; simp only [bind_exc] at hfd; rw [hfd] at el; cases el
    | ok ρ' =>
    rw [hst] at hfd
    simp only [bind_ok] at hfd
    refine ⟨_, _, d, ρ', rep2, by rw [hWB]; exact rx, hst, fun σ2 rep3 less3 more3 len3 ag3 => ?_⟩
    refine ⟨wipe_agree len3 hsub ag3, ρ', ?_⟩
    have hnoT : (tgl.all (notOw (wipeR ρ vs))) = true := by
      rw [List.all_eq_true]
      intro j hj
      have key : ∀ (vs : List Nat) (j : Nat), j ∈ vs → notOw (wipeR ρ vs) j = true := by
        intro vs
        induction vs with
        | nil => intro j hj; cases hj
        | cons v vs ih =>
          intro j hj
          unfold wipeR notOw
          by_cases hv : v = j
          · subst hv
            by_cases hl : v < (wipeR ρ vs).length
            · rw [List.getElem?_set_self hl]
            · rw [List.getElem?_eq_none (by simpa using hl)]
          · rw [List.getElem?_set_ne hv]
            have := ih j (by rcases List.mem_cons.mp hj with z | z; exact absurd z.symm hv; exact z)
            unfold notOw at this
            exact this
      exact key vs j (hsub j hj)
    have eq3 : ∀ a, Wn (fun a => W0 a ∨ a = D) σ2 ρ' a ↔ WB a := fun a => by
      rw [← hWB]
      exact ⟨less3 a, more3 hnoT a⟩
    cases htv : evalT cf cifs ρ' with
    | bad => rw [htv] at hfd; simp only [bind_bad] at hfd; rw [hfd] at el; cases el
    | exc c p => rw [htv] at hfd; simp only [bind_exc] at hfd; rw [hfd] at el; cases el
    | ok kb =>
    rw [htv] at hfd
    simp only [bind_ok] at hfd
    refine ⟨_, rep3, fun v H3 sm3 ev => ?_⟩
    subst ev
    have eD3 : H3 D = some (.lst acc) := sm3 D _ (sm2 D _ eD)
    have kp3 : ∀ b o, H1 b = some o → H3 b = some o := fun b o e => sm3 b o (sm2 b o (kp b o e))
    cases kb with
    | false =>
      simp only [Bool.false_eq_true, if_false] at hfd ⊢
      rw [hfd] at el
      exact ⟨racc, rrest, acc, er, el, eD3, Rs.same sm3 (Rs.same sm2 rs), Nat.le_succ_of_le hl, kp3⟩
    | true =>
      simp only [if_true] at hfd ⊢
      cases hev : evalE cf false celt ρ' with
      | bad => rw [hev] at hfd; simp only [bind_bad] at hfd; rw [hfd] at el; cases el
      | exc c p => rw [hev] at hfd; simp only [bind_exc] at hfd; rw [hfd] at el; cases el
      | ok y =>
      rw [hev] at hfd
      simp only [bind_ok] at hfd
      rw [hfd] at el
      simp only at el
      cases hrr : lcLoop f (ds.drop (i + 1)) with
      | bad => rw [hrr] at el; cases el
      | exc c p => rw [hrr] at el; cases el
      | ok rr =>
      rw [hrr] at el
      simp only [bind_ok] at el
      cases el
      refine ⟨ρ', _, rep3.same sm3, ?_⟩
      rw [hev]
      intro v H4 sm4 rv
      have eD4 : H4 D = some (.lst acc) := sm4 D _ eD3
      refine ⟨acc, eD4, by omega, racc ++ [y], rr, acc ++ [v], by rw [er]; simp, hrr, upd_same, ?_, by simp; omega, fun b o e => ?_⟩
      · have stD : Stp H4 WB (upd H4 D (.lst (acc ++ [v]))) WB := ⟨fun a o e n => ⟨by rw [upd_ne (fun z => n ((eqB a).mpr (.inr z)))]; exact e, n⟩, fun a q => .inl q⟩
        refine Rs.append (Rs.stp stD _ _ (Rs.same sm4 (Rs.same sm3 (Rs.same sm2 rs)))) (Rs.one (R.stp stD y v ?_))
        have rv' : R (X.K, X.w) H4 (Wn (fun a => W0 a ∨ a = D) σ2 ρ') y v := rv
        exact R.stp (Stp.less fun a q => (eq3 a).mpr q) y v rv'
      · rw [upd_ne (ne_of_none e hD)]
        exact sm4 b o (kp3 b o e)
  · have ei : i = ds.length := by omega
    subst ei
    refine .inl ⟨fd2, ?_⟩
    rw [List.drop_length] at el
    simp only [lcLoop] at el
    cases el
    rw [List.append_nil] at er
    subst er
    refine h1.ok kp ⟨?_, fun _ => ⟨D, rfl, hD, ?_⟩⟩
    · simp only [R]
      exact ⟨D, acc, rfl, .inl ⟨.of eD, fun q => rep1.wtrk D q hD⟩, Rs.stp (Stp.less fun a q => (eqB a).mpr (.inl q)) _ _ rs⟩
    · simp only [OwnAt]
      exact ⟨acc, eD, Rs.stp (Stp.less fun a q => (eqB a).mpr q) _ _ rs⟩
end
end DI
set_option Elab.async false
set_option linter.all false
set_option maxRecDepth 100000
set_option maxHeartbeats 4000000
/-! from the text's expressions to the small language, and that it is right -/
namespace DI
open PySem PySem.Spec PyProof.Rows L2
/-- what is known of the module: constants; functions with (new answers, number of parameters); built-ins that are still so -/
structure GI where
  consts : List (Str × D)
  fns : List (Str × Bool × Nat)
  blt : List String
def slotOf (N : List Str) (x : Str) : Option Nat := let i := N.findIdx (· == x); if N[i]? = some x then some i else none
theorem slotOf_some {N : List Str} {x : Str} {i : Nat} (h : slotOf N x = some i) : N[i]? = some x := by
  unfold slotOf at h
  simp only at h
  split at h
  · cases h; assumption
  · cases h
def isVis (sc : Scope) (x : Str) : Bool := match sc.names.lookup x with
  | some .local | some .cell | some .free => true
  | _ => false
def isGl (sc : Scope) (x : Str) : Bool := match sc.names.lookup x with
  | some .globalImplicit => true
  | _ => false
def okNm (x : Str) : Bool := !(x == ("__debug__" : Str)) && !(x == ("__classdict__" : Str))
def tg1 (F : Str → Bool) (N : List Str) (sc : Scope) : Expr → Option Nat
  | .Name x _ => match sc.names.lookup x with
    | some .local => slotOf N x
    | some .cell => if F x = true then slotOf N x else none
    | _ => none
  | _ => none
def tgs (f : Expr → Option Nat) : List Expr → Option (List Nat)
  | [] => some []
  | e :: es => (f e).bind fun i => (tgs f es).bind fun is => some (i :: is)
def compTg (F : Str → Bool) (N : List Str) (sc : Scope) : Expr → Option (List Nat × Bool)
  | .Name x p => (tg1 F N sc (.Name x p)).map fun i => ([i], false)
  | .Tuple es _ _ => (tgs (tg1 F N sc) es).map fun is => (is, true)
  | _ => none
def ownOf (N : List Str) (scope : Scope) : List (Str × Nat) := scope.names.filterMap fun y => match y.2 with
  | .local | .cell => (slotOf N y.1).map fun i => (y.1, i)
  | _ => none
def isTup : Expr → Bool
  | .Tuple _ _ _ => true
  | _ => false
def compO (f : Expr → Option CE) : Option Expr → Option CO
  | none => some .no
  | some e => (f e).map .so
def compIf (f : Expr → Option CE) : List Expr → Option CO
  | [] => some .no
  | [e] => (f e).map .so
  | _ => none
def compI (f : Expr → Option CE) (G : GI) (sc : Scope) (isT : Bool) (e : Expr) : Option CI := match e with
  | .Call (.Name x _) args [] _ =>
    if x = ("range" : Str) then (if isGl sc x && G.blt.contains "range" then match args with
      | [a] => (f a).map .rng1
      | [a, b] => (f a).bind fun ca => (f b).bind fun cb => some (.rng2 ca cb)
      | _ => none else none)
    else if x = ("zip" : Str) then (if isGl sc x && G.blt.contains "zip" && isT then match args with
      | [a, b] => (f a).bind fun ca => (f b).bind fun cb => some (.zip ca cb)
      | _ => none else none)
    else (f e).map .val
  | _ => (f e).map .val
def findT (t : Str) : Option String := isiTs.find? fun u => Str.ofString u == t
def findB (t : Str) : Option (String × Bool) := bltK.find? fun u => Str.ofString u.1 == t
def comp (G : GI) (N : List Str) : Nat → (Str → Bool) → Scope → Expr → Option CE
  | 0, _, _, _ => none
  | n + 1, F, sc, e => match e with
    | .Constant c _ _ => (match c with
      | .none => some (.cst .none)
      | .bool b => some (.cst (.bool b))
      | .int i => some (.cst (.int i))
      | .str s => some (.cst (.str s))
      | _ => none)
    | .Name x _ => if okNm x then (if isVis sc x then (slotOf N x).map .var else if isGl sc x then (G.consts.lookup x).map .gl else none) else none
    | .Tuple es _ _ => (compLs (comp G N n F sc) es).map .tup
    | .List es _ => (compLs (comp G N n F sc) es).map .lst
    | .BinOp a op b _ => (comp G N n F sc a).bind fun ca => (comp G N n F sc b).bind fun cb => some (.bin op ca cb)
    | .UnaryOp op a _ => (match op with
      | .USub => (comp G N n F sc a).map .neg
      | .Not => (comp G N n F sc a).map .not_
      | _ => none)
    | .BoolOp op es _ => compB op (comp G N n F sc) es
    | .Compare a ops bs _ => (match ops, bs with
      | [op], [b] => if behindInMarks op b then none else (comp G N n F sc a).bind fun ca => (comp G N n F sc b).bind fun cb => some (.cmp op ca cb)
      | [o1, o2], [b, c] => if lastMarks [o1, o2] [b, c] then none else (comp G N n F sc a).bind fun ca => (comp G N n F sc b).bind fun cb => (comp G N n F sc c).bind fun cc => some (.chn o1 o2 ca cb cc)
      | _, _ => none)
    | .IfExp c a b _ => (comp G N n F sc c).bind fun cc => (comp G N n F sc a).bind fun ca => (comp G N n F sc b).bind fun cb => some (.ife cc ca cb)
    | .Call f args kws _ => (match f, args, kws with
      | .Name x _, e0 :: es, [] => if okNm x && isGl sc x then (match G.fns.lookup x with
          | some fr => (compLs (comp G N n F sc) (e0 :: es)).map (.call x fr.1)
          | none => if x = ("isinstance" : Str) then (match es with
              | [.Name t _] => (match findT t with
                | some u => if isGl sc t && G.blt.contains u && G.blt.contains "isinstance" then (comp G N n F sc e0).map fun c => .isi c u else none
                | none => none)
              | _ => none)
            else match findB x with
              | some p => if G.blt.contains p.1 then (compLs (comp G N n F sc) (e0 :: es)).map (.bi p.1) else none
              | none => none) else none
      | .Name x _, [e0], [⟨some key, .Name y _, _⟩] => if x = ("sorted" : Str) ∧ key = Str.ofString "key" then (if okNm y && (isGl sc y && (isGl sc x && G.blt.contains "sorted")) then (match G.fns.lookup y with
          | some (_, 1) => (comp G N n F sc e0).map (.srt y)
          | _ => none) else none) else none
      | _, _, _ => none)
    | .Subscript a b _ => (match b with
      | .Slice none none (some (.UnaryOp .USub (.Constant (.int 1) _ _) _)) _ => (comp G N n F sc a).map .rev
      | .Slice lo hi none _ => (comp G N n F sc a).bind fun ca => (compO (comp G N n F sc) lo).bind fun cl => (compO (comp G N n F sc) hi).bind fun ch => some (.slc ca cl ch)
      | b => (comp G N n F sc a).bind fun ca => (comp G N n F sc b).bind fun cb => some (.ix ca cb))
    | .ListComp elt gens scope _ => (match gens with
      | [⟨tg, iter, ifs, 0⟩] =>
        let own := ownOf N scope
        let F' : Str → Bool := fun x => scope.names.lookup x == some .cell
        let sc' := relS scope sc
        if blkC N sc scope own then (compTg F' N sc' tg).bind fun t => if (t.1.all fun i => (own.map (·.2)).contains i) then
          (compI (comp G N n F sc) G sc t.2 iter).bind fun ci => (compIf (comp G N n F' sc') ifs).bind fun cifs => (comp G N n F' sc' elt).bind fun ce => some (.lc (own.map (·.2)) t.1 t.2 ci cifs ce) else none
        else none
      | _ => none)
    | _ => none
end DI
set_option Elab.async false
set_option linter.all false
set_option maxRecDepth 100000
set_option maxHeartbeats 4000000
/-! the expressions that comp takes -/
namespace DI
open PySem PySem.Spec PyProof.Rows L2
section
variable {G : GI} {N : List Str} {F : Str → Bool} {sc : Scope} {n : Nat} {e : Expr} {c : CE}
theorem comp_zero (h : comp G N 0 F sc e = some c) : False := by
  unfold comp at h
  cases h
theorem comp_star (h : comp G N n F sc e = some c) (es : List Expr) (env : Env) : starEach (e :: es) env = (false, eval e env) :: starEach es env := by
  cases n with
  | zero => exact (comp_zero h).elim
  | succ n =>
    cases e <;> first
      | rfl
      | (unfold comp at h; cases h)
theorem comp_ix (h : comp G N n F sc e = some c) : PlainIx e := by
  cases n with
  | zero => exact (comp_zero h).elim
  | succ n =>
    cases e <;> first
      | exact fun _ _ => rfl
      | (unfold comp at h; cases h)
theorem comp_fold (h : comp G N n F sc e = some c) (env : Env) (x : Value) : foldedSetIterable e env x = pure x := by
  cases n with
  | zero => exact (comp_zero h).elim
  | succ n =>
    cases e <;> first
      | rfl
      | (unfold comp at h; cases h)
theorem compI_fold {isT : Bool} {ci : CI} (h : compI (comp G N n F sc) G sc isT e = some ci) (env : Env) (x : Value) : foldedSetIterable e env x = pure x := by
  cases e <;> first
    | rfl
    | (simp only [compI, Option.map_eq_some_iff] at h
       obtain ⟨c, h1, _⟩ := h
       exact comp_fold h1 env x)
theorem comps_any {env : Env} {pos : Pos} : ∀ {es : List Expr} {cl : CL}, compLs (comp G N n F sc) es = some cl → (backTo pos (starEach es env)).any (·.1) = false
  | [], _, _ => rfl
  | e :: es, cl, h => by
    simp only [compLs] at h
    obtain ⟨c1, e1, h⟩ := Option.bind_eq_some_iff.mp h
    obtain ⟨c2, e2, h⟩ := Option.bind_eq_some_iff.mp h
    rw [comp_star e1]
    have ih := comps_any (env := env) (pos := pos) e2
    show ((false, _) :: backTo pos (starEach es env)).any (·.1) = false
    rw [List.any_cons, ih]
    rfl
theorem isGl_lookup {x : Str} (h : isGl sc x = true) : sc.names.lookup x = some .globalImplicit := by
  unfold isGl at h
  split at h
  · assumption
  · cases h
theorem isVis_vis {x : Str} (h : isVis sc x = true) : Vis sc x := by
  unfold isVis at h
  split at h
  · rename_i e; exact .inl e
  · rename_i e; exact .inr (.inl e)
  · rename_i e; exact .inr (.inr e)
  · cases h
theorem okNm_of {x : Str} (h : okNm x = true) : (x == ("__debug__" : Str)) = false ∧ (x == ("__classdict__" : Str)) = false := by
  unfold okNm at h
  simpa using h
end
/-- the context is as comp takes it -/
structure Fits (X : Cx) (G : GI) (F : Str → Bool) (N : List Str) (sc : Scope) (k : Nat) (cf : Str → List D → Out D) (Wx : WX) : Prop where
  N : X.N = N
  sc : X.env.scope = sc
  F : X.fn = F
  nd : X.N.Nodup
  calm : X.calm = true
  room1 : Room (k + 1) X.A
  tk : Takes X Wx
  consts : ∀ x d, G.consts.lookup x = some d → ∃ u v, X.mg x = some u ∧ RelV v u ∧ R (X.K, X.w) (fun _ => none) (fun _ => False) d v
  blt : ∀ t ∈ G.blt, X.mg (Str.ofString t) = none
  fns : ∀ x fr ar, G.fns.lookup x = some (fr, ar) → FnGood X k cf x fr ar
section
variable {X : Cx} {Wx : WX} {G : GI} {N : List Str} {F : Str → Bool} {sc : Scope} {k : Nat} {cf : Str → List D → Out D}
theorem Fits.room (f : Fits X G F N sc k cf Wx) : Room k X.A := f.room1.mono (Nat.le_succ k)
theorem Fits.blk (f : Fits X G F N sc k cf Wx) (s : Shared) (H : Hp) (scope : Scope) (C : Addr) (cl : List (Str × Addr)) (fp : List Addr) :
    Fits (X.blk s H scope (compEnvC scope cl C X.env) fp) G (fun x => scope.names.lookup x == some .cell) N (relS scope sc) k cf (fun _ _ _ _ => False) :=
  ⟨f.N, by rw [← f.sc]; rfl, rfl, f.nd, f.calm, f.room1, takes0, f.consts, f.blt, fun x fr ar h => ⟨(f.fns x fr ar h).ex, (f.fns x fr ar h).ar, (f.fns x fr ar h).db⟩⟩
theorem Fits.gl (f : Fits X G F N sc k cf Wx) {x : Str} (h : isGl sc x = true) : Gl X x := by
  show X.env.scope.names.lookup x = _
  rw [f.sc]
  exact isGl_lookup h
theorem tg1_ok (f : Fits X G F N sc k cf Wx) {e : Expr} {i : Nat} (h : tg1 F N sc e = some i) : TgOk X e i := by
  cases e <;> simp only [tg1] at h <;> first | cases h | skip
  rename_i x pos
  split at h
  · rename_i e1
    exact ⟨x, pos, rfl, by rw [f.N]; exact slotOf_some h, .inl (by rw [f.sc]; exact e1), .inr (by rw [f.sc]; exact e1)⟩
  · rename_i e1
    split at h
    · rename_i hF
      exact ⟨x, pos, rfl, by rw [f.N]; exact slotOf_some h, .inr (by rw [f.sc]; exact e1), .inl (by rw [f.F]; exact hF)⟩
    · cases h
  · cases h
theorem tgs_ok (f : Fits X G F N sc k cf Wx) : ∀ {es : List Expr} {is : List Nat}, tgs (tg1 F N sc) es = some is → Paired (TgOk X) es is
  | [], is, h => by
    simp only [tgs, Option.some.injEq] at h
    subst h
    exact .nil
  | e :: es, is, h => by
    simp only [tgs] at h
    obtain ⟨i, e1, h⟩ := Option.bind_eq_some_iff.mp h
    obtain ⟨is', e2, h⟩ := Option.bind_eq_some_iff.mp h
    cases h
    exact .cons (tg1_ok f e1) (tgs_ok f e2)
theorem compTg_ok (f : Fits X G F N sc k cf Wx) {e : Expr} {t : List Nat × Bool} (h : compTg F N sc e = some t) : PG X e (gD X t.1 t.2) := by
  cases e <;> simp only [compTg] at h <;> first | cases h | skip
  · obtain ⟨i, e1, h⟩ := Option.map_eq_some_iff.mp h
    subst h
    obtain ⟨x, pos, ex, a, b, c⟩ := (tg1_ok f e1).ex
    cases ex
    exact g_name f.nd a b c
  · obtain ⟨i, e1, h⟩ := Option.map_eq_some_iff.mp h
    subst h
    exact g_tup f.calm f.nd (tgs_ok f e1)
theorem compTg_tup {e : Expr} {t : List Nat × Bool} (h : compTg F N sc e = some t) (ht : t.2 = true) : ∃ es kk pos, e = .Tuple es kk pos := by
  cases e <;> simp only [compTg] at h <;> first | cases h | skip
  · obtain ⟨i, e1, h⟩ := Option.map_eq_some_iff.mp h
    subst h
    cases ht
  · exact ⟨_, _, _, rfl⟩
theorem t_ife {c a b : Expr} {cc ca cb : CE} {pos : Pos} (hc : T3 cf X Wx c cc) (ha : T3 cf X Wx a ca) (hb : T3 cf X Wx b cb) : T3 cf X Wx (.IfExp c a b pos) (.ife cc ca cb) := fun ρ => by
  have key : PT X (.IfExp c a b pos) (fun σ H Q => tB X Wx ρ ((evalE cf false cc ρ).bind fun x => ob (asB x)) σ H fun k H1 => if k = true then tB X Wx ρ ((evalE cf false ca ρ).bind fun x => ob (asB x)) σ H1 Q else tB X Wx ρ ((evalE cf false cb ρ).bind fun x => ob (asB x)) σ H1 Q) := by
    refine ⟨fun pins s σ H Q I h => isTrue_IfExp (thn ((hc ρ).run pins s σ H _ I h) fun k s1 ⟨H1, I1, q1⟩ => ?_)⟩
    cases k with
    | true => exact (ha ρ).run pins s1 σ H1 Q I1 q1
    | false => exact (hb ρ).run pins s1 σ H1 Q I1 q1
  refine PT.imp key fun σ H Q ⟨W0, h⟩ => ?_
  simp only [evalE] at h
  have h' : AnW X Wx W0 ρ (((evalE cf false cc ρ).bind fun x => ob (asB x)).bind fun k => if k = true then (evalE cf false ca ρ).bind fun x => ob (asB x) else (evalE cf false cb ρ).bind fun x => ob (asB x)) (fun _ _ _ d v => d = v) σ H Q := by
    revert h
    cases evalE cf false cc ρ with
    | ok x =>
      simp only [bind_ok]
      cases asB x with
      | none => exact id
      | some k => cases k <;> exact id
    | exc c p => exact id
    | bad => exact id
  refine ⟨W0, h'.bind monoC fun x v H1 s1 r1 h1 => ?_⟩
  subst r1
  split <;> rename_i hk
  · rw [if_pos hk] at h1
    exact ⟨W0, h1⟩
  · rw [if_neg hk] at h1
    exact ⟨W0, h1⟩
theorem findT_some {t : Str} {u : String} (h : findT t = some u) : u ∈ isiTs ∧ t = Str.ofString u := by
  unfold findT at h
  have h1 := List.find?_some h
  exact ⟨List.mem_of_find?_eq_some h, (by simpa using h1 : Str.ofString u = t).symm⟩
theorem findB_some {t : Str} {u : String × Bool} (h : findB t = some u) : u ∈ bltK ∧ t = Str.ofString u.1 := by
  unfold findB at h
  have h1 := List.find?_some h
  exact ⟨List.mem_of_find?_eq_some h, (by simpa using h1 : Str.ofString u.1 = t).symm⟩
end
end DI
set_option Elab.async false
set_option linter.all false
set_option maxRecDepth 100000
set_option maxHeartbeats 8000000
/-! comp is right -/
namespace DI
open PySem PySem.Spec PyProof.Rows L2
section
variable {G : GI} {N : List Str} {k : Nat} {cf : Str → List D → Out D}
theorem compO_ok {X : Cx} {Wx : WX} {f : Expr → Option CE} (hf : ∀ e c, f e = some c → E3 cf X Wx e c) {o : Option Expr} {co : CO} (h : compO f o = some co) : O3 cf X Wx o co := by
  cases o with
  | none => simp only [compO, Option.some.injEq] at h; subst h; exact o_no
  | some e =>
    simp only [compO, Option.map_eq_some_iff] at h
    obtain ⟨c, h1, h2⟩ := h
    subst h2
    exact o_so (hf e c h1)
theorem compI_ok {X : Cx} {Wx : WX} {F : Str → Bool} {sc : Scope} {n : Nat} (ft : Fits X G F N sc k cf Wx) (hf : ∀ e c, comp G N n F sc e = some c → E3 cf X Wx e c) {isT : Bool} {tg e : Expr} {ci : CI} (htg : isT = true → ∃ es kk pos, tg = .Tuple es kk pos)
    (h : compI (comp G N n F sc) G sc isT e = some ci) : I3 cf X Wx tg e ci := by
  have val : ∀ {e : Expr} {ci : CI}, Option.map CI.val (comp G N n F sc e) = some ci → I3 cf X Wx tg e ci := fun {e ci} h => by
    obtain ⟨c, h1, h2⟩ := Option.map_eq_some_iff.mp h
    subst h2
    exact i_val (hf _ c h1)
  unfold compI at h
  split at h
  · rename_i x p args pos
    split at h
    · rename_i hx
      subst hx
      split at h
      · rename_i hg
        rw [Bool.and_eq_true] at hg
        have hm : X.mg ("range" : Str) = none := ft.blt "range" (by simpa using hg.2)
        split at h
        · obtain ⟨c, h1, h2⟩ := Option.map_eq_some_iff.mp h
          subst h2
          exact i_rng1 (ft.gl hg.1) hm (hf _ c h1) (comp_star h1 [] _)
        · obtain ⟨c1, h1, h⟩ := Option.bind_eq_some_iff.mp h
          obtain ⟨c2, h2, h⟩ := Option.bind_eq_some_iff.mp h
          cases h
          exact i_rng2 (ft.gl hg.1) hm (hf _ c1 h1) (hf _ c2 h2) (by rw [comp_star h1, comp_star h2]; rfl) (comp_star h2 [] _)
        · cases h
      · cases h
    · split at h
      · rename_i _ hx
        subst hx
        split at h
        · rename_i hg
          rw [Bool.and_eq_true, Bool.and_eq_true] at hg
          have hm : X.mg ("zip" : Str) = none := ft.blt "zip" (by simpa using hg.1.2)
          obtain ⟨es, kk, tpos, rfl⟩ := htg hg.2
          split at h
          · obtain ⟨c1, h1, h⟩ := Option.bind_eq_some_iff.mp h
            obtain ⟨c2, h2, h⟩ := Option.bind_eq_some_iff.mp h
            cases h
            exact i_zip (ft.gl hg.1.1) hm (hf _ c1 h1) (hf _ c2 h2) (comp_star h1 _ _) (comp_star h2 [] _) (by rw [comp_star h2]; rfl)
          · cases h
        · cases h
      · exact val h
  · exact val h
theorem compIf_ok {X : Cx} {Wx : WX} {f : Expr → Option CE} (hf : ∀ e c, f e = some c → T3 cf X Wx e c) {ifs : List Expr} {co : CO} (h : compIf f ifs = some co) (ρ : Rho) : PTs X ifs (tB X Wx ρ (evalT cf co ρ)) := by
  match ifs with
  | [] =>
    simp only [compIf, Option.some.injEq] at h
    subst h
    exact PTs.imp pts_nil fun σ H Q ⟨W0, h⟩ => h.ok (Same.refl _) rfl
  | [e] =>
    simp only [compIf, Option.map_eq_some_iff] at h
    obtain ⟨c, h1, h2⟩ := h
    subst h2
    exact pts_one (hf e c h1 ρ)
  | _ :: _ :: _ => simp [compIf] at h
theorem comp_ok : ∀ (n : Nat) (X : Cx) (Wx : WX) (F : Str → Bool) (sc : Scope) (e : Expr) (c : CE), Fits X G F N sc k cf Wx → comp G N n F sc e = some c → E3 cf X Wx e c ∧ T3 cf X Wx e c := by
  intro n
  induction n with
  | zero => intro X Wx F sc e c ft h; exact (comp_zero h).elim
  | succ n ih =>
    intro X Wx F sc e c ft h
    have h3 : ∀ e c, comp G N n F sc e = some c → E3 cf X Wx e c := fun e c h => (ih X Wx F sc e c ft h).1
    have t3 : ∀ e c, comp G N n F sc e = some c → T3 cf X Wx e c := fun e c h => (ih X Wx F sc e c ft h).2
    have PLs : ∀ {es : List Expr} {cl : CL}, compLs (comp G N n F sc) es = some cl → ∀ ρ, PA X es (An X Wx ρ (evalL cf cl ρ) (fun _ H W ds vs => Rs (X.K, X.w) H W ds vs)) := fun {es cl} h => pa_L h3 (fun e c h es => comp_star h es _) es cl h
    have PPs : ∀ {es : List Expr} {cl : CL}, compLs (comp G N n F sc) es = some cl → ∀ ρ, PA X es (An X Wx ρ (evalPL cf cl ρ) (fun _ H W ds vs => RPs (X.K, X.w) H W ds vs)) := fun {es cl} h => pa_PL h3 (fun e c h es => comp_star h es _) es cl h
    have pl : ∀ {e : Expr} {c : CE}, (∀ whole, isTrue e X.env whole = (do let v ← whole; standAt e.pos; holding [v] (truthy v))) → E3 cf X Wx e c → E3 cf X Wx e c ∧ T3 cf X Wx e c := fun {e c} he q => ⟨q, T3.plain q he⟩
    unfold comp at h
    cases e with
    | Constant cc j pos =>
      refine pl (fun _ => rfl) ?_
      cases cc <;> simp only [Option.some.injEq] at h <;> first | (subst h) | cases h
      · exact e_non
      · exact e_bool
      · exact e_int
      · exact e_str
    | Name x pos =>
      refine pl (fun _ => rfl) ?_
      simp only at h
      split at h
      · rename_i hn
        obtain ⟨d1, d2⟩ := okNm_of hn
        split at h
        · rename_i hv
          obtain ⟨i, h1, h2⟩ := Option.map_eq_some_iff.mp h
          subst h2
          exact e_var (by rw [ft.N]; exact slotOf_some h1) (by rw [ft.sc]; exact isVis_vis hv) d1 d2
        · split at h
          · rename_i hg
            obtain ⟨d, h1, h2⟩ := Option.map_eq_some_iff.mp h
            subst h2
            obtain ⟨u, v, m1, m2, m3⟩ := ft.consts x d h1
            exact e_gl (ft.gl hg) m1 m2 m3 d1
          · cases h
      · cases h
    | Tuple es kk pos =>
      refine pl (fun _ => rfl) ?_
      obtain ⟨cl, h1, h2⟩ := Option.map_eq_some_iff.mp h
      subst h2
      exact e_tup (PLs h1)
    | List es pos =>
      refine pl (fun _ => rfl) ?_
      obtain ⟨cl, h1, h2⟩ := Option.map_eq_some_iff.mp h
      subst h2
      exact e_lst (PLs h1)
    | BinOp a op b pos =>
      refine pl (fun _ => rfl) ?_
      obtain ⟨ca, h1, h⟩ := Option.bind_eq_some_iff.mp h
      obtain ⟨cb, h2, h⟩ := Option.bind_eq_some_iff.mp h
      cases h
      exact e_bin ft.room (h3 _ _ h1) (h3 _ _ h2)
    | UnaryOp op a pos =>
      cases op <;> simp only at h <;> first | cases h | skip
      · obtain ⟨ca, h1, h2⟩ := Option.map_eq_some_iff.mp h
        subst h2
        exact ⟨e_not (h3 _ _ h1), t_not (t3 _ _ h1)⟩
      · refine pl (fun _ => rfl) ?_
        obtain ⟨ca, h1, h2⟩ := Option.map_eq_some_iff.mp h
        subst h2
        exact e_neg (h3 _ _ h1)
    | BoolOp op es pos =>
      obtain ⟨q1, q2⟩ := boolop_ok (op := op) (pos := pos) (fun e c h => ⟨h3 e c h, t3 e c h⟩) es c h
      exact ⟨q1, fun ρ => (q2 ρ).pt⟩
    | Compare a ops bs pos =>
      simp only at h
      split at h
      · split at h
        · cases h
        · rename_i hb
          obtain ⟨ca, h1, h⟩ := Option.bind_eq_some_iff.mp h
          obtain ⟨cb, h2, h⟩ := Option.bind_eq_some_iff.mp h
          cases h
          have hb' := Bool.eq_false_iff.mpr hb
          exact ⟨e_cmp ft.room hb' (h3 _ _ h1) (h3 _ _ h2), t_cmp ft.room hb' (h3 _ _ h1) (h3 _ _ h2)⟩
      · split at h
        · cases h
        · rename_i hb
          obtain ⟨ca, h1, h⟩ := Option.bind_eq_some_iff.mp h
          obtain ⟨cb, h2, h⟩ := Option.bind_eq_some_iff.mp h
          obtain ⟨cc, h4, h⟩ := Option.bind_eq_some_iff.mp h
          cases h
          have hb' := Bool.eq_false_iff.mpr hb
          exact ⟨e_chn ft.room hb' (h3 _ _ h1) (h3 _ _ h2) (h3 _ _ h4), t_chn ft.room hb' (h3 _ _ h1) (h3 _ _ h2) (h3 _ _ h4)⟩
      · cases h
    | IfExp a b d pos =>
      obtain ⟨ca, h1, h⟩ := Option.bind_eq_some_iff.mp h
      obtain ⟨cb, h2, h⟩ := Option.bind_eq_some_iff.mp h
      obtain ⟨cc, h4, h⟩ := Option.bind_eq_some_iff.mp h
      cases h
      exact ⟨e_ife (t3 _ _ h1) (h3 _ _ h2) (h3 _ _ h4), t_ife (t3 _ _ h1) (t3 _ _ h2) (t3 _ _ h4)⟩
    | Call f args kws pos =>
      refine pl (fun _ => rfl) ?_
      simp only at h
      split at h
      · rename_i x p e0 es
        split at h
        · rename_i hg
          rw [Bool.and_eq_true] at hg
          split at h
          · rename_i fr hfr
            obtain ⟨fr1, ar⟩ := fr
            obtain ⟨cl, h1, h2⟩ := Option.map_eq_some_iff.mp h
            subst h2
            have hc0 := h1
            simp only [compLs] at hc0
            obtain ⟨c0, e1, hc0⟩ := Option.bind_eq_some_iff.mp hc0
            obtain ⟨cr, e2, hc0⟩ := Option.bind_eq_some_iff.mp hc0
            exact e_call ft.tk ft.room (ft.gl hg.2) (ft.fns x fr1 ar hfr) (PLs h1) (comp_star e1 _ _) (comps_any e2)
          · split at h
            · rename_i hx
              subst hx
              split at h
              · split at h
                · rename_i u hu
                  split at h
                  · rename_i hb
                    rw [Bool.and_eq_true, Bool.and_eq_true] at hb
                    obtain ⟨c0, h1, h2⟩ := Option.map_eq_some_iff.mp h
                    subst h2
                    obtain ⟨hu1, rfl⟩ := findT_some hu
                    exact e_isi hu1 (ft.gl hg.2) (ft.blt "isinstance" (by simpa using hb.2)) (ft.gl hb.1.1) (ft.blt u (by simpa using hb.1.2)) (h3 _ _ h1) (comp_star h1 _ _)
                  · cases h
                · cases h
              · cases h
            · split at h
              · rename_i u hu
                split at h
                · rename_i hb
                  obtain ⟨cl, h1, h2⟩ := Option.map_eq_some_iff.mp h
                  subst h2
                  obtain ⟨hu1, rfl⟩ := findB_some hu
                  have hc0 := h1
                  simp only [compLs] at hc0
                  obtain ⟨c0, e1, hc0⟩ := Option.bind_eq_some_iff.mp hc0
                  obtain ⟨cr, e2, hc0⟩ := Option.bind_eq_some_iff.mp hc0
                  exact e_bi (t := u.2) ft.calm ft.room hu1 (ft.gl hg.2) (ft.blt u.1 (by simpa using hb)) (PPs h1) (comp_star e1 _ _) (comps_any e2)
                · cases h
              · cases h
        · cases h
      · rename_i x p e0 key y py kpos
        split at h
        · rename_i hx
          obtain ⟨hx, hkey⟩ := hx
          subst hx hkey
          split at h
          · rename_i hg
            rw [Bool.and_eq_true, Bool.and_eq_true, Bool.and_eq_true] at hg
            split at h
            · rename_i fr hfr
              obtain ⟨c0, h1, h2⟩ := Option.map_eq_some_iff.mp h
              subst h2
              exact e_srt ft.room1 (ft.fns y fr 1 hfr) (ft.gl hg.2.2.1) (ft.blt "sorted" (by simpa using hg.2.2.2)) (ft.gl hg.2.1) (h3 _ _ h1) (comp_star h1 [] _)
            · cases h
          · cases h
        · cases h
      · cases h
    | Subscript a b pos =>
      refine pl (fun _ => rfl) ?_
      simp only at h
      split at h
      · obtain ⟨ca, h1, h2⟩ := Option.map_eq_some_iff.mp h
        subst h2
        exact e_rev (h3 _ _ h1)
      · obtain ⟨ca, h1, h⟩ := Option.bind_eq_some_iff.mp h
        obtain ⟨cl, h2, h⟩ := Option.bind_eq_some_iff.mp h
        obtain ⟨ch, h4, h⟩ := Option.bind_eq_some_iff.mp h
        cases h
        exact e_slc (h3 _ _ h1) (compO_ok h3 h2) (compO_ok h3 h4)
      · obtain ⟨ca, h1, h⟩ := Option.bind_eq_some_iff.mp h
        obtain ⟨cb, h2, h⟩ := Option.bind_eq_some_iff.mp h
        cases h
        exact e_ix (comp_ix h2) (h3 _ _ h1) (h3 _ _ h2)
    | ListComp elt gens scope pos =>
      refine pl (fun _ => rfl) ?_
      simp only at h
      split at h
      · rename_i tg iter ifs
        split at h
        · rename_i hb
          obtain ⟨t, h1, h⟩ := Option.bind_eq_some_iff.mp h
          split at h
          · rename_i hsub
            obtain ⟨ci, h2, h⟩ := Option.bind_eq_some_iff.mp h
            obtain ⟨cifs, h4, h⟩ := Option.bind_eq_some_iff.mp h
            obtain ⟨ce, h5, h⟩ := Option.bind_eq_some_iff.mp h
            cases h
            have hfit := fun s H C cl fp => ft.blk s H scope C cl fp
            have hsub' : ∀ i ∈ t.1, i ∈ (ownOf N scope).map (·.2) := fun i hi => by
              rw [List.all_eq_true] at hsub
              simpa using hsub i hi
            have hfold := fun x => compI_fold h2 X.env x
            have hok : BlkOk X.N X.env.scope scope (ownOf N scope) := by rw [ft.N, ft.sc]; exact blkOk_by hb
            refine .ofFr (fun ρ => ?_) (fun ρ => rfl)
            obtain ⟨wi, g, tt, te, a1, a2, a3, a4, a5⟩ := e_lc (elt := elt) (tg := tg) (pos := pos) (own := ownOf N scope) (tgl := t.1) (isT := t.2) (ci := ci) (cifs := cifs) (celt := ce) ft.calm ft.nd (compI_ok ft h3 (fun z => compTg_tup h1 z) h2) hok hsub'
              (fun s H C cl fp => compTg_ok (hfit s H C cl fp) h1)
              (fun s H C cl fp ρ => compIf_ok (fun e c h => (ih _ _ _ _ e c (hfit s H C cl fp) h).2) h4 ρ)
              (fun s H C cl fp ρ => ((ih _ _ _ _ elt ce (hfit s H C cl fp) h5).1).v ρ) hfold ρ
            exact PE.imp (pe_lc ft.calm ft.nd a1 hok a2 a3 a4 hfold) a5
          · cases h
        · cases h
      · cases h
    | _ => cases h
end
end DI
set_option Elab.async false
set_option linter.all false
set_option maxRecDepth 100000
set_option maxHeartbeats 4000000
/-! statements: syntax, meaning -/
namespace DI
open PySem PySem.Spec PyProof.Rows L2
mutual
inductive CS where
  | set (i : Nat) (e : CE) | setT (tg : List Nat) (e : CE) | par (i j : Nat) (a b : CE)
  | exp (e : CE) | app (i : Nat) (e : CE) | ext (i : Nat) (e : CE)
  | ret (e : CE) | retN | iff (c : CE) (a b : CSs)
  | for_ (tg : List Nat) (isT : Bool) (it : CI) (b : CSs) | whl (n : Nat) (c : CE) (b : CSs)
  | pass | brk | cont
inductive CSs where
  | nil | cons (s : CS) (ss : CSs)
end
inductive SO where
  | next (ρ : Rho) | brk (ρ : Rho) | cont (ρ : Rho) | ret (d : D) | exc (c : Str) (p : List D) (ρ : Rho) | bad
def SO.bind (o : SO) (f : Rho → SO) : SO := match o with
  | .next ρ => f ρ
  | o => o
@[simp] theorem SO.bind_next (ρ : Rho) (f : Rho → SO) : SO.bind (.next ρ) f = f ρ := rfl
@[simp] theorem SO.bind_brk (ρ : Rho) (f : Rho → SO) : SO.bind (.brk ρ) f = .brk ρ := rfl
@[simp] theorem SO.bind_cont (ρ : Rho) (f : Rho → SO) : SO.bind (.cont ρ) f = .cont ρ := rfl
@[simp] theorem SO.bind_ret (d : D) (f : Rho → SO) : SO.bind (.ret d) f = .ret d := rfl
@[simp] theorem SO.bind_exc (c : Str) (p : List D) (ρ : Rho) (f : Rho → SO) : SO.bind (.exc c p ρ) f = .exc c p ρ := rfl
@[simp] theorem SO.bind_bad (f : Rho → SO) : SO.bind .bad f = .bad := rfl
/-- an expression's answer within a statement -/
def Out.toS {α : Type} (o : Out α) (ρ : Rho) (f : α → SO) : SO := match o with
  | .ok a => f a
  | .exc c p => .exc c p ρ
  | .bad => .bad
@[simp] theorem toS_ok {α : Type} (a : α) (ρ : Rho) (f : α → SO) : Out.toS (.ok a) ρ f = f a := rfl
@[simp] theorem toS_exc {α : Type} (c : Str) (p : List D) (ρ : Rho) (f : α → SO) : Out.toS (.exc c p : Out α) ρ f = .exc c p ρ := rfl
@[simp] theorem toS_bad {α : Type} (ρ : Rho) (f : α → SO) : Out.toS (.bad : Out α) ρ f = .bad := rfl
/-! which names an expression lets out -/
mutual
def leakE : Bool → CE → List Nat
  | _, .cst _ => []
  | _, .gl _ => []
  | pk, .var i => if pk = true then [] else [i]
  | _, .tup es => leakL es
  | _, .lst es => leakL es
  | _, .dic0 => []
  | _, .bin _ a b => leakE true a ++ leakE true b
  | _, .neg a => leakE true a
  | _, .cmp _ a b => leakE true a ++ leakE true b
  | _, .chn _ _ a b c => leakE true a ++ (leakE true b ++ leakE true c)
  | _, .and_ a b => leakE false a ++ leakE false b
  | _, .or_ a b => leakE false a ++ leakE false b
  | _, .not_ a => leakE false a
  | _, .ife c a b => leakE false c ++ (leakE false a ++ leakE false b)
  | _, .call _ _ es => leakL es
  | _, .bi _ es => leakPL es
  | _, .srt _ e => leakE true e
  | _, .isi a _ => leakE true a
  | _, .ix a b => leakE true a ++ leakE true b
  | _, .rev a => leakE true a
  | _, .slc a lo hi => leakE true a ++ (leakO lo ++ leakO hi)
  | _, .lc _ _ _ it ifs elt => leakI it ++ (leakO ifs ++ leakE false elt)
def leakO : CO → List Nat
  | .no => []
  | .so e => leakE false e
def leakL : CL → List Nat
  | .nil => []
  | .cons e es => leakE false e ++ leakL es
def leakPL : CL → List Nat
  | .nil => []
  | .cons e es => leakE true e ++ leakPL es
def leakI : CI → List Nat
  | .val e => leakE false e
  | .rng1 a => leakE false a
  | .rng2 a b => leakE false a ++ leakE false b
  | .zip a b => leakE false a ++ leakE false b
  | .enm a => leakE false a
end
def frz1 (i : Nat) (ρ : Rho) : Rho := match ρ[i]? with
  | some (.ow d) => ρ.set i (.sh d)
  | _ => ρ
def frz : List Nat → Rho → Rho
  | [], ρ => ρ
  | i :: is, ρ => frz is (frz1 i ρ)
/-- a slot given what an expression answers; ρf: the names it lets out shared -/
def putV (ρ ρf : Rho) (i : Nat) (d : D) (fresh : Bool) : Rho := if flat d = true then ρ.set i (.sh d) else if (fresh && isBox d) = true then ρf.set i (.ow d) else ρf.set i (.sh d)
def keepV (ρ ρf : Rho) (d : D) : Rho := if flat d = true then ρ else ρf
/-- what is behind a list that is added to -/
def appV (ρ : Rho) (i : Nat) (d : D) : SO := match ρ[i]? with
  | some (.ow (.list ds)) => if ds.length < 16777216 then .next (ρ.set i (.ow (.list (ds ++ [d])))) else .bad
  | _ => .bad
def extV (ρ : Rho) (i : Nat) (es : List D) : SO := match ρ[i]? with
  | some (.ow (.list ds)) => if ds.length + es.length ≤ 16777216 then .next (ρ.set i (.ow (.list (ds ++ es)))) else .bad
  | _ => .bad
def isOwL (ρ : Rho) (i : Nat) : Bool := match ρ[i]? with
  | some (.ow (.list _)) => true
  | _ => false
def asL : D → Option (List D)
  | .list ds => some ds
  | _ => none
/-- over what is walked -/
def forS (set : D → Rho → Out Rho) (f : Rho → SO) : List D → Rho → SO
  | [], ρ => .next ρ
  | d :: ds, ρ => match set d ρ with
    | .ok ρ1 => match f ρ1 with
      | .next ρ2 => forS set f ds ρ2
      | .cont ρ2 => forS set f ds ρ2
      | .brk ρ2 => .next ρ2
      | o => o
    | _ => .bad
def whS (c : Rho → Out Bool) (fz : Rho → Rho) (f : Rho → SO) : Nat → Rho → SO
  | 0, _ => .bad
  | n + 1, ρ => (c (fz ρ)).toS (fz ρ) fun b => if b = true then match f ρ with
      | .next ρ2 => whS c fz f n ρ2
      | .cont ρ2 => whS c fz f n ρ2
      | .brk ρ2 => .next ρ2
      | o => o
    else .next ρ
/-- what is told -/
def retV (cf : Str → List D → Out D) (fr : Bool) (e : CE) (ρ : Rho) : SO := if fr = true then match e with
    | .var i => (match ρ[i]? with
      | some (.ow d) => .ret d
      | some (.sh d) => if isBox d = true then .bad else .ret d
      | _ => .bad)
    | e => (evalE cf false e (frz (leakE false e) ρ)).toS (frz (leakE false e) ρ) fun d => if (isBox d && !freshE e) = true then .bad else .ret d
  else (evalE cf false e (frz (leakE false e) ρ)).toS (frz (leakE false e) ρ) fun d => .ret d
section
variable (cf : Str → List D → Out D) (fr : Bool)
mutual
def exec : CS → Rho → SO
  | .set i e, ρ => (evalE cf false e (frz (leakE false e) ρ)).toS (frz (leakE false e) ρ) fun d => .next (putV ρ (frz (leakE false e) ρ) i d (freshE e))
  | .setT tg e, ρ => (evalE cf false e (frz (leakE false e) ρ)).toS (frz (leakE false e) ρ) fun d => match setTg tg true d (frz (leakE false e) ρ) with
    | .ok ρ' => .next ρ'
    | _ => .bad
  | .par i j a b, ρ => (evalE cf false a (frz (leakE false a ++ leakE false b) ρ)).toS (frz (leakE false a ++ leakE false b) ρ) fun d =>
      (evalE cf false b (frz (leakE false a ++ leakE false b) ρ)).toS (frz (leakE false a ++ leakE false b) ρ) fun d' => .next (((frz (leakE false a ++ leakE false b) ρ).set i (.sh d)).set j (.sh d'))
  | .exp e, ρ => (evalE cf false e (frz (leakE false e) ρ)).toS (frz (leakE false e) ρ) fun d => .next ρ
  | .app i e, ρ => if isOwL ρ i = true then (evalE cf false e (frz (leakE false e) ρ)).toS (frz (leakE false e) ρ) fun d => appV (keepV ρ (frz (leakE false e) ρ) d) i d else .bad
  | .ext i e, ρ => if isOwL ρ i = true then (evalE cf false e (frz (leakE false e) ρ)).toS (frz (leakE false e) ρ) fun d => (match asL d with
    | some es => if freshE e = true then extV (frz (leakE false e) ρ) i es else .bad
    | none => .bad) else .bad
  | .ret e, ρ => retV cf fr e ρ
  | .retN, _ => .ret .none
  | .iff c a b, ρ => ((evalE cf false c (frz (leakE false c) ρ)).bind fun x => ob (asB x)).toS (frz (leakE false c) ρ) fun k => if k = true then execs a ρ else execs b ρ
  | .for_ tg isT it b, ρ => (evalI cf it (frz (leakI it) ρ)).toS (frz (leakI it) ρ) fun ds => forS (setTg tg isT) (execs b) ds (frz (leakI it) ρ)
  | .whl n c b, ρ => whS (fun ρ => (evalE cf false c ρ).bind fun x => ob (asB x)) (frz (leakE false c)) (execs b) n ρ
  | .pass, ρ => .next ρ
  | .brk, ρ => .brk ρ
  | .cont, ρ => .cont ρ
def execs : CSs → Rho → SO
  | .nil, ρ => .next ρ
  | .cons s ss, ρ => (exec s ρ).bind (execs ss)
end
end
end DI
set_option Elab.async false
set_option linter.all false
set_option maxRecDepth 100000
set_option maxHeartbeats 4000000
/-! statements: what holds behind them -/
namespace DI
open PySem PySem.Spec PyProof.Rows L2
abbrev Ow (σ : L2.St) (ρ : Rho) : WS := Wn (fun _ => False) σ ρ
section
variable {K : PySem.W.Frag × World} {W0 W W' : WS} {σ σ' : L2.St} {H H' H1 : Hp} {ρ ρ' : Rho}
theorem Ow.wn {a : Addr} (h : Ow σ ρ a) : Wn W0 σ ρ a := h.elim (fun z => z.elim) .inr
theorem wn_cases {a : Addr} (h : Wn W0 σ ρ a) : W0 a ∨ Ow σ ρ a := h.elim .inl fun z => .inr (.inr z)
/-- set apart or not -/
theorem stp_wn (s : Stp H (Ow σ ρ) H' (Ow σ' ρ')) : Stp H (Wn W0 σ ρ) H' (Wn W0 σ' ρ') := by
  refine ⟨fun a o e n => ?_, fun a h => ?_⟩
  · obtain ⟨h1, h2⟩ := s.keep a o e fun q => n q.wn
    exact ⟨h1, fun q => (wn_cases q).elim (fun z => n (.inl z)) h2⟩
  · rcases wn_cases h with h | h
    · exact .inl (.inl h)
    · exact (s.new a h).elim (fun q => .inl q.wn) .inr
theorem OwnAt.toR {a : Addr} {d : D} (h : OwnAt K H W a d) (hw : ∀ b, W' b → W b) (hn : ¬ W' a) : R K H W' d (.ref a) := by
  cases d <;> simp only [OwnAt] at h
  · obtain ⟨xs, h1, h2⟩ := h
    simp only [R]
    exact ⟨a, xs, rfl, .inl ⟨.of h1, hn⟩, Rs.stp (Stp.less hw) _ _ h2⟩
  · obtain ⟨o, es, ep, h1, h2, h3, h4, h5⟩ := h
    simp only [R]
    exact ⟨a, o, es, ep, rfl, h1, hn, h2, h3, h4, Re.stp (Stp.less hw) _ _ h5⟩
theorem OwnAt.less {a : Addr} {d : D} (h : OwnAt K H W a d) (hw : ∀ b, W' b → W b) : OwnAt K H W' a d := h.stp (Stp.less hw) fun o q => q
/-- an owned one is shared from now on -/
theorem Rep.frz1 (r : Rep K W0 σ H ρ) (i : Nat) : Rep K W0 σ H (frz1 i ρ) ∧ ∀ a, Ow σ (frz1 i ρ) a → Ow σ ρ a := by
  unfold DI.frz1
  split
  · rename_i d0 e0
    obtain ⟨a0, f1, f2, f3⟩ := r.ow i d0 e0
    have hl : i < ρ.length := (List.getElem?_eq_some_iff.mp e0).1
    have get : ∀ (j : Nat) (d' : D), (ρ.set i (.sh d0))[j]? = some (Sl.ow d') → j ≠ i ∧ ρ[j]? = some (Sl.ow d') := fun j d' e => by
      by_cases hij : i = j
      · subst hij
        rw [List.getElem?_set_self hl] at e
        cases e
      · rw [List.getElem?_set_ne hij] at e
        exact ⟨fun z => hij z.symm, e⟩
    have less : ∀ W0 a, Wn W0 σ (ρ.set i (.sh d0)) a → Wn W0 σ ρ a := fun W0 => wn_less fun j d' a e1 e2 => ⟨(get j d' e1).2, e2⟩
    have hna : ¬ Wn W0 σ (ρ.set i (.sh d0)) a0 := fun q => by
      rcases q with q | ⟨j, d', e1, e2⟩
      · exact f3 q
      · obtain ⟨hne, e3⟩ := get j d' e1
        exact hne (r.apart j i d' d0 a0 e3 e0 e2 f1)
    have st := Stp.less (H := H) (less W0)
    refine ⟨⟨by simpa using r.len, fun j d' e => ?_, fun j d' e => ?_, fun j j' d1 d2 a e1 e2 e3 e4 => r.apart j j' d1 d2 a (get j d1 e1).2 (get j' d2 e2).2 e3 e4, r.trk⟩, less _⟩
    · by_cases hij : i = j
      · subst hij
        rw [List.getElem?_set_self hl] at e
        cases e
        exact ⟨_, f1, f2.toR (less W0) hna⟩
      · rw [List.getElem?_set_ne hij] at e
        obtain ⟨u, h1, h2⟩ := r.sh j d' e
        exact ⟨u, h1, R.stp st d' u h2⟩
    · obtain ⟨hne, e1⟩ := get j d' e
      obtain ⟨a, h1, h2, h3⟩ := r.ow j d' e1
      exact ⟨a, h1, h2.stp st (fun o h => h), h3⟩
  · exact ⟨r, fun a h => h⟩
theorem Rep.frz : ∀ (is : List Nat) {ρ : Rho}, Rep K W0 σ H ρ → Rep K W0 σ H (frz is ρ) ∧ ∀ a, Ow σ (frz is ρ) a → Ow σ ρ a
  | [], ρ, r => ⟨r, fun a h => h⟩
  | i :: is, ρ, r => by
    obtain ⟨r1, h1⟩ := r.frz1 i
    obtain ⟨r2, h2⟩ := Rep.frz is r1
    exact ⟨r2, fun a h => h1 a (h2 a h)⟩
theorem wn_setSh {j : Nat} {v : V} {d : D} : ∀ a, Wn W0 (σ.set j (some v)) (ρ.set j (.sh d)) a → Wn W0 σ ρ a := wn_less fun i d' a e1 e2 => by
  by_cases hij : j = i
  · subst hij
    by_cases hl : j < ρ.length
    · rw [List.getElem?_set_self hl] at e1; cases e1
    · rw [List.getElem?_eq_none (by simpa using hl)] at e1; cases e1
  · rw [List.getElem?_set_ne hij] at e1 e2
    exact ⟨e1, e2⟩
/-- a slot set to a new list, a new dict -/
theorem Rep.setOw (r : Rep K W0 σ H ρ) (s : Same H H1) {j : Nat} {a : Addr} {d : D} (hn : H a = none) (ho : OwnAt K H1 (fun b => Wn W0 σ ρ b ∨ b = a) a d) :
    Rep K W0 (σ.set j (some (.ref a))) H1 (ρ.set j (.ow d)) ∧ Stp H (Ow σ ρ) H1 (Ow (σ.set j (some (.ref a))) (ρ.set j (.ow d))) := by
  by_cases hl : j < ρ.length
  · have hls : j < σ.length := by rw [← r.len]; exact hl
    have get : ∀ (i : Nat) (x : Sl), (ρ.set j (.ow d))[i]? = some x → (i = j ∧ x = .ow d) ∨ (i ≠ j ∧ ρ[i]? = some x) := fun i x e => by
      by_cases hij : j = i
      · subst hij
        rw [List.getElem?_set_self hl] at e
        cases e
        exact .inl ⟨rfl, rfl⟩
      · rw [List.getElem?_set_ne hij] at e
        exact .inr ⟨fun z => hij z.symm, e⟩
    have gσ : ∀ i : Nat, i ≠ j → (σ.set j (some (V.ref a)))[i]? = σ[i]? := fun i h => List.getElem?_set_ne (fun z => h z.symm)
    have gj : (σ.set j (some (V.ref a)))[j]? = some (some (V.ref a)) := List.getElem?_set_self hls
    have cas : ∀ W0 b, Wn W0 (σ.set j (some (.ref a))) (ρ.set j (.ow d)) b → Wn W0 σ ρ b ∨ b = a := fun W0 b q => by
      rcases q with q | ⟨i, d', e1, e2⟩
      · exact .inl (.inl q)
      · rcases get i _ e1 with ⟨h1, h2⟩ | ⟨h1, h2⟩
        · subst h1
          rw [gj] at e2
          cases e2
          exact .inr rfl
        · rw [gσ i h1] at e2
          exact .inl (.inr ⟨i, d', h2, e2⟩)
    have st0 : ∀ W0, Stp H (Wn W0 σ ρ) H1 (Wn W0 (σ.set j (some (.ref a))) (ρ.set j (.ow d))) := fun W0 =>
      ⟨fun b o e n => ⟨s b o e, fun q => (cas W0 b q).elim n (ne_of_none e hn)⟩, fun b q => (cas W0 b q).elim .inl fun z => .inr (z ▸ hn)⟩
    refine ⟨⟨by simpa using r.len, fun i d' e => ?_, fun i d' e => ?_, fun i i' d1 d2 b e1 e2 e3 e4 => ?_, fun b h => ?_⟩, st0 _⟩
    · rcases get i _ e with ⟨h1, h2⟩ | ⟨h1, h2⟩
      · cases h2
      · obtain ⟨v, k1, k2⟩ := r.sh i d' h2
        exact ⟨v, by rw [gσ i h1]; exact k1, R.stp (st0 W0) d' v k2⟩
    · rcases get i _ e with ⟨h1, h2⟩ | ⟨h1, h2⟩
      · cases h2
        subst h1
        exact ⟨a, gj, ho.less (cas W0), fun z => r.trk a z hn⟩
      · obtain ⟨b, k1, k2, k3⟩ := r.ow i d' h2
        exact ⟨b, by rw [gσ i h1]; exact k1, k2.stp (st0 W0) (fun o q => s b o q), k3⟩
    · have key : ∀ (i : Nat) (d' : D), ρ[i]? = some (Sl.ow d') → σ[i]? ≠ some (some (V.ref a)) := fun i d' e z => by
        obtain ⟨b, k1, k2, k3⟩ := r.ow i d' e
        rw [z] at k1
        cases k1
        exact k2.trk hn
      rcases get i _ e1 with ⟨h1, h2⟩ | ⟨h1, h2⟩ <;> rcases get i' _ e2 with ⟨h3, h4⟩ | ⟨h3, h4⟩
      · rw [h1, h3]
      · subst h1
        rw [gj] at e3
        cases e3
        rw [gσ i' h3] at e4
        exact absurd e4 (key i' d2 h4)
      · subst h3
        rw [gj] at e4
        cases e4
        rw [gσ i h1] at e3
        exact absurd e3 (key i d1 h2)
      · rw [gσ i h1] at e3
        rw [gσ i' h3] at e4
        exact r.apart i i' d1 d2 b h2 h4 e3 e4
    · cases e : H b with
      | none => exact absurd e (r.trk b h)
      | some u => rw [s b u e]; simp
  · have e1 : ρ.set j (.ow d) = ρ := List.set_eq_of_length_le (by omega)
    have e2 : σ.set j (some (.ref a)) = σ := List.set_eq_of_length_le (by rw [← r.len]; omega)
    rw [e1, e2]
    exact ⟨r.same s, Stp.of_same s⟩
/-- an owned list, an owned dict is changed -/
theorem Rep.mod (r : Rep K W0 σ H ρ) {i : Nat} {a : Addr} {d d' : D} (hi : ρ[i]? = some (Sl.ow d)) (hs : σ[i]? = some (some (V.ref a))) (hk : ∀ b, b ≠ a → ∀ o, H b = some o → H1 b = some o) (ho : OwnAt K H1 (Wn W0 σ ρ) a d') :
    Rep K W0 σ H1 (ρ.set i (.ow d')) ∧ Stp H (Ow σ ρ) H1 (Ow σ (ρ.set i (.ow d'))) := by
  have hl : i < ρ.length := (List.getElem?_eq_some_iff.mp hi).1
  have get : ∀ (j : Nat) (x : Sl), (ρ.set i (.ow d'))[j]? = some x → (j = i ∧ x = .ow d') ∨ (j ≠ i ∧ ρ[j]? = some x) := fun j x e => by
    by_cases hij : i = j
    · subst hij
      rw [List.getElem?_set_self hl] at e
      cases e
      exact .inl ⟨rfl, rfl⟩
    · rw [List.getElem?_set_ne hij] at e
      exact .inr ⟨fun z => hij z.symm, e⟩
  have cas : ∀ W0 b, Wn W0 σ (ρ.set i (.ow d')) b → Wn W0 σ ρ b := fun W0 b q => by
    rcases q with q | ⟨j, d2, e1, e2⟩
    · exact .inl q
    · rcases get j _ e1 with ⟨h1, h2⟩ | ⟨h1, h2⟩
      · subst h1
        exact .inr ⟨j, d, hi, e2⟩
      · exact .inr ⟨j, d2, h2, e2⟩
  have haO : ∀ W0, Wn W0 σ ρ a := fun W0 => .inr ⟨i, d, hi, hs⟩
  have st0 : ∀ W0, Stp H (Wn W0 σ ρ) H1 (Wn W0 σ (ρ.set i (.ow d'))) := fun W0 =>
    ⟨fun b o e n => ⟨hk b (fun z => n (z ▸ haO W0)) o e, fun q => n (cas W0 b q)⟩, fun b q => .inl (cas W0 b q)⟩
  have ha0 : ¬ W0 a := fun z => by
    obtain ⟨b, k1, k2, k3⟩ := r.ow i d hi
    rw [hs] at k1
    cases k1
    exact k3 z
  refine ⟨⟨by simpa using r.len, fun j d2 e => ?_, fun j d2 e => ?_, fun j j' d1 d2 b e1 e2 e3 e4 => ?_, fun b h => ?_⟩, st0 _⟩
  · rcases get j _ e with ⟨h1, h2⟩ | ⟨h1, h2⟩
    · cases h2
    · obtain ⟨v, k1, k2⟩ := r.sh j d2 h2
      exact ⟨v, k1, R.stp (st0 W0) d2 v k2⟩
  · rcases get j _ e with ⟨h1, h2⟩ | ⟨h1, h2⟩
    · cases h2
      subst h1
      exact ⟨a, hs, ho.less (cas W0), ha0⟩
    · obtain ⟨b, k1, k2, k3⟩ := r.ow j d2 h2
      have hne : b ≠ a := fun z => h1 (r.apart j i d2 d a h2 hi (z ▸ k1) hs)
      exact ⟨b, k1, k2.stp (st0 W0) (fun o q => hk b hne o q), k3⟩
  · rcases get j _ e1 with ⟨h1, h2⟩ | ⟨h1, h2⟩ <;> rcases get j' _ e2 with ⟨h3, h4⟩ | ⟨h3, h4⟩
    · rw [h1, h3]
    · subst h1
      exact r.apart j j' d d2 b hi h4 e3 e4
    · subst h3
      exact r.apart j j' d1 d b h2 hi e3 e4
    · exact r.apart j j' d1 d2 b h2 h4 e3 e4
  · have hne : b ≠ a := fun z => ha0 (z ▸ h)
    cases e : H b with
    | none => exact absurd e (r.trk b h)
    | some u => rw [hk b hne u e]; simp
end
/-! ### answers of statements -/
/-- what a return tells; W': what is owned then -/
def RetOk (K : PySem.W.Frag × World) (fr : Bool) (W0 W' : WS) (H' : Hp) (d : D) (v : V) : Prop := R K H' W0 d v ∧ (fr = true → isBox d = true → ∃ a, v = .ref a ∧ W' a ∧ OwnAt K H' (fun b => W0 b ∨ b = a) a d)
def SR (X : Cx) (Wx : WX) (fr : Bool) (W0 : WS) (σ : L2.St) (H : Hp) (ρ : Rho) (D : Ends) : SO → Prop
  | .next ρ' => ∀ σ' H', Rep (X.K, X.w) W0 σ' H' ρ' → Stp H (Ow σ ρ) H' (Ow σ' ρ') → D.nx σ' H'
  | .brk ρ' => ∀ σ' H', Rep (X.K, X.w) W0 σ' H' ρ' → Stp H (Ow σ ρ) H' (Ow σ' ρ') → D.bk σ' H'
  | .cont ρ' => ∀ σ' H', Rep (X.K, X.w) W0 σ' H' ρ' → Stp H (Ow σ ρ) H' (Ow σ' ρ') → D.ct σ' H'
  | .ret d => ∀ v H' W', Stp H (Ow σ ρ) H' W' → RetOk (X.K, X.w) fr W0 W' H' d v → D.rt v H'
  | .exc c p ρ' => ∀ cls dd σ' H', Rep (X.K, X.w) W0 σ' H' ρ' → Stp H (Ow σ ρ) H' (Ow σ' ρ') → ExcR X c p cls dd H' → Wx cls dd σ' H'
  | .bad => False
def tS (X : Cx) (Wx : WX) (fr : Bool) (ρ : Rho) (o : SO) : TS := fun D σ H => ∃ W0, Rep (X.K, X.w) W0 σ H ρ ∧ SR X Wx fr W0 σ H ρ D o
section
variable {X : Cx} {Wx : WX} {fr : Bool} {W0 : WS} {σ σ1 : L2.St} {H H1 : Hp} {ρ ρ1 ρf : Rho} {D : Ends}
/-- onward from a later state -/
theorem SR.step {o : SO} (h : SR X Wx fr W0 σ H ρ D o) (s : Stp H (Ow σ ρ) H1 (Ow σ1 ρ1)) : SR X Wx fr W0 σ1 H1 ρ1 D o := by
  cases o with
  | next ρ' => exact fun σ' H' r t => h σ' H' r (s.trans t)
  | brk ρ' => exact fun σ' H' r t => h σ' H' r (s.trans t)
  | cont ρ' => exact fun σ' H' r t => h σ' H' r (s.trans t)
  | ret d => exact fun v H' W' t q => h v H' W' (s.trans t) q
  | exc c p ρ' => exact fun cls dd σ' H' r t q => h cls dd σ' H' r (s.trans t) q
  | bad => exact h
/-- an expression within -/
theorem SR.an {α β : Type} {o : Out α} {f : α → SO} {rel : Rel α β} {P : β → Hp → Prop} (r : Rep (X.K, X.w) W0 σ H ρf) (hs : ∀ a, Ow σ ρf a → Ow σ ρ a) (h : SR X Wx fr W0 σ H ρ D (o.toS ρf f))
    (k : ∀ a v H1, Same H H1 → rel H H1 (Wn W0 σ ρf) a v → SR X Wx fr W0 σ H ρ D (f a) → P v H1) : AnW X Wx W0 ρf o rel σ H P := by
  refine ⟨r, ?_⟩
  cases o with
  | ok a => exact fun v H1 s q => k a v H1 s q h
  | exc c p => exact fun cls dd H1 s q => h cls dd σ H1 (r.same s) ((Stp.of_same s).trans (Stp.less hs)) q
  | bad => exact h
theorem SR.bind {o : SO} {f : Rho → SO} {D' : Ends} (h : SR X Wx fr W0 σ H ρ D (o.bind f)) (hb : D'.bk = D.bk) (hc : D'.ct = D.ct) (hr : D'.rt = D.rt)
    (k : ∀ ρ' σ' H', o = .next ρ' → Rep (X.K, X.w) W0 σ' H' ρ' → Stp H (Ow σ ρ) H' (Ow σ' ρ') → SR X Wx fr W0 σ' H' ρ' D (f ρ') → D'.nx σ' H') : SR X Wx fr W0 σ H ρ D' o := by
  cases o with
  | next ρ' => exact fun σ' H' r t => k ρ' σ' H' rfl r t (SR.step h t)
  | brk ρ' => intro σ' H' r t; rw [hb]; exact h σ' H' r t
  | cont ρ' => intro σ' H' r t; rw [hc]; exact h σ' H' r t
  | ret d => intro v H' W' t q; rw [hr]; exact h v H' W' t q
  | exc c p ρ' => exact h
  | bad => exact h
end
end DI
set_option Elab.async false
set_option linter.all false
set_option maxRecDepth 100000
set_option maxHeartbeats 4000000
/-! statements: nodes -/
namespace DI
open PySem PySem.Spec PyProof.Rows L2
section
variable {X : Cx} {Wx : WX} {fr : Bool} {W0 W : WS} {σ σ1 : L2.St} {H H1 : Hp} {ρ ρ1 ρf : Rho} {DD : Ends} {cf : Str → List D → Out D} {k : Nat} {K : PySem.W.Frag × World}
def S3 (cf : Str → List D → Out D) (X : Cx) (Wx : WX) (fr : Bool) (st : Stmt) (c : CS) : Prop := ∀ ρ, PS X st (tS X Wx fr ρ (exec cf fr c ρ))
def Ss3 (cf : Str → List D → Out D) (X : Cx) (Wx : WX) (fr : Bool) (st : List Stmt) (c : CSs) : Prop := ∀ ρ, PSs X st (tS X Wx fr ρ (execs cf fr c ρ))
theorem ss_nil : Ss3 cf X Wx fr [] .nil := fun ρ => PSs.imp pss_nil fun DD σ H ⟨W0, r, h⟩ => h σ H r (Stp.refl _ _)
theorem ss_cons {s : Stmt} {ss : List Stmt} {c : CS} {cs : CSs} (h1 : S3 cf X Wx fr s c) (h2 : Ss3 cf X Wx fr ss cs) : Ss3 cf X Wx fr (s :: ss) (.cons c cs) := fun ρ => by
  have h2' : PSs X ss (fun DD σ H => ∃ ρ, tS X Wx fr ρ (execs cf fr cs ρ) DD σ H) := ⟨fun pins s σ H DD I ⟨ρ, q⟩ => (h2 ρ).run pins s σ H DD I q⟩
  refine PSs.imp (pss_cons (h1 ρ) h2') fun DD σ H ⟨W0, r, h⟩ => ?_
  simp only [execs] at h
  exact ⟨W0, r, SR.bind h rfl rfl rfl fun ρ' σ' H' e r' s h' => ⟨ρ', W0, r', h'⟩⟩
theorem s_pass {pos : Pos} : S3 cf X Wx fr (.Pass pos) .pass := fun ρ => PS.imp ps_pass fun DD σ H ⟨W0, r, h⟩ => h σ H r (Stp.refl _ _)
theorem s_brk {pos : Pos} : S3 cf X Wx fr (.Break pos) .brk := fun ρ => PS.imp ps_break fun DD σ H ⟨W0, r, h⟩ => h σ H r (Stp.refl _ _)
theorem s_cont {pos : Pos} : S3 cf X Wx fr (.Continue pos) .cont := fun ρ => PS.imp ps_continue fun DD σ H ⟨W0, r, h⟩ => h σ H r (Stp.refl _ _)
theorem s_doc {x : Str} {j : Nat} {pos pos' : Pos} : S3 cf X Wx fr (.Expr (.Constant (.str x) j pos) pos') .pass := fun ρ => PS.imp ps_doc fun DD σ H ⟨W0, r, h⟩ => h σ H r (Stp.refl _ _)
theorem frz_rep (r : Rep K W0 σ H ρ) (c : List Nat) : Rep K W0 σ H (frz c ρ) ∧ ∀ a, Ow σ (frz c ρ) a → Ow σ ρ a := Rep.frz c r
/-- a slot given a value: what holds then -/
theorem put_ok {is : List Nat} {i : Nat} {d : D} {v : V} {fresh : Bool} (r : Rep (X.K, X.w) W0 σ H ρ) (s : Same H H1) (hv : if fresh = true then RN (X.K, X.w) H H1 (Wn W0 σ (frz is ρ)) d v else R (X.K, X.w) H1 (Wn W0 σ (frz is ρ)) d v)
    (h : SR X Wx fr W0 σ H ρ DD (.next (putV ρ (frz is ρ) i d fresh))) : DD.nx (σ.set i (some v)) H1 := by
  obtain ⟨rf, hs⟩ := r.frz is
  have hv' : R (X.K, X.w) H1 (Wn W0 σ (frz is ρ)) d v := by
    cases fresh with
    | true => rw [if_pos rfl] at hv; exact hv.1
    | false => rw [if_neg Bool.false_ne_true] at hv; exact hv
  unfold putV at h
  split at h
  · rename_i hf
    exact h _ _ ((r.same s).setSh (j := i) (R.flat hf hv')).1 ((Stp.of_same s).trans (Stp.less wn_setSh))
  · split at h
    · rename_i hb
      rw [Bool.and_eq_true] at hb
      rw [hb.1, if_pos rfl] at hv
      obtain ⟨a, e, hn, ho⟩ := hv.2 hb.2
      subst e
      obtain ⟨r1, s1⟩ := rf.setOw (j := i) s hn ho
      exact h _ _ r1 ((Stp.less hs).trans s1)
    · exact h _ _ ((rf.same s).setSh (j := i) hv').1 ((Stp.of_same s).trans (Stp.less fun a q => hs a (wn_setSh a q)))
/-- e, new or not -/
theorem E3.nv {e : Expr} {c : CE} (h : E3 cf X Wx e c) (ρ : Rho) : PE X e (An X Wx ρ (evalE cf false c ρ) (fun H H' W d v => if freshE c = true then RN (X.K, X.w) H H' W d v else R (X.K, X.w) H' W d v)) := by
  cases hf : freshE c with
  | true => simp only [if_true]; exact h.f hf ρ
  | false => simp only [Bool.false_eq_true, if_false]; exact h.v ρ
theorem tS_set {is : List Nat} {i : Nat} {o : Out D} {b : Bool} {σ : L2.St} {H : Hp} (h : tS X Wx fr ρ (o.toS (frz is ρ) fun d => .next (putV ρ (frz is ρ) i d b)) DD σ H) :
    tAsg (An X Wx (frz is ρ) o (fun H H' W d v => if b = true then RN (X.K, X.w) H H' W d v else R (X.K, X.w) H' W d v)) (gName i) DD σ H := by
  obtain ⟨W0, r, h⟩ := h
  exact ⟨W0, SR.an (r.frz is).1 (r.frz is).2 h fun d v H1 s q h1 => put_ok r s q h1⟩
theorem s_set {i : Nat} {x : Str} {e : Expr} {c : CE} {p pos : Pos} (hN : X.N.Nodup) (hi : X.N[i]? = some x) (hx : Loc X.env.scope x) (he : E3 cf X Wx e c) (hs : swapsWith e (some (.Name x p)) pos.line X.env = pure false) (hf : X.fn x = true ∨ X.env.scope.names.lookup x = some .local) :
    S3 cf X Wx fr (.Assign [.Name x p] e pos) (.set i c) := fun ρ => by
  refine PS.imp (ps_set hN hi hx (he.nv (frz (leakE false c) ρ)) hs hf) fun DD σ H h => ?_
  simp only [exec] at h
  exact tS_set h
theorem s_setT {tg : List Nat} {es : List Expr} {kk : Nat} {e : Expr} {c : CE} {p pos : Pos} (hg : PG X (.Tuple es kk p) (gD X tg true)) (he : E3 cf X Wx e c) (hw : swappedStores [.Tuple es kk p] e X.env = pure none) :
    S3 cf X Wx fr (.Assign [.Tuple es kk p] e pos) (.setT tg c) := fun ρ => by
  have hs : swapsWithSole [.Tuple es kk p] e pos.line X.env = pure false := by
    unfold swapsWithSole swapsWith
    cases e <;> rfl
  refine PS.imp (ps_asg (he.v (frz (leakE false c) ρ)) hg hs hw) fun DD σ H ⟨W0, r, h⟩ => ?_
  simp only [exec] at h
  refine ⟨W0, SR.an (r.frz _).1 (r.frz _).2 h fun d v H1 s q h1 => ?_⟩
  split at h1
  · rename_i ρ' e1
    refine ⟨W0, _, d, ρ', (r.frz _).1.same s, q, e1, fun σ' r' a1 a2 a3 a4 => h1 σ' H1 r' ?_⟩
    refine (Stp.of_same s).trans ?_
    refine ⟨fun a o e n => ⟨e, fun z => ?_⟩, fun a z => ?_⟩
    · have := a1 a z.wn
      rcases wn_cases this with w | w
      · rcases z with z | ⟨j, d', e3, e4⟩
        · exact z
        · obtain ⟨b, k1, k2, k3⟩ := r'.ow j d' e3
          rw [e4] at k1
          cases k1
          exact k3 w
      · exact n ((r.frz _).2 a w)
    · have := a1 a z.wn
      rcases wn_cases this with w | w
      · rcases z with z | ⟨j, d', e3, e4⟩
        · exact z.elim
        · obtain ⟨b, k1, k2, k3⟩ := r'.ow j d' e3
          rw [e4] at k1
          cases k1
          exact (k3 w).elim
      · exact .inl ((r.frz _).2 a w)
  · exact h1.elim
theorem s_exp {e : Expr} {c : CE} {pos : Pos} (he : E3 cf X Wx e c) (hs : swapsWith e none pos.line X.env = pure false) : S3 cf X Wx fr (.Expr e pos) (.exp c) := fun ρ => by
  refine PS.imp (ps_expr (he.v (frz (leakE false c) ρ)) hs) fun DD σ H ⟨W0, r, h⟩ => ?_
  simp only [exec] at h
  exact ⟨W0, SR.an (r.frz _).1 (r.frz _).2 h fun d v H1 s q h1 => h1 σ H1 (r.same s) (Stp.of_same s)⟩
theorem s_iff {c : Expr} {cc : CE} {a b : List Stmt} {ca cb : CSs} {pos : Pos} (hc : T3 cf X Wx c cc) (ha : Ss3 cf X Wx fr a ca) (hb : Ss3 cf X Wx fr b cb) : S3 cf X Wx fr (.If c a b pos) (.iff cc ca cb) := fun ρ => by
  refine PS.imp (ps_if (hc (frz (leakE false cc) ρ)) (ha ρ) (hb ρ)) fun DD σ H ⟨W0, r, h⟩ => ?_
  simp only [exec] at h
  refine ⟨W0, SR.an (r.frz _).1 (r.frz _).2 h fun d v H1 s q h1 => ?_⟩
  subst q
  split <;> rename_i hk
  · rw [if_pos hk] at h1
    exact ⟨W0, r.same s, SR.step h1 (Stp.of_same s)⟩
  · rw [if_neg hk] at h1
    exact ⟨W0, r.same s, SR.step h1 (Stp.of_same s)⟩
theorem s_retN {pos : Pos} : S3 cf X Wx fr (.Return none pos) .retN := fun ρ => PS.imp ps_retN fun DD σ H ⟨W0, r, h⟩ => by
  simp only [exec] at h
  exact h .non H _ (Stp.refl _ _) ⟨by simp only [R], fun _ z => by cases z⟩
theorem wn_w0 {d : D} {v : V} (h : R K H (Wn W0 σ ρ) d v) : R K H W0 d v := R.stp (Stp.less fun a q => .inl q) d v h
/-- return of what is evaluated -/
theorem s_retE {e : Expr} {c : CE} {pos : Pos} (he : E3 cf X Wx e c) (hq : ∀ ρ, exec cf fr (.ret c) ρ = (evalE cf false c (frz (leakE false c) ρ)).toS (frz (leakE false c) ρ) fun d => if fr = true ∧ (isBox d && !freshE c) = true then .bad else .ret d) : S3 cf X Wx fr (.Return (some e) pos) (.ret c) := fun ρ => by
  refine PS.imp (ps_ret (he.nv (frz (leakE false c) ρ))) fun DD σ H ⟨W0, r, h⟩ => ?_
  rw [hq] at h
  refine ⟨W0, SR.an (r.frz _).1 (r.frz _).2 h fun d v H1 s q h1 => ?_⟩
  split at h1
  · exact h1.elim
  · rename_i hb
    have q' : R (X.K, X.w) H1 (Wn W0 σ (frz (leakE false c) ρ)) d v := by
      split at q
      · exact q.1
      · exact q
    cases hd : (freshE c && isBox d) with
    | true =>
      rw [Bool.and_eq_true] at hd
      rw [if_pos hd.1] at q
      obtain ⟨a, ev, hn, ho⟩ := q.2 hd.2
      refine h1 v H1 (fun b => Ow σ ρ b ∨ b = a) ⟨fun b o e n => ⟨s b o e, fun z => z.elim n (ne_of_none e hn)⟩, fun b z => z.elim .inl fun z => .inr (z ▸ hn)⟩ ⟨wn_w0 q', fun _ _ => ⟨a, ev, .inr rfl, ho.less fun b z => z.elim (fun z => .inl (.inl z)) .inr⟩⟩
    | false =>
      refine h1 v H1 _ (Stp.of_same s) ⟨wn_w0 q', fun z1 z2 => ?_⟩
      rw [z2, Bool.and_true] at hd
      exact absurd ⟨z1, by rw [z2, hd]; rfl⟩ hb
theorem s_retV {i : Nat} {x : Str} {p pos : Pos} (hN : X.N[i]? = some x) (hv : Vis X.env.scope x) (hd : (x == ("__debug__" : Str)) = false) (hcd : (x == ("__classdict__" : Str)) = false) (hfr : fr = true) : S3 cf X Wx fr (.Return (some (.Name x p)) pos) (.ret (.var i)) := fun ρ => by
  refine PS.imp (ps_ret (pe_var hN hv hd hcd)) fun DD σ H ⟨W0, r, h⟩ => ?_
  simp only [exec, retV, hfr, if_true] at h
  cases e : ρ[i]? with
  | none => rw [e] at h; exact h.elim
  | some sl =>
    rw [e] at h
    cases sl with
    | un => exact h.elim
    | sh d =>
      obtain ⟨v, h1, h2⟩ := r.sh i d e
      dsimp only at h
      split at h
      · exact h.elim
      · rename_i hb
        exact ⟨v, h1, h v H _ (Stp.refl _ _) ⟨wn_w0 h2, fun _ z => absurd z hb⟩⟩
    | ow d =>
      obtain ⟨a, h1, h2, h3⟩ := r.ow i d e
      exact ⟨.ref a, h1, h _ H _ (Stp.refl _ _) ⟨h2.toR (fun b z => .inl z) h3, fun _ _ => ⟨a, rfl, .inr ⟨i, d, e, h1⟩, h2.less fun b z => z.elim .inl fun z => .inr (z ▸ ⟨i, d, e, h1⟩)⟩⟩⟩
theorem s_ret {e : Expr} {c : CE} {pos : Pos} (he : E3 cf X Wx e c) (hc : fr = false ∨ ∀ i, c ≠ .var i) : S3 cf X Wx fr (.Return (some e) pos) (.ret c) := by
  refine s_retE he fun ρ => ?_
  simp only [exec, retV]
  cases fr with
  | false => simp
  | true =>
    rcases hc with hc | hc
    · cases hc
    · cases c <;> first | exact absurd rfl (hc _) | simp
/-! lists that are added to -/
theorem app_ok {is : List Nat} {i : Nat} {d : D} {v : V} (r : Rep (X.K, X.w) W0 σ H ρ) (s : Same H H1) (hv : R (X.K, X.w) H1 (Wn W0 σ (frz is ρ)) d v) (h : SR X Wx fr W0 σ H ρ DD (appV (keepV ρ (frz is ρ) d) i d)) :
    ∃ a xs, σ[i]? = some (some (V.ref a)) ∧ H1 a = some (.lst xs) ∧ xs.length < 16777216 ∧ DD.nx σ (upd H1 a (.lst (xs ++ [v]))) := by
  obtain ⟨rf, hs⟩ := r.frz is
  have key : ∀ ρ', Rep (X.K, X.w) W0 σ H1 ρ' → (∀ a, Ow σ ρ' a → Ow σ ρ a) → R (X.K, X.w) H1 (Wn W0 σ ρ') d v → SR X Wx fr W0 σ H ρ DD (appV ρ' i d) → ∃ a xs, σ[i]? = some (some (V.ref a)) ∧ H1 a = some (.lst xs) ∧ xs.length < 16777216 ∧ DD.nx σ (upd H1 a (.lst (xs ++ [v]))) := fun ρ' r' hs' hv' h => by
    unfold appV at h
    split at h
    · rename_i ds e
      split at h
      · rename_i hz
        obtain ⟨a, h1, h2, h3⟩ := r'.ow i _ e
        simp only [OwnAt] at h2
        obtain ⟨xs, e1, r1⟩ := h2
        refine ⟨a, xs, h1, e1, by rw [r1.length]; exact hz, ?_⟩
        have hmem : Wn W0 σ ρ' a := .inr ⟨i, _, e, h1⟩
        have st : Stp H1 (Wn W0 σ ρ') (upd H1 a (.lst (xs ++ [v]))) (Wn W0 σ ρ') := ⟨fun b o eb n => ⟨by rw [upd_ne (fun z => n (by rw [z]; exact hmem))]; exact eb, n⟩, fun b z => .inl z⟩
        obtain ⟨q1, q2⟩ := r'.mod (H1 := upd H1 a (.lst (xs ++ [v]))) (d' := .list (ds ++ [d])) e h1 (fun b hb o e => by rw [upd_ne hb]; exact e)
          (by simp only [OwnAt]; exact ⟨_, upd_same, (Rs.stp st _ _ r1).append (Rs.one (R.stp st _ _ hv'))⟩)
        exact h σ _ q1 ((Stp.of_same s).trans ((Stp.less hs').trans q2))
      · exact h.elim
    · exact h.elim
  unfold keepV at h
  split at h
  · rename_i hf
    exact key ρ (r.same s) (fun a z => z) (R.flat hf hv) h
  · exact key _ (rf.same s) hs hv h
theorem isOwL_ok {i : Nat} (r : Rep K W0 σ H ρ) (h : isOwL ρ i = true) : ∃ a xs, σ[i]? = some (some (V.ref a)) ∧ H a = some (.lst xs) := by
  unfold isOwL at h
  split at h
  · rename_i ds e
    obtain ⟨a, h1, h2, h3⟩ := r.ow i _ e
    simp only [OwnAt] at h2
    obtain ⟨xs, e1, r1⟩ := h2
    exact ⟨a, xs, h1, e1⟩
  · cases h
theorem s_app {i : Nat} {x : Str} {e : Expr} {c : CE} {p ap cp pos : Pos} (hN : X.N[i]? = some x) (hv : Vis X.env.scope x) (hd : (x == ("__debug__" : Str)) = false) (hcd : (x == ("__classdict__" : Str)) = false) (he : E3 cf X Wx e c)
    (hbase : attributeBase (.Name x p) "append" X.env (eval (.Name x p) X.env) = eval (.Name x p) X.env) (hline : (ap.endLine == cp.line) = true) (hst : starEach [e] X.env = [(false, eval e X.env)]) :
    S3 cf X Wx fr (.Expr (.Call (.Attribute (.Name x p) "append" ap) [e] [] cp) pos) (.app i c) := fun ρ => by
  refine PS.imp (ps_expr (pe_bm PySem.F.plainAttrs_list PySem.F.slot_list_append PySem.F.type_list_append mt_append (pe_var hN hv hd hcd) (pa_cons (he.v (frz (leakE false c) ρ)) pa_nil hst) hbase (by rw [hst]; rfl) hline hst rfl) rfl) fun DD σ H ⟨W0, r, h⟩ => ?_
  simp only [exec] at h
  obtain ⟨rf, hs⟩ := r.frz (leakE false c)
  split at h
  · rename_i ho
    obtain ⟨a, xs, h1, h2⟩ := isOwL_ok r ho
    refine ⟨.ref a, h1, .inl ⟨rfl, xs, .inl (.inl h2)⟩, W0, SR.an rf hs h fun d v H1 s q h3 => ?_⟩
    obtain ⟨a', xs', e1, e2, e3, e4⟩ := app_ok r s q h3
    rw [h1] at e1
    cases e1
    exact ⟨a, xs', v, rfl, rfl, e2, e3, e4⟩
  · exact h.elim
theorem rn_lst {d : D} {es : List D} {v : V} {W : WS} (h : asL d = some es) (r : RN K H H1 W d v) : ∃ b zs, v = .ref b ∧ H1 b = some (.lst zs) ∧ H b = none ∧ Rs K H1 W es zs := by
  cases d <;> simp [asL] at h
  subst h
  obtain ⟨a, e, hn, ho⟩ := r.2 rfl
  simp only [OwnAt] at ho
  obtain ⟨zs, h1, h2⟩ := ho
  exact ⟨a, zs, e, h1, hn, Rs.stp (Stp.less fun b z => .inl z) _ _ h2⟩
theorem s_ext {i : Nat} {x : Str} {e : Expr} {c : CE} {p ap cp pos : Pos} (hN : X.N[i]? = some x) (hv : Vis X.env.scope x) (hd : (x == ("__debug__" : Str)) = false) (hcd : (x == ("__classdict__" : Str)) = false) (he : E3 cf X Wx e c) (hfe : freshE c = true)
    (hbase : attributeBase (.Name x p) "extend" X.env (eval (.Name x p) X.env) = eval (.Name x p) X.env) (hline : (ap.endLine == cp.line) = true) (hst : starEach [e] X.env = [(false, eval e X.env)]) :
    S3 cf X Wx fr (.Expr (.Call (.Attribute (.Name x p) "extend" ap) [e] [] cp) pos) (.ext i c) := fun ρ => by
  refine PS.imp (ps_expr (pe_bm PySem.F.plainAttrs_list PySem.F.slot_list_extend PySem.F.type_list_extend mt_extend (pe_var hN hv hd hcd) (pa_cons (he.f hfe (frz (leakE false c) ρ)) pa_nil hst) hbase (by rw [hst]; rfl) hline hst rfl) rfl) fun DD σ H ⟨W0, r, h⟩ => ?_
  simp only [exec] at h
  obtain ⟨rf, hs⟩ := r.frz (leakE false c)
  split at h
  · rename_i ho
    obtain ⟨a, xs, h1, h2⟩ := isOwL_ok r ho
    refine ⟨.ref a, h1, .inl ⟨rfl, xs, .inl (.inl h2)⟩, W0, SR.an rf hs h fun d v H1 s q h3 => ?_⟩
    split at h3
    · rename_i es e2
      first | rw [if_pos hfe] at h3 | skip
      obtain ⟨b, zs, rfl, k1, k2, k3⟩ := rn_lst e2 q
      unfold extV at h3
      split at h3
      · rename_i ds e
        split at h3
        · rename_i hz
          have r' := rf.same s
          obtain ⟨a', f1, f2, f3⟩ := r'.ow i _ e
          rw [h1] at f1
          cases f1
          simp only [OwnAt] at f2
          obtain ⟨xs', e1, r1⟩ := f2
          have hne : a ≠ b := fun z => by
            rw [z, k2] at h2
            cases h2
          refine ⟨a, b, xs', zs, rfl, rfl, e1, k1, by rw [r1.length, k3.length]; exact hz, ?_⟩
          have hmem : Wn W0 σ (frz (leakE false c) ρ) a := .inr ⟨i, _, e, h1⟩
          have st : Stp H1 (Wn W0 σ (frz (leakE false c) ρ)) (upd H1 a (.lst (xs' ++ zs))) (Wn W0 σ (frz (leakE false c) ρ)) := ⟨fun b o eb n => ⟨by rw [upd_ne (fun z => n (by rw [z]; exact hmem))]; exact eb, n⟩, fun b z => .inl z⟩
          obtain ⟨q1, q2⟩ := r'.mod (H1 := upd H1 a (.lst (xs' ++ zs))) (d' := .list (ds ++ es)) e h1 (fun b hb o e => by rw [upd_ne hb]; exact e)
            (by simp only [OwnAt]; exact ⟨_, upd_same, (Rs.stp st _ _ r1).append (Rs.stp st _ _ k3)⟩)
          exact h3 σ _ q1 ((Stp.of_same s).trans ((Stp.less hs).trans q2))
        · exact h3.elim
      · exact h3.elim
    · exact h3.elim
  · exact h.elim
end
end DI
set_option Elab.async false
set_option linter.all false
set_option maxRecDepth 100000
set_option maxHeartbeats 4000000
/-! statements: loops, pairs, lists told by name -/
namespace DI
open PySem PySem.Spec PyProof.Rows L2
section
variable {X : Cx} {Wx : WX} {fr : Bool} {W0 W : WS} {σ σ1 σ' : L2.St} {H H1 H' : Hp} {ρ ρ1 ρf ρ' : Rho} {DD : Ends} {cf : Str → List D → Out D} {k : Nat} {K : PySem.W.Frag × World}
theorem ow_of_wn (r' : Rep K W0 σ' H' ρ') (h : ∀ a, Wn W0 σ' ρ' a → Wn W0 σ ρ a) : ∀ a, Ow σ' ρ' a → Ow σ ρ a := fun a z => by
  rcases wn_cases (h a z.wn) with w | w
  · rcases z with z | ⟨j, d', e3, e4⟩
    · exact z.elim
    · obtain ⟨b, k1, k2, k3⟩ := r'.ow j d' e3
      rw [e4] at k1
      cases k1
      exact (k3 w).elim
  · exact w
theorem ss_any {b : List Stmt} {cb : CSs} (hb : Ss3 cf X Wx fr b cb) : PSs X b (fun DD σ H => ∃ ρ, tS X Wx fr ρ (execs cf fr cb ρ) DD σ H) := ⟨fun pins s σ H DD I ⟨ρ, q⟩ => (hb ρ).run pins s σ H DD I q⟩
theorem s_for {tg it : Expr} {b : List Stmt} {tgl : List Nat} {isT : Bool} {ci : CI} {cb : CSs} {pos : Pos} (hp : PassesOwn (model X.prog X.w) X.A X.env X.xe) (hc : X.calm = true) (hi : I3 cf X Wx tg it ci) (hg : PG X tg (gD X tgl isT)) (hb : Ss3 cf X Wx fr b cb)
    (hs : ∀ x, foldedSetIterable it X.env x = pure x) : S3 cf X Wx fr (.For tg it b [] pos) (.for_ tgl isT ci cb) := fun ρ => by
  refine PS.imp (ps_for hp hc (hi (frz (leakI ci) ρ)) hg (ss_any hb) hs) fun DD σ H ⟨W0, r, h⟩ => ?_
  simp only [exec] at h
  generalize hρf : frz (leakI ci) ρ = ρf at h ⊢
  obtain ⟨rf, hsf⟩ := r.frz (leakI ci)
  rw [hρf] at rf hsf
  refine ⟨W0, SR.an rf hsf h fun ds J H1 s feeds h1 => ?_⟩
  have h1 : SR X Wx fr W0 σ H1 ρf DD (forS (setTg tgl isT) (execs cf fr cb) ds ρf) := SR.step h1 ((Stp.of_same s).trans (Stp.less hsf))
  refine ⟨fun i m σ' H' => i ≤ ds.length ∧ m = ds.length - i ∧ ∃ ρ', Rep (X.K, X.w) W0 σ' H' ρ' ∧ Stp H1 (Ow σ ρf) H' (Ow σ' ρ') ∧ SR X Wx fr W0 σ H1 ρf DD (forS (setTg tgl isT) (execs cf fr cb) (ds.drop i) ρ'),
    ⟨ds.length, Nat.zero_le _, rfl, ρf, rf.same s, Stp.refl _ _, h1⟩, fun i m σ' H' hW => ?_⟩
  obtain ⟨hle, hm, ρ', r', st, h2⟩ := hW
  obtain ⟨fe, fs⟩ := feeds H' (Wn W0 σ' ρ') (stp_wn st) r'.wtrk
  by_cases hlt : i < ds.length
  · right
    have e1 : ds[i]? = some ds[i] := List.getElem?_eq_getElem hlt
    obtain ⟨go, yl⟩ := fe i _ e1
    rw [List.drop_eq_getElem_cons hlt] at h2
    refine ⟨go, fun σ2 H2 => ∃ ρ2, Rep (X.K, X.w) W0 σ2 H2 ρ2 ∧ Stp H1 (Ow σ ρf) H2 (Ow σ2 ρ2) ∧ SR X Wx fr W0 σ H1 ρf DD (forS (setTg tgl isT) (execs cf fr cb) (ds.drop (i + 1)) ρ2), fun σ2 H2 ⟨ρ2, n1, n2, n3⟩ => ⟨ds.length - (i + 1), by omega, by omega, rfl, ρ2, n1, n2, n3⟩, fun x H'' hy => ?_⟩
    obtain ⟨s2, rx⟩ := yl x H'' hy
    simp only [forS] at h2
    split at h2
    · rename_i ρ1 e2
      refine ⟨W0, ρ', _, ρ1, r'.same s2, rx, e2, fun σ2 r2 a1 a2 a3 a4 => ⟨ρ1, W0, r2, ?_⟩⟩
      have st2 : Stp H1 (Ow σ ρf) H'' (Ow σ2 ρ1) := (st.trans (Stp.of_same s2)).trans (Stp.less (ow_of_wn r2 a1))
      split at h2
      · rename_i ρ2 e3
        rw [e3]
        exact fun σ3 H3 r3 t3 => ⟨ρ2, r3, st2.trans t3, h2⟩
      · rename_i ρ2 e3
        rw [e3]
        exact fun σ3 H3 r3 t3 => ⟨ρ2, r3, st2.trans t3, h2⟩
      · rename_i ρ2 e3
        rw [e3]
        exact fun σ3 H3 r3 t3 => h2 σ3 H3 r3 (st2.trans t3)
      · rename_i n1 n2 n3
        revert h2
        cases e3 : execs cf fr cb ρ1 with
        | next ρ2 => exact absurd e3 (n1 ρ2)
        | cont ρ2 => exact absurd e3 (n2 ρ2)
        | brk ρ2 => exact absurd e3 (n3 ρ2)
        | ret d => exact fun h2 => SR.step h2 st2
        | exc c p ρ2 => exact fun h2 => SR.step h2 st2
        | bad => exact fun h2 => h2.elim
    · exact h2.elim
  · left
    have e : i = ds.length := by omega
    subst e
    rw [List.drop_length] at h2
    exact ⟨fs, h2 σ' H' r' st⟩
theorem s_whl {n : Nat} {c : Expr} {cc : CE} {b : List Stmt} {cb : CSs} {pos : Pos} (hp : PassesOwn (model X.prog X.w) X.A X.env X.xe) (hc : T3 cf X Wx c cc) (hb : Ss3 cf X Wx fr b cb) : S3 cf X Wx fr (.While c b [] pos) (.whl n cc cb) := fun ρ => by
  have hc' : PT X c (fun σ H Q => ∃ ρ, tB X Wx ρ ((evalE cf false cc ρ).bind fun x => ob (asB x)) σ H Q) := ⟨fun pins s σ H Q I ⟨ρ, q⟩ => (hc ρ).run pins s σ H Q I q⟩
  refine PS.imp (ps_while hp hc' (ss_any hb)) fun DD σ H ⟨W0, r, h⟩ => ?_
  simp only [exec] at h
  refine ⟨fun m σ' H' => ∃ ρ', Rep (X.K, X.w) W0 σ' H' ρ' ∧ SR X Wx fr W0 σ' H' ρ' DD (whS (fun ρ => (evalE cf false cc ρ).bind fun x => ob (asB x)) (frz (leakE false cc)) (execs cf fr cb) m ρ'), ⟨n, ρ, r, h⟩, fun m σ' H' ⟨ρ', r', h2⟩ => ?_⟩
  cases m with
  | zero => exact h2.elim
  | succ m =>
    simp only [whS] at h2
    refine ⟨frz (leakE false cc) ρ', W0, SR.an (r'.frz _).1 (r'.frz _).2 h2 fun d v H1 s q h3 => ?_⟩
    subst q
    split <;> rename_i hk
    · rw [if_pos hk] at h3
      refine ⟨fun σ2 H2 => ∃ ρ2, Rep (X.K, X.w) W0 σ2 H2 ρ2 ∧ SR X Wx fr W0 σ2 H2 ρ2 DD (whS (fun ρ => (evalE cf false cc ρ).bind fun x => ob (asB x)) (frz (leakE false cc)) (execs cf fr cb) m ρ2), fun σ2 H2 q => ⟨m, Nat.lt_succ_self _, q⟩, ρ', W0, r'.same s, ?_⟩
      have h3 := SR.step h3 (Stp.of_same (W := Ow σ' ρ') s)
      split at h3
      · rename_i ρ2 e3
        rw [e3]
        exact fun σ3 H3 r3 t3 => ⟨ρ2, r3, SR.step h3 t3⟩
      · rename_i ρ2 e3
        rw [e3]
        exact fun σ3 H3 r3 t3 => ⟨ρ2, r3, SR.step h3 t3⟩
      · rename_i ρ2 e3
        rw [e3]
        exact h3
      · rename_i n1 n2 n3
        revert h3
        cases e3 : execs cf fr cb ρ' with
        | next ρ2 => exact absurd e3 (n1 ρ2)
        | cont ρ2 => exact absurd e3 (n2 ρ2)
        | brk ρ2 => exact absurd e3 (n3 ρ2)
        | ret d => exact id
        | exc c p ρ2 => exact id
        | bad => exact id
    · rw [if_neg hk] at h3
      exact h3 σ' H1 (r'.same s) (Stp.of_same s)
/-- a, b = x, y -/
theorem s_par {i j : Nat} {x y : Str} {a b : Expr} {ca cb : CE} {px py pt pos : Pos} {kt k2 : Nat} {pt2 : Pos} (hc : X.calm = true) (hN : X.N.Nodup) (hi : X.N[i]? = some x) (hj : X.N[j]? = some y) (hij : i ≠ j)
    (hx : X.env.scope.names.lookup x = some .local) (hy : X.env.scope.names.lookup y = some .local) (ha : E3 cf X Wx a ca) (hb : E3 cf X Wx b cb) (hst : starEach [a, b] X.env = (false, eval a X.env) :: starEach [b] X.env) (hst2 : starEach [b] X.env = [(false, eval b X.env)])
    (hw : swappedStores [.Tuple [.Name x px, .Name y py] kt pt] (.Tuple [a, b] k2 pt2) X.env = pure (some [x, y])) :
    S3 cf X Wx fr (.Assign [.Tuple [.Name x px, .Name y py] kt pt] (.Tuple [a, b] k2 pt2) pos) (.par i j ca cb) := fun ρ => by
  refine PS.imp (ps_par hc hN hi hj hij hx hy (pa_cons (ha.v (frz (leakE false ca ++ leakE false cb) ρ)) (pa_cons (hb.v (frz (leakE false ca ++ leakE false cb) ρ)) pa_nil hst2) hst) hw rfl) fun DD σ H ⟨W0, r, h⟩ => ?_
  simp only [exec] at h
  obtain ⟨rf, hsf⟩ := r.frz (leakE false ca ++ leakE false cb)
  refine ⟨W0, SR.an rf hsf h fun d v H1 s q h1 => ?_⟩
  have h1 := SR.step h1 ((Stp.of_same s).trans (Stp.less (H := H1) hsf))
  refine ⟨W0, SR.an (rf.same s) (fun a z => z) h1 fun d' v' H2 s2 q2 h2 => ?_⟩
  refine ⟨v, v', rfl, ?_⟩
  obtain ⟨k1, k2, k3⟩ := (rf.same (s.trans s2)).setSh (j := i) (R.same s2 q)
  obtain ⟨k4, k5, k6⟩ := k1.setSh (j := j) (R.stp (Stp.less (H := H2) wn_setSh) _ _ q2)
  exact h2 _ _ k4 ((Stp.of_same s2).trans (Stp.less fun a z => wn_setSh a (wn_setSh a z)))
end
end DI
set_option Elab.async false
set_option linter.all false
set_option maxRecDepth 100000
set_option maxHeartbeats 8000000
/-! statements: from the text -/
namespace DI
open PySem PySem.Spec PyProof.Rows L2
def swB (y : Str) (py : Pos) (sc : Scope) : Expr → Bool
  | .ListComp _ _ scope pos => sc.names.lookup y == some .local && py.line == pos.line && !(scope.names.any fun (n, k) => n == y && (k == .local || k == .cell))
  | _ => false
def isLc : Expr → Bool
  | .ListComp _ _ _ _ => true
  | _ => false
def compSs (f : Stmt → Option CS) : List Stmt → Option CSs
  | [] => some .nil
  | s :: ss => (f s).bind fun c => (compSs f ss).bind fun cs => some (.cons c cs)
def isVarC : CE → Bool
  | .var _ => true
  | _ => false
def nmOf : Expr → Option Str
  | .Name x _ => some x
  | _ => none
def compRet (N : List Str) (sc : Scope) (fr : Bool) (f : Expr → Option CE) (e : Expr) : Option CS := if fr = true then match nmOf e with
    | some x => if okNm x && isVis sc x then (slotOf N x).map fun i => .ret (.var i) else (f e).bind fun c => if isVarC c then none else some (.ret c)
    | none => (f e).bind fun c => if isVarC c then none else some (.ret c)
  else (f e).map .ret
def compS (G : GI) (N : List Str) (sc : Scope) (fr : Bool) : Nat → Stmt → Option CS
  | 0, _ => none
  | n + 1, s => match s with
    | .Pass _ => some .pass
    | .Break _ => some .brk
    | .Continue _ => some .cont
    | .Return none _ => some .retN
    | .Return (some e) _ => compRet N sc fr (comp G N n (fun _ => true) sc) e
    | .If c a b _ => (comp G N n (fun _ => true) sc c).bind fun cc => (compSs (compS G N sc fr n) a).bind fun ca => (compSs (compS G N sc fr n) b).bind fun cb => some (.iff cc ca cb)
    | .For tg it b [] _ => (compTg (fun _ => true) N sc tg).bind fun t => (compI (comp G N n (fun _ => true) sc) G sc t.2 it).bind fun ci => (compSs (compS G N sc fr n) b).bind fun cb => some (.for_ t.1 t.2 ci cb)
    | .While c b [] _ => (comp G N n (fun _ => true) sc c).bind fun cc => (compSs (compS G N sc fr n) b).bind fun cb => some (.whl 100000 cc cb)
    | .Assign [.Name x p] e pos => (tg1 (fun _ => true) N sc (.Name x p)).bind fun i => if swB x p sc e && !(sc.names.lookup x == some .local) then none else (comp G N n (fun _ => true) sc e).map (.set i)
    | .Assign [.Tuple es kk p] e pos => (match es, e with
      | [.Name x px, .Name y py], .Tuple [a, b] k2 pt2 => (slotOf N x).bind fun i => (slotOf N y).bind fun j =>
          if i ≠ j ∧ sc.names.lookup x = some .local ∧ sc.names.lookup y = some .local ∧ px.line = py.line ∧ x ≠ y ∧ ([a, b].all (foldedForSure 8)) = false ∧ ([a, b].all (constantsAlone 8)) = false then
            (comp G N n (fun _ => true) sc a).bind fun ca => (comp G N n (fun _ => true) sc b).bind fun cb => some (.par i j ca cb) else none
      | _, _ => if isTup e then none else (tgs (tg1 (fun _ => true) N sc) es).bind fun is => (comp G N n (fun _ => true) sc e).map (.setT is))
    | .Expr e pos => (match e with
      | .Constant (.str _) _ _ => some .pass
      | .Call (.Attribute (.Name x p) m ap) [a] [] cp => if (ap.endLine == cp.line) && okNm x && isVis sc x then
          (if m = ("append" : Str) then (slotOf N x).bind fun i => (comp G N n (fun _ => true) sc a).map (.app i)
          else if m = ("extend" : Str) then (slotOf N x).bind fun i => (comp G N n (fun _ => true) sc a).bind fun c => if freshE c then some (.ext i c) else none
          else none) else none
      | e => if isLc e then none else (comp G N n (fun _ => true) sc e).map .exp)
    | _ => none
structure FitsS (X : Cx) (G : GI) (N : List Str) (sc : Scope) (k : Nat) (cf : Str → List D → Out D) (Wx : WX) : Prop where
  ft : Fits X G (fun _ => true) N sc k cf Wx
  po : PassesOwn (model X.prog X.w) X.A X.env X.xe
  kd : sc.kind = .function
section
variable {X : Cx} {Wx : WX} {fr : Bool} {G : GI} {N : List Str} {sc : Scope} {k : Nat} {cf : Str → List D → Out D} {F : Str → Bool} {n : Nat} {e : Expr} {c : CE}
theorem comp_sw (h : comp G N n F sc e = some c) (hb : X.env.scope = sc) (kd : sc.kind = .function) (y : Str) (py : Pos) (l : Nat) : swapsWith e (some (.Name y py)) l X.env = pure (swB y py sc e) := by
  cases n with
  | zero => exact (comp_zero h).elim
  | succ n =>
    cases e <;> first
      | rfl
      | (unfold comp at h; cases h; done)
      | skip
    have hk : X.env.blockKind = .function := by unfold Env.blockKind; rw [hb, kd]; rfl
    unfold swapsWith swB
    simp only [hk, Env.kindOf, hb, Expr.pos]
    rfl
theorem comp_swN (h : comp G N n F sc e = some c) (hl : isLc e = false) (l : Nat) : swapsWith e none l X.env = pure false := by
  cases n with
  | zero => exact (comp_zero h).elim
  | succ n =>
    cases e <;> first
      | rfl
      | (unfold comp at h; cases h; done)
      | cases hl
theorem ss_none (es : List Expr) (kk : Nat) (p : Pos) (he : isTup e = false) : swappedStores [.Tuple es kk p] e X.env = pure none := by
  cases e <;> first
    | rfl
    | cases he
theorem notVar (h : isVarC c = false) : ∀ i, c ≠ .var i := fun i e => by subst e; cases h
theorem nmOf_some {e : Expr} {x : Str} (h : nmOf e = some x) : ∃ p, e = .Name x p := by
  cases e <;> simp only [nmOf] at h <;> first | cases h | skip
  exact ⟨_, rfl⟩
theorem retN_ok {f : Expr → Option CE} (hf : ∀ e c, f e = some c → E3 cf X Wx e c) {e : Expr} {c : CS} {pos : Pos} (h : ((f e).bind fun c => if isVarC c then none else some (.ret c)) = some c) : S3 cf X Wx fr (.Return (some e) pos) c := by
  obtain ⟨c1, h1, h⟩ := Option.bind_eq_some_iff.mp h
  split at h
  · cases h
  · rename_i hv
    cases h
    exact s_ret (hf _ _ h1) (.inr (notVar (Bool.eq_false_iff.mpr hv)))
theorem compRet_ok (ft : Fits X G (fun _ => true) N sc k cf Wx) {f : Expr → Option CE} (hf : ∀ e c, f e = some c → E3 cf X Wx e c) {e : Expr} {c : CS} {pos : Pos} (h : compRet N sc fr f e = some c) : S3 cf X Wx fr (.Return (some e) pos) c := by
  unfold compRet at h
  split at h
  · rename_i hfr
    split at h
    · rename_i x hx
      obtain ⟨p, rfl⟩ := nmOf_some hx
      split at h
      · rename_i hv
        rw [Bool.and_eq_true] at hv
        obtain ⟨i, h1, h2⟩ := Option.map_eq_some_iff.mp h
        subst h2
        obtain ⟨d1, d2⟩ := okNm_of hv.1
        exact s_retV (by rw [ft.N]; exact slotOf_some h1) (by rw [ft.sc]; exact isVis_vis hv.2) d1 d2 hfr
      · exact retN_ok hf h
    · exact retN_ok hf h
  · rename_i hfr
    obtain ⟨c1, h1, h2⟩ := Option.map_eq_some_iff.mp h
    subst h2
    exact s_ret (hf _ _ h1) (.inl (Bool.eq_false_iff.mpr hfr))
theorem compSs_ok {f : Stmt → Option CS} (hf : ∀ s c, f s = some c → S3 cf X Wx fr s c) : ∀ {ss : List Stmt} {cs : CSs}, compSs f ss = some cs → Ss3 cf X Wx fr ss cs
  | [], cs, h => by
    simp only [compSs, Option.some.injEq] at h
    subst h
    exact ss_nil
  | s :: ss, cs, h => by
    simp only [compSs] at h
    obtain ⟨c, h1, h⟩ := Option.bind_eq_some_iff.mp h
    obtain ⟨cs', h2, h⟩ := Option.bind_eq_some_iff.mp h
    cases h
    exact ss_cons (hf _ _ h1) (compSs_ok hf h2)
/-- name = [..] -/
theorem s_setLc {i : Nat} {x : Str} {e : Expr} {p pos : Pos} (fs : FitsS X G N sc k cf Wx) (h : comp G N n (fun _ => true) sc e = some c) (hi : X.N[i]? = some x) (hl : sc.names.lookup x = some .local) (hs : swB x p sc e = true) :
    S3 cf X Wx fr (.Assign [.Name x p] e pos) (.set i c) := fun ρ => by
  have hsw := comp_sw (X := X) h fs.ft.sc fs.kd x p pos.line
  rw [hs] at hsw
  cases n with
  | zero => exact (comp_zero h).elim
  | succ n =>
  cases e <;> first | cases hs | skip
  rename_i elt gens scope lpos
  have h0 := h
  unfold comp at h
  simp only at h
  split at h
  · rename_i tg iter ifs
    split at h
    · rename_i hb
      obtain ⟨t, h1, h⟩ := Option.bind_eq_some_iff.mp h
      split at h
      · rename_i hsub
        obtain ⟨ci, h2, h⟩ := Option.bind_eq_some_iff.mp h
        obtain ⟨cifs, h4, h⟩ := Option.bind_eq_some_iff.mp h
        obtain ⟨ce, h5, h⟩ := Option.bind_eq_some_iff.mp h
        cases h
        have hfit := fun s H C cl fp => fs.ft.blk s H scope C cl fp
        have h3 : ∀ e c, comp G N n (fun _ => true) sc e = some c → E3 cf X Wx e c := fun e c h => (comp_ok n X Wx _ sc e c fs.ft h).1
        have hsub' : ∀ i ∈ t.1, i ∈ (ownOf N scope).map (·.2) := fun i hi => by
          rw [List.all_eq_true] at hsub
          simpa using hsub i hi
        have hfold := fun x => compI_fold h2 X.env x
        have hok : BlkOk X.N X.env.scope scope (ownOf N scope) := by rw [fs.ft.N, fs.ft.sc]; exact blkOk_by hb
        obtain ⟨wi, g, tt, te, a1, a2, a3, a4, a5⟩ := e_lc (elt := elt) (tg := tg) (pos := lpos) (own := ownOf N scope) (tgl := t.1) (isT := t.2) (ci := ci) (cifs := cifs) (celt := ce) fs.ft.calm fs.ft.nd (compI_ok fs.ft h3 (fun z => compTg_tup h1 z) h2) hok hsub'
          (fun s H C cl fp => compTg_ok (hfit s H C cl fp) h1)
          (fun s H C cl fp ρ => compIf_ok (fun e c h => (comp_ok n _ _ _ _ e c (hfit s H C cl fp) h).2) h4 ρ)
          (fun s H C cl fp ρ => ((comp_ok n _ _ _ _ elt ce (hfit s H C cl fp) h5).1).v ρ) hfold (frz (leakE false (.lc ((ownOf N scope).map (·.2)) t.1 t.2 ci cifs ce)) ρ)
        refine PS.imp (ps_setLc fs.ft.calm fs.ft.nd hi (by rw [fs.ft.sc]; exact hl) hsw a1 hok a2 a3 a4 hfold) fun DD σ H h => ?_
        simp only [exec] at h
        refine a5 σ H _ ?_
        exact tS_set (b := true) h
      · cases h
    · cases h
  · cases h
def isSt : Expr → Bool
  | .Starred .. => true
  | _ => false
theorem comp_st (h : comp G N n F sc e = some c) : isSt e = false := by
  cases n with
  | zero => exact (comp_zero h).elim
  | succ n =>
    cases e <;> first
      | rfl
      | (unfold comp at h; cases h; done)
theorem sw_pair {x y : Str} {px py pt : Pos} {kt k2 : Nat} {a b : Expr} {pt2 : Pos} (hb : X.env.scope = sc) (kd : sc.kind = .function) (hx : sc.names.lookup x = some .local) (hy : sc.names.lookup y = some .local) (hl : px.line = py.line) (hxy : x ≠ y)
    (ha : isSt a = false) (hb2 : isSt b = false) (h1 : ([a, b].all (foldedForSure 8)) = false) (h2 : ([a, b].all (constantsAlone 8)) = false) : swappedStores [.Tuple [.Name x px, .Name y py] kt pt] (.Tuple [a, b] k2 pt2) X.env = pure (some [x, y]) := by
  have hk : X.env.blockKind = .function := by unfold Env.blockKind; rw [hb, kd]; rfl
  have e1 : ([x, y] : List Str).eraseDups = [x, y] := by
    have : (x == y) = false := by simpa using hxy
    have : (y == x) = false := by simpa using fun z => hxy z.symm
    simp [List.eraseDups_cons, this]
  unfold swappedStores
  have e2 : ([a, b].any fun | .Starred .. => true | _ => false) = false := by
    have q : (fun (x : Expr) => match x with | .Starred .. => true | _ => false) = isSt := by
      funext x
      cases x <;> rfl
    rw [q]
    simp [ha, hb2]
  have e3 : ([x, y] : List Str).eraseDups.length = 2 := by rw [e1]; rfl
  simp [hk, Env.kindOf, hb, hx, hy, Expr.pos, hl, h1, h2, e2, e3]
  rintro (q | q)
  · cases a <;> first | (cases ha; done) | (cases q; done)
  · cases b <;> first | (cases hb2; done) | (cases q; done)
theorem compS_ok (fs : FitsS X G N sc k cf Wx) : ∀ (n : Nat) (s : Stmt) (c : CS), compS G N sc fr n s = some c → S3 cf X Wx fr s c := by
  intro n
  induction n with
  | zero => intro s c h; unfold compS at h; cases h
  | succ n ih =>
    intro s c h
    have h3 : ∀ e c, comp G N n (fun _ => true) sc e = some c → E3 cf X Wx e c := fun e c h => (comp_ok n X Wx _ sc e c fs.ft h).1
    have t3 : ∀ e c, comp G N n (fun _ => true) sc e = some c → T3 cf X Wx e c := fun e c h => (comp_ok n X Wx _ sc e c fs.ft h).2
    have Ls : ∀ {ss : List Stmt} {cs : CSs}, compSs (compS G N sc fr n) ss = some cs → Ss3 cf X Wx fr ss cs := fun h => compSs_ok ih h
    unfold compS at h
    split at h
    · cases h; exact s_pass
    · cases h; exact s_brk
    · cases h; exact s_cont
    · cases h; exact s_retN
    · exact compRet_ok fs.ft h3 h
    · obtain ⟨cc, h1, h⟩ := Option.bind_eq_some_iff.mp h
      obtain ⟨ca, h2, h⟩ := Option.bind_eq_some_iff.mp h
      obtain ⟨cb, h4, h⟩ := Option.bind_eq_some_iff.mp h
      cases h
      exact s_iff (t3 _ _ h1) (Ls h2) (Ls h4)
    · obtain ⟨t, h1, h⟩ := Option.bind_eq_some_iff.mp h
      obtain ⟨ci, h2, h⟩ := Option.bind_eq_some_iff.mp h
      obtain ⟨cb, h4, h⟩ := Option.bind_eq_some_iff.mp h
      cases h
      exact s_for fs.po fs.ft.calm (compI_ok fs.ft h3 (fun z => compTg_tup h1 z) h2) (compTg_ok fs.ft h1) (Ls h4) (fun x => compI_fold h2 X.env x)
    · obtain ⟨cc, h1, h⟩ := Option.bind_eq_some_iff.mp h
      obtain ⟨cb, h4, h⟩ := Option.bind_eq_some_iff.mp h
      cases h
      exact s_whl fs.po (t3 _ _ h1) (Ls h4)
    · rename_i x p ee poss
      obtain ⟨i, h1, h⟩ := Option.bind_eq_some_iff.mp h
      split at h
      · cases h
      · rename_i hb
        obtain ⟨c1, h2, h4⟩ := Option.map_eq_some_iff.mp h
        subst h4
        obtain ⟨x', p', e0, a, b, d⟩ := (tg1_ok fs.ft h1).ex
        cases e0
        have hsw := comp_sw (X := X) h2 fs.ft.sc fs.kd x p
        cases hs : swB x p sc ee with
        | false =>
          rw [hs] at hsw
          exact s_set fs.ft.nd a b (h3 _ _ h2) (hsw _) d
        | true =>
          rw [hs, Bool.true_and] at hb
          exact s_setLc fs h2 a (by simpa using hb) hs
    · split at h
      · obtain ⟨i, h1, h⟩ := Option.bind_eq_some_iff.mp h
        obtain ⟨j, h2, h⟩ := Option.bind_eq_some_iff.mp h
        split at h
        · rename_i q
          obtain ⟨q1, q2, q3, q4, q5, q6, q7⟩ := q
          obtain ⟨ca, h4, h⟩ := Option.bind_eq_some_iff.mp h
          obtain ⟨cb, h5, h⟩ := Option.bind_eq_some_iff.mp h
          cases h
          refine s_par fs.ft.calm fs.ft.nd (by rw [fs.ft.N]; exact slotOf_some h1) (by rw [fs.ft.N]; exact slotOf_some h2) q1 (by rw [fs.ft.sc]; exact q2) (by rw [fs.ft.sc]; exact q3) (h3 _ _ h4) (h3 _ _ h5) (comp_star h4 _ _) (comp_star h5 [] _) ?_
          exact sw_pair fs.ft.sc fs.kd q2 q3 q4 q5 (comp_st h4) (comp_st h5) q6 q7
        · cases h
      · split at h
        · cases h
        · rename_i hb
          obtain ⟨is, h1, h⟩ := Option.bind_eq_some_iff.mp h
          obtain ⟨c1, h2, h4⟩ := Option.map_eq_some_iff.mp h
          subst h4
          exact s_setT (g_tup fs.ft.calm fs.ft.nd (tgs_ok fs.ft h1)) (h3 _ _ h2) (ss_none _ _ _ (Bool.eq_false_iff.mpr hb))
    · split at h
      · cases h; exact s_doc
      · split at h
        · rename_i hq
          rw [Bool.and_eq_true, Bool.and_eq_true] at hq
          obtain ⟨d1, d2⟩ := okNm_of hq.1.2
          split at h
          · rename_i hm
            subst hm
            obtain ⟨i, h1, h⟩ := Option.bind_eq_some_iff.mp h
            obtain ⟨c1, h2, h4⟩ := Option.map_eq_some_iff.mp h
            subst h4
            exact s_app (by rw [fs.ft.N]; exact slotOf_some h1) (by rw [fs.ft.sc]; exact isVis_vis hq.2) d1 d2 (h3 _ _ h2) rfl hq.1.1 (comp_star h2 [] _)
          · split at h
            · rename_i hm
              subst hm
              obtain ⟨i, h1, h⟩ := Option.bind_eq_some_iff.mp h
              obtain ⟨c1, h2, h⟩ := Option.bind_eq_some_iff.mp h
              split at h
              · rename_i hf
                cases h
                exact s_ext (by rw [fs.ft.N]; exact slotOf_some h1) (by rw [fs.ft.sc]; exact isVis_vis hq.2) d1 d2 (h3 _ _ h2) hf rfl hq.1.1 (comp_star h2 [] _)
              · cases h
            · cases h
        · cases h
      · split at h
        · cases h
        · rename_i hb
          obtain ⟨c1, h2, h4⟩ := Option.map_eq_some_iff.mp h
          subst h4
          exact s_exp (h3 _ _ h2) (comp_swN h2 (Bool.eq_false_iff.mpr hb) _)
    · cases h
end
end DI
set_option Elab.async false
set_option linter.all false
set_option maxRecDepth 100000
set_option maxHeartbeats 4000000
/-! functions -/
namespace DI
open PySem PySem.Spec PyProof.Rows L2
structure FD where
  nm : Str
  ps : List Str
  N : List Str
  fr : Bool
  body : CSs
def rho0 (fd : FD) (ds : List D) : Rho := ds.map Sl.sh ++ List.replicate (fd.N.length - ds.length) .un
def SO.out : SO → Out D
  | .next _ => .ok .none
  | .ret d => .ok d
  | .exc c p _ => .exc c p
  | _ => .bad
def runF (cf : Str → List D → Out D) (fd : FD) (ds : List D) : Out D := (execs cf fd.fr fd.body (rho0 fd ds)).out
def callF (T : List FD) : Nat → Str → List D → Out D
  | 0, _, _ => .bad
  | k + 1, f, ds => match T.find? (fun fd => fd.nm == f) with
    | some fd => if ds.length = fd.ps.length then runF (callF T k) fd ds else .bad
    | none => .bad
/-- a def of the text stands where its name tells -/
structure DefOk (K : PySem.W.Frag) (mg : Str → Option Value) (G : GI) (fd : FD) : Prop where
  ex : ∃ (f : Addr) (dt : FuncData) (st : Stmt) (qual : Str), mg fd.nm = some (.ref f) ∧ Fun K fd.nm qual st f dt ∧ FnScope fd.N fd.ps (defScope st) ∧ (∀ us : List Value, us.length = fd.ps.length → bindArgs dt ⟨us, []⟩ = pure (fd.ps.zip us)) ∧ compSs (compS G fd.N (defScope st) fd.fr 100) (defBody st) = some fd.body
  db : (fd.nm == ("__debug__" : Str)) = false
section
variable {P : Program} {w : World} {K : PySem.W.Frag} {mg : Str → Option Value} {base : Heap} {T : List FD} {G : GI}
/-- what is known of the module -/
structure ModOk (K : PySem.W.Frag) (w : World) (mg : Str → Option Value) (T : List FD) (G : GI) : Prop where
  consts : ∀ x d, G.consts.lookup x = some d → ∃ u v, mg x = some u ∧ RelV v u ∧ R (K, w) (fun _ => none) (fun _ => False) d v
  blt : ∀ t ∈ G.blt, mg (Str.ofString t) = none
  fns : ∀ x fr ar, G.fns.lookup x = some (fr, ar) → ∃ fd, T.find? (fun fd => fd.nm == x) = some fd ∧ fd.fr = fr ∧ fd.ps.length = ar
  defs : ∀ fd ∈ T, DefOk K mg G fd
theorem wn_rho0 {fd : FD} {ds : List D} {σ : L2.St} {W : WS} : ∀ a, Wn W σ (rho0 fd ds) a → W a := fun a h => by
  rcases h with h | ⟨i, d, e1, e2⟩
  · exact h
  · unfold rho0 at e1
    by_cases hi : i < (ds.map Sl.sh).length
    · rw [List.getElem?_append_left hi, List.getElem?_map] at e1
      obtain ⟨x, h1, h2⟩ := Option.map_eq_some_iff.mp e1
      cases h2
    · rw [List.getElem?_append_right (by omega)] at e1
      have := List.mem_of_getElem? e1
      rw [List.mem_replicate] at this
      cases this.2
theorem rep0 {fd : FD} {ds : List D} {vs : List V} {H : Hp} {W : WS} (tr : ∀ a, W a → H a ≠ none) (r : Rs (K, w) H W ds vs) (hl : ds.length = fd.ps.length) (S : fd.N.take fd.ps.length = fd.ps) : Rep (K, w) W (L2.start fd.N vs) H (rho0 fd ds) := by
  have hvl := r.length
  have ow0 : ∀ (i : Nat) (d : D), (rho0 fd ds)[i]? ≠ some (Sl.ow d) := fun i d e1 => by
    unfold rho0 at e1
    by_cases hi : i < (ds.map Sl.sh).length
    · rw [List.getElem?_append_left hi, List.getElem?_map] at e1
      obtain ⟨x, h1, h2⟩ := Option.map_eq_some_iff.mp e1
      cases h2
    · rw [List.getElem?_append_right (by omega)] at e1
      have := List.mem_of_getElem? e1
      rw [List.mem_replicate] at this
      cases this.2
  refine ⟨?_, fun i d e => ?_, fun i d e => absurd e (ow0 i d), fun i j di dj a e _ _ _ => absurd e (ow0 i di), tr⟩
  · unfold rho0 L2.start
    simp [hvl]
  · unfold rho0 at e
    by_cases hi : i < (ds.map Sl.sh).length
    · rw [List.getElem?_append_left hi, List.getElem?_map] at e
      obtain ⟨x, h1, h2⟩ := Option.map_eq_some_iff.mp e
      cases h2
      obtain ⟨v, h3, h4⟩ := r.get h1
      refine ⟨v, ?_, R.stp (Stp.less wn_rho0) d v h4⟩
      unfold L2.start
      rw [List.length_map] at hi
      rw [List.getElem?_append_left (by simp; omega), List.getElem?_map, h3]
      rfl
    · rw [List.getElem?_append_right (by omega)] at e
      have := List.mem_of_getElem? e
      rw [List.mem_replicate] at this
      cases this.2
theorem fun_look {x qual : Str} {st : Stmt} {f : Addr} {fd : FuncData} (F : Fun K x qual st f fd) : ∃ oc od osl, K.lookup f = some ⟨oc, od, .func fd, osl⟩ := by
  obtain ⟨oc, od, kV, doc, pm, an, cdv, ct, osl, rfl, lk, hcd⟩ := F.ex
  exact ⟨oc, od, osl, lk⟩
theorem lookup_mem {α : Type} {x : Str} {d : α} : ∀ {l : List (Str × α)}, l.lookup x = some d → (x, d) ∈ l
  | [], h => by cases h
  | (y, e) :: l, h => by
    rw [List.lookup_cons] at h
    split at h
    · rename_i hq
      cases h
      rw [LawfulBEq.eq_of_beq hq]
      exact List.mem_cons_self
    · exact List.mem_cons_of_mem _ (lookup_mem h)
theorem fns_ok (M : ModOk K w mg T G) : ∀ (k : Nat) (x : Str) (fd : FD), T.find? (fun fd => fd.nm == x) = some fd →
    ∃ (f : Addr) (dt : FuncData) (ps : List Str), mg x = some (.ref f) ∧ PySem.W.keepIn K (.ref f) = true ∧ Binds K dt ps [] ∧ ps = fd.ps ∧ (∃ oc od osl, K.lookup f = some ⟨oc, od, .func dt, osl⟩) ∧ FnOk P w K mg base (L2.CX P w) (2 * k) f dt ps (spF (K, w) mg fd.ps.length fd.fr (callF T k x)) := by
  intro k
  induction k with
  | zero =>
    intro x fd h
    have hx : fd.nm = x := by simpa using List.find?_some h
    obtain ⟨f, dt, st, qual, h1, h2, h3, h4, h5⟩ := (M.defs fd (List.mem_of_find?_eq_some h)).ex
    refine ⟨f, dt, fd.ps, by rw [← hx]; exact h1, h2.kp, .all h4, rfl, fun_look h2, ⟨fun vs H Q E ⟨W, ds, _, r, hl, _⟩ => by rw [r.length, hl], fun A outer s H args us vs Q E _ _ _ _ q => ?_⟩⟩
    obtain ⟨W, ds, _, r, hl, q⟩ := q
    exact q.elim
  | succ k ih =>
    intro x fd h
    have hx : fd.nm = x := by simpa using List.find?_some h
    obtain ⟨f, dt, st, qual, h1, h2, h3, h4, h5⟩ := (M.defs fd (List.mem_of_find?_eq_some h)).ex
    refine ⟨f, dt, fd.ps, by rw [← hx]; exact h1, h2.kp, .all h4, rfl, fun_look h2, Fun.okX h2 h3 (fun vs H Q E ⟨W, ds, _, r, hl, _⟩ => by rw [r.length, hl]) fun cdv A outer s H vs Q E hr q => ?_⟩
    obtain ⟨W, ds, tr, r, hl, q⟩ := q
    have fs : FitsS (cxOf (L2.CX P w) P w K mg base fd.N qual (defScope st) f cdv A outer s H E) G fd.N (defScope st) (2 * k) (callF T k) (fun cls d _ H => E cls d H) := by
      refine ⟨⟨rfl, rfl, rfl, h3.nd, rfl, hr, takes_of rfl rfl rfl rfl, M.consts, M.blt, fun x' fr ar hx' => ?_⟩, passes_of rfl, h3.kind⟩
      obtain ⟨fd', k1, k2, k3⟩ := M.fns x' fr ar hx'
      obtain ⟨f', dt', ps', g1, g2, g3, g4, _, g5⟩ := ih x' fd' k1
      refine ⟨⟨f', dt', ps', g1, g2, g3, ?_⟩, fun ds hb => ?_, ?_⟩
      · rw [← k2, ← k3]
        exact g5
      · cases k with
        | zero => exact absurd rfl hb
        | succ k =>
          unfold callF at hb
          rw [k1] at hb
          dsimp only at hb
          split at hb
          · rename_i hh
            rw [hh, k3]
          · exact absurd rfl hb
      · have hx2 : fd'.nm = x' := by simpa using List.find?_some k1
        rw [← hx2]
        exact (M.defs fd' (List.mem_of_find?_eq_some k1)).db
    refine ⟨_, compSs_ok (compS_ok fs 100) h5 (rho0 fd ds), W, rep0 tr r hl h3.pre, ?_⟩
    have e0 : callF T (k + 1) x ds = runF (callF T k) fd ds := by
      show (match T.find? (fun fd => fd.nm == x) with
        | some fd => if ds.length = fd.ps.length then runF (callF T k) fd ds else Out.bad
        | none => .bad) = _
      rw [h]
      dsimp only
      rw [if_pos hl]
    rw [e0] at q
    unfold runF at q
    have same : ∀ {H' : Hp} {W' : WS}, Stp H (Ow (L2.start fd.N vs) (rho0 fd ds)) H' W' → Same H H' := fun st b o e => (st.keep b o e (wn_rho0 (W := fun _ => False) b)).1
    revert q
    cases execs (callF T k) fd.fr fd.body (rho0 fd ds) with
    | next ρ' =>
      intro q σ' H' r' st
      refine q .non H' (same st) ?_
      have hR : R (K, w) H' W .none .non := by simp only [R]
      split
      · exact RN.of hR rfl
      · exact hR
    | ret d =>
      intro q v H' W' st ro
      refine q v H' (same st) ?_
      split
      · rename_i hfr
        refine ⟨ro.1, fun hb => ?_⟩
        obtain ⟨a, ev, hw, ho⟩ := ro.2 hfr hb
        exact ⟨a, ev, (st.new a hw).elim (fun z => (wn_rho0 (W := fun _ => False) a z).elim) id, ho⟩
      · exact ro.1
    | exc c p ρ' =>
      intro q cls dd σ' H' r' st ⟨C, e1, e2, e3, e4⟩
      subst e2 e4
      exact q C e1 e3 H' (same st)
    | brk ρ' => exact fun q => q.elim
    | cont ρ' => exact fun q => q.elim
    | bad => exact fun q => q.elim
/-- the law's own function at a script -/
def spL (K : PySem.W.Frag) : Sp := fun vs H Q _ => ∃ (a : Addr) (ns : List Int), vs = [.ref a] ∧ SqL K H a (ns.map V.int) ∧ ns.length ≤ 63 ∧ ∀ H', Q (.bl true) H'
theorem law_ok (M : ModOk K w mg T G) {k : Nat} {fd : FD} (h : T.find? (fun fd => fd.nm == ("law" : Str)) = some fd) {x : Str} (hp : fd.ps = [x]) (hL : ∀ ns : List Int, ns.length ≤ 63 → callF T k "law" [.list (ns.map PyData.int)] = .ok (.bool true)) :
    ∃ (f : Addr) (dt : FuncData), mg ("law" : Str) = some (.ref f) ∧ (∃ oc od osl, K.lookup f = some ⟨oc, od, .func dt, osl⟩) ∧ FnOk P w K mg base (L2.CX P w) (2 * k) f dt [x] (spL K) := by
  obtain ⟨f, dt, ps, h1, h2, h3, h4, h6, h5⟩ := fns_ok (P := P) (base := base) M k "law" fd h
  rw [hp] at h4
  subst h4
  refine ⟨f, dt, h1, h6, h5.imp fun vs H Q E ⟨a, ns, e, hS, hl, q⟩ => ?_⟩
  subst e
  refine ⟨fun _ => False, [.list (ns.map PyData.int)], fun _ z => z.elim, ?_, by rw [hp]; rfl, ?_⟩
  · simp only [Rs, R]
    refine ⟨_, _, rfl, ⟨a, ns.map V.int, rfl, ?_, Rs.ints⟩, rfl⟩
    exact hS.elim (fun z => .inl ⟨z, id⟩) .inr
  · rw [hL ns hl]
    intro v H' s r
    have : v = .bl true := by
      split at r
      · have := r.1; simpa only [R] using this
      · simpa only [R] using r
    rw [this]
    exact q H'
theorem end_ok {l : Program} {h : Heap} {k : Nat} {fd : FD} (M : ModOk K w mg T G) (X : K.In h) (N : h.Ns mainGlobals mg) {fa : Addr} (hmg : mg (Str.ofString "law") = some (.ref fa)) (hf : T.find? (fun fd => fd.nm == Str.ofString "law") = some fd) (hp : fd.ps = [Str.ofString "_law_script"])
    (hL : ∀ ns : List Int, ns.length ≤ 63 → callF T k (Str.ofString "law") [.list (ns.map PyData.int)] = .ok (.bool true)) :
    ∃ dt : FuncData, (∀ (s : Shared) (u : Value), BindsTo s dt ⟨[u], []⟩ [(Str.ofString "_law_script", u)]) ∧ ∀ base : Heap, K.In base → base.Ns mainGlobals mg → FnOk l w K mg base (L2.CX l w) (2 * k) fa dt [Str.ofString "_law_script"] (spL K) := by
  have hx : fd.nm = Str.ofString "law" := by simpa using List.find?_some hf
  obtain ⟨f, dt, st, qual, h1, h2, h3, h4, h5⟩ := (M.defs fd (List.mem_of_find?_eq_some hf)).ex
  rw [hx, hmg] at h1
  cases h1
  refine ⟨dt, fun s u => .of_eq ?_, fun base _ _ => ?_⟩
  · have := h4 [u] (by rw [hp]; rfl)
    rw [hp] at this
    exact this
  · obtain ⟨f, dt', g1, g2, g3⟩ := law_ok (P := l) (base := base) M hf hp hL
    have e1 : f = fa := by
      have := g1.symm.trans hmg
      cases this
      rfl
    subst e1
    have e2 : dt' = dt := by
      obtain ⟨oc, od, osl, q1⟩ := g2
      obtain ⟨oc', od', osl', q2⟩ := fun_look h2
      rw [q1] at q2
      cases q2
      rfl
    subst e2
    exact g3
theorem cx_no {P : Program} {w : World} {H : Hp} {s : Shared} {e : Value} {s' : Shared} (q : L2.CX P w [] H s (fun _ _ _ => False) e s') : False := by
  obtain ⟨_, _, _, _, _, _, _, _, _, _, _, _, z⟩ := q
  exact z.elim
/-- a tuple of texts -/
def isStrV (x : Str) : Value → Bool
  | .str y _ => x == y
  | _ => false
def tupStrs (o : Obj) (xs : List Str) : Bool := (match o.cls with | .type t => t == "tuple" | _ => false) && (match o.data with
  | .seq its _ => decide (its.size = xs.length) && decide (xs.length ≤ 16777216) && (xs.zip its.toList).all (fun p => isStrV p.1 p.2)
  | _ => false)
theorem vals_strs : ∀ (xs : List Str) (us : List Value), us.length = xs.length → (xs.zip us).all (fun p => isStrV p.1 p.2) = true → Vals (xs.map V.str) us
  | [], [], _, _ => .nil
  | x :: xs, u :: us, hl, h => by
    simp only [List.zip_cons_cons, List.all_cons, Bool.and_eq_true] at h
    refine .cons ?_ (vals_strs xs us (by simpa using hl) h.2)
    cases u <;> simp [isStrV] at h
    rename_i y t
    rw [h.1]
    exact ⟨t, rfl⟩
theorem rs_strs {H : Hp} {W : WS} : ∀ (xs : List Str), Rs (K, w) H W (xs.map PyData.str) (xs.map V.str)
  | [] => by simp [Rs]
  | x :: xs => by simp only [List.map_cons, Rs, R]; exact ⟨_, _, rfl, rfl, rs_strs xs⟩
theorem tupStrs_ok {p : Addr} {o : Obj} {xs : List Str} (l : K.lookup p = some o) (h : tupStrs o xs = true) : R (K, w) (fun _ => none) (fun _ => False) (.tuple (xs.map PyData.str)) (.ref p) := by
  unfold tupStrs at h
  rw [Bool.and_eq_true] at h
  obtain ⟨h1, h2⟩ := h
  split at h1
  · rename_i t e1
    split at h2
    · rename_i its n e2
      simp only [Bool.and_eq_true, decide_eq_true_eq] at h2
      simp only [R]
      refine ⟨p, xs.map V.str, rfl, .inr ⟨o, its, n, l, by rw [e1]; simpa using h1, e2, by rw [h2.1.1]; exact h2.1.2, vals_strs _ _ (by simpa using h2.1.1) h2.2⟩, rs_strs xs⟩
    · cases h2
  · cases h1
end
end DI
set_option Elab.async false
set_option linter.all false
set_option maxRecDepth 100000
set_option maxHeartbeats 4000000
/-! plain facts about the small language -/
namespace DI
open PySem PySem.Spec PyProof.Rows L2
def isS : D → Bool
  | .str _ => true
  | _ => false
def isT : D → Bool
  | .tuple _ => true
  | _ => false
def isL : D → Bool
  | .list _ => true
  | _ => false
def isB : D → Bool
  | .bool _ => true
  | _ => false
def isI : D → Bool
  | .int _ => true
  | _ => false
def isDc : D → Bool
  | .dict _ => true
  | _ => false
theorem isi_str (d : D) : isiD d "str" = some (.bool (isS d)) := by cases d <;> rfl
theorem isi_tuple (d : D) : isiD d "tuple" = some (.bool (isT d)) := by cases d <;> rfl
theorem isi_list (d : D) : isiD d "list" = some (.bool (isL d)) := by cases d <;> rfl
theorem isi_bool (d : D) : isiD d "bool" = some (.bool (isB d)) := by cases d <;> rfl
theorem isi_int (d : D) : isiD d "int" = some (.bool (isI d || isB d)) := by cases d <;> rfl
theorem isi_dict (d : D) : isiD d "dict" = some (.bool (isDc d)) := by cases d <;> rfl
theorem atI_mod {α : Type} (xs : List α) {n : Int} (i : Int) (h : n = xs.length) (h0 : 0 < n) : ∃ d, atI xs (i % n) = some d ∧ d ∈ xs := by
  have h1 : 0 ≤ i % n := Int.emod_nonneg _ (by omega)
  have h2 : i % n < n := Int.emod_lt_of_pos _ h0
  have h3 : (i % n).toNat < xs.length := by omega
  refine ⟨xs[(i % n).toNat], ?_, List.getElem_mem _⟩
  unfold atI ixN
  rw [if_pos h1, if_pos (by omega)]
  simp [List.getElem?_eq_getElem h3]
theorem atI_in {α : Type} (xs : List α) {i : Int} (h0 : 0 ≤ i) (h1 : i < xs.length) : ∃ d, atI xs i = some d ∧ d ∈ xs := by
  have h3 : i.toNat < xs.length := by omega
  refine ⟨xs[i.toNat], ?_, List.getElem_mem _⟩
  unfold atI ixN
  rw [if_pos h0, if_pos (by omega)]
  simp [List.getElem?_eq_getElem h3]
theorem bin_mod (i j : Int) (h : 0 < j) : binD .Mod (.int i) (.int j) = some (.int (i % j)) := by simp [binD, guardP, h]
theorem bin_fdiv (i j : Int) (h : 0 < j) (h2 : j.natAbs.log2 < 9000) : binD .FloorDiv (.int i) (.int j) = some (.int (i / j)) := by simp [binD, guardP, h, h2]
theorem forS_inv {set : D → Rho → Out Rho} {f : Rho → SO} (P : Nat → Rho → Prop) : ∀ (ds : List D) (n : Nat) (ρ : Rho), P n ρ → (∀ i d ρ, ds[i]? = some d → P (n + i) ρ → ∃ ρ1 ρ2, set d ρ = .ok ρ1 ∧ (f ρ1 = .next ρ2 ∨ f ρ1 = .cont ρ2) ∧ P (n + i + 1) ρ2) →
    ∃ ρ', forS set f ds ρ = .next ρ' ∧ P (n + ds.length) ρ'
  | [], n, ρ, h0, hs => ⟨ρ, rfl, h0⟩
  | d :: ds, n, ρ, h0, hs => by
    obtain ⟨ρ1, ρ2, e1, e2, h1⟩ := hs 0 d ρ rfl h0
    obtain ⟨ρ', e3, h3⟩ := forS_inv P ds (n + 1) ρ2 h1 fun i d' ρ e h => by
      have := hs (i + 1) d' ρ (by simpa using e) (by rw [show n + (i + 1) = n + 1 + i by omega]; exact h)
      rw [show n + (i + 1) + 1 = n + 1 + i + 1 by omega] at this
      exact this
    refine ⟨ρ', ?_, by rw [List.length_cons, show n + (ds.length + 1) = n + 1 + ds.length by omega]; exact h3⟩
    simp only [forS, e1]
    rcases e2 with e2 | e2 <;> rw [e2] <;> exact e3
theorem forS_inv0 {set : D → Rho → Out Rho} {f : Rho → SO} (P : Nat → Rho → Prop) {ds : List D} {ρ : Rho} (h0 : P 0 ρ) (hs : ∀ i d ρ, ds[i]? = some d → P i ρ → ∃ ρ1 ρ2, set d ρ = .ok ρ1 ∧ (f ρ1 = .next ρ2 ∨ f ρ1 = .cont ρ2) ∧ P (i + 1) ρ2) :
    ∃ ρ', forS set f ds ρ = .next ρ' ∧ P ds.length ρ' := by
  obtain ⟨ρ', h1, h2⟩ := forS_inv P ds 0 ρ h0 fun i d ρ e h => by
    rw [Nat.zero_add] at h ⊢
    exact hs i d ρ e h
  exact ⟨ρ', h1, by rwa [Nat.zero_add] at h2⟩
/-- a loop that ends at the first item that fails a test -/
theorem forS_all {set : D → Rho → Out Rho} {f : Rho → SO} (p : D → Bool) (P : Rho → Prop) (o : SO) (ho : ∀ ρ, o ≠ .next ρ ∧ o ≠ .cont ρ ∧ o ≠ .brk ρ) : ∀ (ds : List D) (ρ : Rho), P ρ → (∀ d ∈ ds, ∀ ρ, P ρ → ∃ ρ1, set d ρ = .ok ρ1 ∧ (if p d = true then ∃ ρ2, f ρ1 = .next ρ2 ∧ P ρ2 else f ρ1 = o)) →
    (ds.all p = true → ∃ ρ', forS set f ds ρ = .next ρ' ∧ P ρ') ∧ (ds.all p = false → forS set f ds ρ = o)
  | [], ρ, h0, hs => ⟨fun _ => ⟨ρ, rfl, h0⟩, fun h => Bool.noConfusion h⟩
  | d :: ds, ρ, h0, hs => by
    obtain ⟨ρ1, e1, e2⟩ := hs d List.mem_cons_self ρ h0
    simp only [forS, e1, List.all_cons]
    cases hp : p d with
    | true =>
      rw [hp, if_pos rfl] at e2
      obtain ⟨ρ2, e2, h2⟩ := e2
      rw [e2, Bool.true_and]
      exact forS_all p P o ho ds ρ2 h2 fun d hd => hs d (List.mem_cons_of_mem _ hd)
    | false =>
      rw [hp, if_neg Bool.false_ne_true] at e2
      rw [e2, Bool.false_and]
      refine ⟨fun h => Bool.noConfusion h, fun _ => ?_⟩
      cases o with
      | next ρ => exact absurd rfl (ho ρ).1
      | cont ρ => exact absurd rfl (ho ρ).2.1
      | brk ρ => exact absurd rfl (ho ρ).2.2
      | ret d => rfl
      | exc c p ρ => rfl
      | bad => rfl
theorem lcLoop_map {f : D → Out (Option D)} {g : D → D} : ∀ (ds : List D), (∀ d ∈ ds, f d = .ok (some (g d))) → lcLoop f ds = .ok (ds.map g)
  | [], _ => rfl
  | d :: ds, h => by
    simp only [lcLoop, h d List.mem_cons_self, lcLoop_map ds fun d hd => h d (List.mem_cons_of_mem _ hd), bind_ok, List.map_cons]
theorem lcLoop_filter {f : D → Out (Option D)} {p : D → Bool} {g : D → D} : ∀ (ds : List D), (∀ d ∈ ds, f d = .ok (if p d = true then some (g d) else none)) → lcLoop f ds = .ok ((ds.filter p).map g)
  | [], _ => rfl
  | d :: ds, h => by
    have ih := lcLoop_filter ds fun d hd => h d (List.mem_cons_of_mem _ hd)
    have h1 := h d List.mem_cons_self
    cases hp : p d with
    | true =>
      rw [hp, if_pos rfl] at h1
      simp only [lcLoop, h1, ih, bind_ok, List.filter_cons, hp, if_true, List.map_cons]
    | false =>
      rw [hp, if_neg Bool.false_ne_true] at h1
      simp only [lcLoop, h1, ih, List.filter_cons, hp, Bool.false_eq_true, if_false]
/-- some answers, one of each item -/
theorem lcLoop_ex {f : D → Out (Option D)} (P : D → Prop) : ∀ (ds : List D), (∀ d ∈ ds, ∃ x, f d = .ok (some x) ∧ P x) → ∃ xs, lcLoop f ds = .ok xs ∧ xs.length = ds.length ∧ ∀ x ∈ xs, P x
  | [], _ => ⟨[], rfl, rfl, fun x h => (List.not_mem_nil h).elim⟩
  | d :: ds, h => by
    obtain ⟨x, e1, h1⟩ := h d List.mem_cons_self
    obtain ⟨xs, e2, hl, h2⟩ := lcLoop_ex P ds fun d hd => h d (List.mem_cons_of_mem _ hd)
    refine ⟨x :: xs, by simp only [lcLoop, e1, e2, bind_ok], by simp [hl], fun y hy => ?_⟩
    rcases List.mem_cons.mp hy with rfl | hy
    · exact h1
    · exact h2 y hy
theorem str_len (x y : Str) : (x ++ y).length = x.length + y.length := by
  show (x.cps ++ y.cps).size = _
  simp [Str.length]
/-! the small language worked step by step: what is to come is left alone -/
theorem ob_some {α : Type} (a : α) : ob (some a) = .ok a := Eq.trans rfl rfl
theorem ob_none {α : Type} : ob (none : Option α) = .bad := Eq.trans rfl rfl
theorem asB_bool (b : Bool) : asB (.bool b) = some b := Eq.trans rfl rfl
theorem asI_int (b : Int) : asI (.int b) = some b := Eq.trans rfl rfl
theorem asL_list (b : List D) : asL (.list b) = some b := Eq.trans rfl rfl
theorem guard_tt {α : Type} (o : Option α) : guardP true o = o := Eq.trans rfl rfl
theorem guard_ff {α : Type} (o : Option α) : guardP false o = none := Eq.trans rfl rfl
theorem frz1_sh (d : D) (ρ : Rho) : frz1 0 (.sh d :: ρ) = .sh d :: ρ := Eq.trans rfl rfl
theorem frz1_un (ρ : Rho) : frz1 0 (.un :: ρ) = .un :: ρ := Eq.trans rfl rfl
theorem frz1_ow (d : D) (ρ : Rho) : frz1 0 (.ow d :: ρ) = .sh d :: ρ := Eq.trans rfl rfl
theorem frz1_succ (s : Sl) (i : Nat) (ρ : Rho) : frz1 (i + 1) (s :: ρ) = s :: frz1 i ρ := by
  unfold frz1
  rw [List.getElem?_cons_succ]
  cases ρ[i]? with
  | none => rfl
  | some x => cases x <;> rfl
theorem putV_nf (ρ : Rho) (i : Nat) (d : D) : putV ρ ρ i d false = ρ.set i (.sh d) := by unfold putV; split <;> simp
theorem putV_int (ρ ρf : Rho) (i : Nat) (n : Int) (b : Bool) : putV ρ ρf i (.int n) b = ρ.set i (.sh (.int n)) := Eq.trans rfl rfl
theorem putV_str (ρ ρf : Rho) (i : Nat) (n : Str) (b : Bool) : putV ρ ρf i (.str n) b = ρ.set i (.sh (.str n)) := Eq.trans rfl rfl
theorem putV_bool (ρ ρf : Rho) (i : Nat) (n : Bool) (b : Bool) : putV ρ ρf i (.bool n) b = ρ.set i (.sh (.bool n)) := Eq.trans rfl rfl
theorem putV_none (ρ ρf : Rho) (i : Nat) (b : Bool) : putV ρ ρf i .none b = ρ.set i (.sh .none) := Eq.trans rfl rfl
theorem putV_tup (ρ ρf : Rho) (i : Nat) (n : List D) (b : Bool) : putV ρ ρf i (.tuple n) b = ρf.set i (.sh (.tuple n)) := by cases b <;> rfl
theorem putV_lst (ρ ρf : Rho) (i : Nat) (n : List D) : putV ρ ρf i (.list n) true = ρf.set i (.ow (.list n)) := Eq.trans rfl rfl
theorem putV_lsf (ρ ρf : Rho) (i : Nat) (n : List D) : putV ρ ρf i (.list n) false = ρf.set i (.sh (.list n)) := Eq.trans rfl rfl
theorem keepV_same (ρ : Rho) (d : D) : keepV ρ ρ d = ρ := by unfold keepV; split <;> rfl
theorem keepV_int (ρ ρf : Rho) (n : Int) : keepV ρ ρf (.int n) = ρ := Eq.trans rfl rfl
theorem keepV_str (ρ ρf : Rho) (n : Str) : keepV ρ ρf (.str n) = ρ := Eq.trans rfl rfl
theorem keepV_tup (ρ ρf : Rho) (n : List D) : keepV ρ ρf (.tuple n) = ρf := Eq.trans rfl rfl
theorem keepV_lst (ρ ρf : Rho) (n : List D) : keepV ρ ρf (.list n) = ρf := Eq.trans rfl rfl
theorem retV_ff (cf : Str → List D → Out D) (e : CE) (ρ : Rho) : retV cf false e ρ = (evalE cf false e (frz (leakE false e) ρ)).toS (frz (leakE false e) ρ) fun d => .ret d := Eq.trans rfl rfl
theorem out_next (ρ : Rho) : SO.out (.next ρ) = .ok .none := Eq.trans rfl rfl
theorem out_ret (d : D) : SO.out (.ret d) = .ok d := Eq.trans rfl rfl
theorem out_exc (c : Str) (p : List D) (ρ : Rho) : SO.out (.exc c p ρ) = .exc c p := Eq.trans rfl rfl
theorem lenL (xs : List D) : biD "len" [.list xs] = some (.int xs.length) := Eq.trans rfl rfl
theorem lenT (xs : List D) : biD "len" [.tuple xs] = some (.int xs.length) := Eq.trans rfl rfl
theorem lenS (x : Str) : biD "len" [.str x] = guardP (szOk x.length) (some (.int x.length)) := Eq.trans rfl rfl
theorem setTg_one (i : Nat) (d : D) (ρ : Rho) : setTg [i] false d ρ = .ok (ρ.set i (.sh d)) := Eq.trans rfl rfl
theorem eqv_int (i j : Int) : PyData.eqv (.int i) (.int j) = decide (i = j) := by simp [PyData.eqv]; rfl
theorem eqv_bool (i j : Bool) : PyData.eqv (.bool i) (.bool j) = (i == j) := Eq.trans rfl rfl
theorem eqv_str (i j : Str) : PyData.eqv (.str i) (.str j) = (i == j) := Eq.trans rfl rfl
theorem shp_int (i : Int) : shp (.int i) = true := Eq.trans rfl rfl
theorem shp_str (i : Str) : shp (.str i) = true := Eq.trans rfl rfl
theorem shp_bool (i : Bool) : shp (.bool i) = true := Eq.trans rfl rfl
theorem shp_none : shp .none = true := Eq.trans rfl rfl
theorem cmp_eq_int (i j : Int) : cmpD .Eq (.int i) (.int j) = some (decide (i = j)) := by simp only [cmpD, shp_int, Bool.and_self, guard_tt, eqv_int]
theorem cmp_ne_int (i j : Int) : cmpD .NotEq (.int i) (.int j) = some (!decide (i = j)) := by simp only [cmpD, shp_int, Bool.and_self, guard_tt, eqv_int]
theorem cmp_eq_bool (i j : Bool) : cmpD .Eq (.bool i) (.bool j) = some (i == j) := Eq.trans rfl rfl
theorem cmp_ne_bool (i j : Bool) : cmpD .NotEq (.bool i) (.bool j) = some (!(i == j)) := Eq.trans rfl rfl
theorem cmp_eq_str (i j : Str) : cmpD .Eq (.str i) (.str j) = some (i == j) := Eq.trans rfl rfl
theorem cmp_ne_str (i j : Str) : cmpD .NotEq (.str i) (.str j) = some (!(i == j)) := Eq.trans rfl rfl
theorem cmp_lt_int (i j : Int) : cmpD .Lt (.int i) (.int j) = some (decide (i < j)) := Eq.trans rfl rfl
theorem cmp_gt_int (i j : Int) : cmpD .Gt (.int i) (.int j) = some (decide (j < i)) := Eq.trans rfl rfl
theorem cmp_le_int (i j : Int) : cmpD .LtE (.int i) (.int j) = some (decide (i ≤ j)) := Eq.trans rfl rfl
theorem cmp_ge_int (i j : Int) : cmpD .GtE (.int i) (.int j) = some (decide (j ≤ i)) := Eq.trans rfl rfl
theorem cmp_in (x y : D) : cmpD .In x y = inD x y := Eq.trans rfl rfl
theorem cmp_nin (x y : D) : cmpD .NotIn x y = (inD x y).map (!·) := Eq.trans rfl rfl
theorem cmp_is (x y : D) : cmpD .Is x y = isD x y := Eq.trans rfl rfl
theorem cmp_isn (x y : D) : cmpD .IsNot x y = (isD x y).map (!·) := Eq.trans rfl rfl
theorem isD_bool (a b : Bool) : isD (.bool a) (.bool b) = some (a == b) := Eq.trans rfl rfl
theorem isD_none (x : D) : isD x .none = some (isNonD x) := by cases x <;> rfl
theorem bin_add (i j : Int) : binD .Add (.int i) (.int j) = some (.int (i + j)) := Eq.trans rfl rfl
theorem bin_sub (i j : Int) : binD .Sub (.int i) (.int j) = some (.int (i - j)) := Eq.trans rfl rfl
theorem bin_adds (i j : Str) : binD .Add (.str i) (.str j) = guardP (szOk (i.length + j.length)) (some (.str (i ++ j))) := Eq.trans rfl rfl
theorem bin_addl (i j : List D) : binD .Add (.list i) (.list j) = guardP (szOk (i.length + j.length)) (some (.list (i ++ j))) := Eq.trans rfl rfl
theorem bin_addt (i j : List D) : binD .Add (.tuple i) (.tuple j) = guardP (szOk (i.length + j.length)) (some (.tuple (i ++ j))) := Eq.trans rfl rfl
theorem ix_list (xs : List D) (i : Int) : ixD (.list xs) (.int i) = atI xs i := Eq.trans rfl rfl
theorem ix_tup (xs : List D) (i : Int) : ixD (.tuple xs) (.int i) = atI xs i := Eq.trans rfl rfl
theorem ix_str (z : Str) (i : Int) : ixD (.str z) (.int i) = guardP (szOk z.length) ((atI z.cps.toList i).map fun c => .str ⟨#[c]⟩) := Eq.trans rfl rfl
theorem items_list (xs : List D) : itemsD (.list xs) = some xs := Eq.trans rfl rfl
theorem items_tup (xs : List D) : itemsD (.tuple xs) = some xs := Eq.trans rfl rfl
theorem items_str (x : Str) : itemsD (.str x) = some (x.cps.toList.map fun c => .str ⟨#[c]⟩) := Eq.trans rfl rfl
theorem notOw_sh (d : D) (ρ : Rho) : notOw (.sh d :: ρ) 0 = true := Eq.trans rfl rfl
theorem notOw_un (ρ : Rho) : notOw (.un :: ρ) 0 = true := Eq.trans rfl rfl
theorem notOw_succ (s : Sl) (ρ : Rho) (i : Nat) : notOw (s :: ρ) (i + 1) = notOw ρ i := by unfold notOw; rw [List.getElem?_cons_succ]
theorem b_beq_true (b : Bool) : (b == true) = b := by cases b <;> rfl
theorem b_beq_false (b : Bool) : (b == false) = !b := by cases b <;> rfl
theorem szl0 : szOk 0 = true := by decide
theorem szl1 : szOk 1 = true := by decide
theorem szl2 : szOk 2 = true := by decide
theorem szl3 : szOk 3 = true := by decide
theorem szl4 : szOk 4 = true := by decide
theorem szl5 : szOk 5 = true := by decide
theorem szl6 : szOk 6 = true := by decide
theorem szl7 : szOk 7 = true := by decide
theorem szl8 : szOk 8 = true := by decide
theorem szl9 : szOk 9 = true := by decide
theorem szl10 : szOk 10 = true := by decide
theorem szl11 : szOk 11 = true := by decide
theorem szl12 : szOk 12 = true := by decide
theorem szl13 : szOk 13 = true := by decide
theorem szl14 : szOk 14 = true := by decide
theorem szl15 : szOk 15 = true := by decide
theorem szl16 : szOk 16 = true := by decide
end DI
set_option Elab.async false
set_option linter.all false
set_option maxRecDepth 100000
set_option maxHeartbeats 4000000
/-! the small language worked step by step, from within -/
namespace DI
open PySem PySem.Spec PyProof.Rows L2
section
variable (cf : Str → List D → Out D) (fr : Bool)
def kSeq (ss : CSs) (o : SO) : SO := o.bind (execs cf fr ss)
def kSet (i : Nat) (b : Bool) (ρ ρf : Rho) (o : Out D) : SO := o.toS ρf fun d => .next (putV ρ ρf i d b)
def kSetT (tg : List Nat) (ρf : Rho) (o : Out D) : SO := o.toS ρf fun d => match setTg tg true d ρf with
  | .ok ρ' => .next ρ'
  | _ => .bad
def kNx (o : Out Rho) : SO := match o with
  | .ok ρ' => .next ρ'
  | _ => .bad
def kExp (ρ ρf : Rho) (o : Out D) : SO := o.toS ρf fun d => .next ρ
def kApp (i : Nat) (ρ ρf : Rho) (o : Out D) : SO := o.toS ρf fun d => appV (keepV ρ ρf d) i d
def kExt (i : Nat) (b : Bool) (ρf : Rho) (o : Out D) : SO := o.toS ρf fun d => match asL d with
  | some es => if b = true then extV ρf i es else .bad
  | none => .bad
def kRet (ρf : Rho) (o : Out D) : SO := o.toS ρf fun d => .ret d
def kIf (a b : CSs) (ρ ρf : Rho) (o : Out Bool) : SO := o.toS ρf fun k => if k = true then execs cf fr a ρ else execs cf fr b ρ
def kFor (tg : List Nat) (isT : Bool) (b : CSs) (ρf : Rho) (o : Out (List D)) : SO := o.toS ρf fun ds => forS (setTg tg isT) (execs cf fr b) ds ρf
def kTst (o : Out D) : Out Bool := o.bind fun x => ob (asB x)
def kOut (o : SO) : Out D := o.out
theorem execs_nil (ρ : Rho) : execs cf fr .nil ρ = .next ρ := Eq.trans rfl rfl
theorem execs_cons (s : CS) (ss : CSs) (ρ : Rho) : execs cf fr (.cons s ss) ρ = kSeq cf fr ss (exec cf fr s ρ) := Eq.trans rfl rfl
theorem kSeq_next (ss : CSs) (ρ : Rho) : kSeq cf fr ss (.next ρ) = execs cf fr ss ρ := Eq.trans rfl rfl
theorem kSeq_ret (ss : CSs) (d : D) : kSeq cf fr ss (.ret d) = .ret d := Eq.trans rfl rfl
theorem kSeq_exc (ss : CSs) (c : Str) (p : List D) (ρ : Rho) : kSeq cf fr ss (.exc c p ρ) = .exc c p ρ := Eq.trans rfl rfl
theorem kSeq_brk (ss : CSs) (ρ : Rho) : kSeq cf fr ss (.brk ρ) = .brk ρ := Eq.trans rfl rfl
theorem kSeq_cont (ss : CSs) (ρ : Rho) : kSeq cf fr ss (.cont ρ) = .cont ρ := Eq.trans rfl rfl
theorem x_set (i : Nat) (e : CE) (ρ : Rho) : exec cf fr (.set i e) ρ = kSet i (freshE e) ρ (frz (leakE false e) ρ) (evalE cf false e (frz (leakE false e) ρ)) := Eq.trans rfl rfl
theorem kSet_ok (i : Nat) (b : Bool) (ρ ρf : Rho) (d : D) : kSet i b ρ ρf (.ok d) = .next (putV ρ ρf i d b) := Eq.trans rfl rfl
theorem kSet_exc (i : Nat) (b : Bool) (ρ ρf : Rho) (c : Str) (p : List D) : kSet i b ρ ρf (.exc c p) = .exc c p ρf := Eq.trans rfl rfl
theorem x_setT (tg : List Nat) (e : CE) (ρ : Rho) : exec cf fr (.setT tg e) ρ = kSetT tg (frz (leakE false e) ρ) (evalE cf false e (frz (leakE false e) ρ)) := Eq.trans rfl rfl
theorem kSetT_ok (tg : List Nat) (ρf : Rho) (d : D) : kSetT tg ρf (.ok d) = kNx (setTg tg true d ρf) := Eq.trans rfl rfl
theorem kNx_ok (ρ : Rho) : kNx (.ok ρ) = .next ρ := Eq.trans rfl rfl
theorem x_exp (e : CE) (ρ : Rho) : exec cf fr (.exp e) ρ = kExp ρ (frz (leakE false e) ρ) (evalE cf false e (frz (leakE false e) ρ)) := Eq.trans rfl rfl
theorem kExp_ok (ρ ρf : Rho) (d : D) : kExp ρ ρf (.ok d) = .next ρ := Eq.trans rfl rfl
theorem kExp_exc (ρ ρf : Rho) (c : Str) (p : List D) : kExp ρ ρf (.exc c p) = .exc c p ρf := Eq.trans rfl rfl
theorem x_app (i : Nat) (e : CE) (ρ : Rho) (h : isOwL ρ i = true) : exec cf fr (.app i e) ρ = kApp i ρ (frz (leakE false e) ρ) (evalE cf false e (frz (leakE false e) ρ)) := by
  simp only [exec, h, if_true]; rfl
theorem kApp_ok (i : Nat) (ρ ρf : Rho) (d : D) : kApp i ρ ρf (.ok d) = appV (keepV ρ ρf d) i d := Eq.trans rfl rfl
theorem x_ext (i : Nat) (e : CE) (ρ : Rho) (h : isOwL ρ i = true) : exec cf fr (.ext i e) ρ = kExt i (freshE e) (frz (leakE false e) ρ) (evalE cf false e (frz (leakE false e) ρ)) := by
  simp only [exec, h, if_true]; rfl
theorem kExt_ok (i : Nat) (ρf : Rho) (ds : List D) : kExt i true ρf (.ok (.list ds)) = extV ρf i ds := Eq.trans rfl rfl
theorem x_ret (e : CE) (ρ : Rho) : exec cf false (.ret e) ρ = kRet (frz (leakE false e) ρ) (evalE cf false e (frz (leakE false e) ρ)) := Eq.trans rfl rfl
theorem kRet_ok (ρf : Rho) (d : D) : kRet ρf (.ok d) = .ret d := Eq.trans rfl rfl
theorem kRet_exc (ρf : Rho) (c : Str) (p : List D) : kRet ρf (.exc c p) = .exc c p ρf := Eq.trans rfl rfl
theorem x_retN (ρ : Rho) : exec cf fr .retN ρ = .ret .none := Eq.trans rfl rfl
theorem x_iff (c : CE) (a b : CSs) (ρ : Rho) : exec cf fr (.iff c a b) ρ = kIf cf fr a b ρ (frz (leakE false c) ρ) (kTst (evalE cf false c (frz (leakE false c) ρ))) := Eq.trans rfl rfl
theorem kTst_ok (b : Bool) : kTst (.ok (.bool b)) = .ok b := Eq.trans rfl rfl
theorem kTst_exc (c : Str) (p : List D) : kTst (.exc c p) = .exc c p := Eq.trans rfl rfl
theorem kIf_tt (a b : CSs) (ρ ρf : Rho) : kIf cf fr a b ρ ρf (.ok true) = execs cf fr a ρ := Eq.trans rfl rfl
theorem kIf_ff (a b : CSs) (ρ ρf : Rho) : kIf cf fr a b ρ ρf (.ok false) = execs cf fr b ρ := Eq.trans rfl rfl
theorem x_for (tg : List Nat) (isT : Bool) (it : CI) (b : CSs) (ρ : Rho) : exec cf fr (.for_ tg isT it b) ρ = kFor cf fr tg isT b (frz (leakI it) ρ) (evalI cf it (frz (leakI it) ρ)) := Eq.trans rfl rfl
theorem kFor_ok (tg : List Nat) (isT : Bool) (b : CSs) (ρf : Rho) (ds : List D) : kFor cf fr tg isT b ρf (.ok ds) = forS (setTg tg isT) (execs cf fr b) ds ρf := Eq.trans rfl rfl
theorem x_pass (ρ : Rho) : exec cf fr .pass ρ = .next ρ := Eq.trans rfl rfl
theorem x_brk (ρ : Rho) : exec cf fr .brk ρ = .brk ρ := Eq.trans rfl rfl
theorem x_cont (ρ : Rho) : exec cf fr .cont ρ = .cont ρ := Eq.trans rfl rfl
theorem x_whl (n : Nat) (c : CE) (b : CSs) (ρ : Rho) : exec cf fr (.whl n c b) ρ = whS (fun ρ => kTst (evalE cf false c ρ)) (frz (leakE false c)) (execs cf fr b) n ρ := Eq.trans rfl rfl
def kPar1 (i j : Nat) (b : CE) (ρf : Rho) (o : Out D) : SO := o.toS ρf fun d => (evalE cf false b ρf).toS ρf fun d' => .next ((ρf.set i (.sh d)).set j (.sh d'))
def kPar2 (i j : Nat) (d : D) (ρf : Rho) (o : Out D) : SO := o.toS ρf fun d' => .next ((ρf.set i (.sh d)).set j (.sh d'))
theorem x_par (i j : Nat) (a b : CE) (ρ : Rho) : exec cf fr (.par i j a b) ρ = kPar1 cf i j b (frz (leakE false a ++ leakE false b) ρ) (evalE cf false a (frz (leakE false a ++ leakE false b) ρ)) := Eq.trans rfl rfl
theorem kPar1_ok (i j : Nat) (b : CE) (ρf : Rho) (d : D) : kPar1 cf i j b ρf (.ok d) = kPar2 i j d ρf (evalE cf false b ρf) := Eq.trans rfl rfl
theorem kPar2_ok (i j : Nat) (ρf : Rho) (d d' : D) : kPar2 i j d ρf (.ok d') = .next ((ρf.set i (.sh d)).set j (.sh d')) := Eq.trans rfl rfl
/-! expressions -/
def kLook (pk : Bool) (s : Option Sl) : Out D := match s with | some (.sh d) => .ok d | some (.ow d) => if pk = true then .ok d else .bad | _ => .bad
theorem kLook_sh (pk : Bool) (d : D) : kLook pk (some (.sh d)) = .ok d := Eq.trans rfl rfl
theorem kLook_ow (d : D) : kLook true (some (.ow d)) = .ok d := Eq.trans rfl rfl
theorem e_cst (pk : Bool) (d : D) (ρ : Rho) : evalE cf pk (.cst d) ρ = .ok d := Eq.trans rfl rfl
theorem e_glo (pk : Bool) (d : D) (ρ : Rho) : evalE cf pk (.gl d) ρ = .ok d := Eq.trans rfl rfl
theorem ev_var (pk : Bool) (i : Nat) (ρ : Rho) : evalE cf pk (.var i) ρ = kLook pk ρ[i]? := by cases pk <;> exact Eq.trans rfl rfl
def kTup (o : Out (List D)) : Out D := o.bind fun ds => ob (guardP (szOk ds.length) (some (.tuple ds)))
def kLst (o : Out (List D)) : Out D := o.bind fun ds => ob (guardP (szOk ds.length) (some (.list ds)))
theorem ev_tup (pk : Bool) (es : CL) (ρ : Rho) : evalE cf pk (.tup es) ρ = kTup (evalL cf es ρ) := by cases pk <;> exact Eq.trans rfl rfl
theorem ev_lst (pk : Bool) (es : CL) (ρ : Rho) : evalE cf pk (.lst es) ρ = kLst (evalL cf es ρ) := by cases pk <;> exact Eq.trans rfl rfl
theorem kTup_ok (ds : List D) : kTup (.ok ds) = ob (guardP (szOk ds.length) (some (.tuple ds))) := Eq.trans rfl rfl
theorem kLst_ok (ds : List D) : kLst (.ok ds) = ob (guardP (szOk ds.length) (some (.list ds))) := Eq.trans rfl rfl
theorem ev_dic (pk : Bool) (ρ : Rho) : evalE cf pk .dic0 ρ = .ok (.dict []) := by cases pk <;> exact Eq.trans rfl rfl
def kBin1 (op : Operator) (b : CE) (ρ : Rho) (o : Out D) : Out D := o.bind fun x => (evalE cf true b ρ).bind fun y => ob (binD op x y)
def kBin2 (op : Operator) (x : D) (o : Out D) : Out D := o.bind fun y => ob (binD op x y)
theorem ev_bin (pk : Bool) (op : Operator) (a b : CE) (ρ : Rho) : evalE cf pk (.bin op a b) ρ = kBin1 cf op b ρ (evalE cf true a ρ) := by cases pk <;> exact Eq.trans rfl rfl
theorem kBin1_ok (op : Operator) (b : CE) (ρ : Rho) (x : D) : kBin1 cf op b ρ (.ok x) = kBin2 op x (evalE cf true b ρ) := Eq.trans rfl rfl
theorem kBin2_ok (op : Operator) (x y : D) : kBin2 op x (.ok y) = ob (binD op x y) := Eq.trans rfl rfl
def kNeg (o : Out D) : Out D := o.bind fun x => (ob (asI x)).bind fun i => .ok (.int (-i))
theorem ev_neg (pk : Bool) (a : CE) (ρ : Rho) : evalE cf pk (.neg a) ρ = kNeg (evalE cf true a ρ) := by cases pk <;> exact Eq.trans rfl rfl
theorem kNeg_ok (i : Int) : kNeg (.ok (.int i)) = .ok (.int (-i)) := Eq.trans rfl rfl
def kCmp1 (op : CmpOp) (b : CE) (ρ : Rho) (o : Out D) : Out D := o.bind fun x => (evalE cf true b ρ).bind fun y => (ob (cmpD op x y)).bind fun c => .ok (.bool c)
def kCmp2 (op : CmpOp) (x : D) (o : Out D) : Out D := o.bind fun y => (ob (cmpD op x y)).bind fun c => .ok (.bool c)
def kBl (o : Option Bool) : Out D := (ob o).bind fun c => .ok (.bool c)
theorem ev_cmp (pk : Bool) (op : CmpOp) (a b : CE) (ρ : Rho) : evalE cf pk (.cmp op a b) ρ = kCmp1 cf op b ρ (evalE cf true a ρ) := by cases pk <;> exact Eq.trans rfl rfl
theorem kCmp1_ok (op : CmpOp) (b : CE) (ρ : Rho) (x : D) : kCmp1 cf op b ρ (.ok x) = kCmp2 op x (evalE cf true b ρ) := Eq.trans rfl rfl
theorem kCmp2_ok (op : CmpOp) (x y : D) : kCmp2 op x (.ok y) = kBl (cmpD op x y) := Eq.trans rfl rfl
theorem kBl_some (b : Bool) : kBl (some b) = .ok (.bool b) := Eq.trans rfl rfl
def kCh1 (o1 o2 : CmpOp) (b c : CE) (ρ : Rho) (o : Out D) : Out D := o.bind fun x => (evalE cf true b ρ).bind fun y => (ob (cmpD o1 x y)).bind fun k => if k = true then (evalE cf true c ρ).bind fun z => (ob (cmpD o2 y z)).bind fun c => .ok (.bool c) else .ok (.bool false)
def kCh2 (o1 o2 : CmpOp) (x : D) (c : CE) (ρ : Rho) (o : Out D) : Out D := o.bind fun y => (ob (cmpD o1 x y)).bind fun k => if k = true then (evalE cf true c ρ).bind fun z => (ob (cmpD o2 y z)).bind fun c => .ok (.bool c) else .ok (.bool false)
def kCh3 (o2 : CmpOp) (y : D) (c : CE) (ρ : Rho) (o : Option Bool) : Out D := (ob o).bind fun k => if k = true then (evalE cf true c ρ).bind fun z => (ob (cmpD o2 y z)).bind fun c => .ok (.bool c) else .ok (.bool false)
theorem ev_chn (pk : Bool) (o1 o2 : CmpOp) (a b c : CE) (ρ : Rho) : evalE cf pk (.chn o1 o2 a b c) ρ = kCh1 cf o1 o2 b c ρ (evalE cf true a ρ) := by cases pk <;> exact Eq.trans rfl rfl
theorem kCh1_ok (o1 o2 : CmpOp) (b c : CE) (ρ : Rho) (x : D) : kCh1 cf o1 o2 b c ρ (.ok x) = kCh2 cf o1 o2 x c ρ (evalE cf true b ρ) := Eq.trans rfl rfl
theorem kCh2_ok (o1 o2 : CmpOp) (x : D) (c : CE) (ρ : Rho) (y : D) : kCh2 cf o1 o2 x c ρ (.ok y) = kCh3 cf o2 y c ρ (cmpD o1 x y) := Eq.trans rfl rfl
theorem kCh3_tt (o2 : CmpOp) (y : D) (c : CE) (ρ : Rho) : kCh3 cf o2 y c ρ (some true) = kCmp2 o2 y (evalE cf true c ρ) := Eq.trans rfl rfl
theorem kCh3_ff (o2 : CmpOp) (y : D) (c : CE) (ρ : Rho) : kCh3 cf o2 y c ρ (some false) = .ok (.bool false) := Eq.trans rfl rfl
def kAnd (b : CE) (ρ : Rho) (o : Out Bool) : Out D := o.bind fun k => if k = true then evalE cf false b ρ else .ok (.bool false)
def kOr (b : CE) (ρ : Rho) (o : Out Bool) : Out D := o.bind fun k => if k = true then .ok (.bool true) else evalE cf false b ρ
def kNot (o : Out Bool) : Out D := o.bind fun k => .ok (.bool !k)
def kIfe (a b : CE) (ρ : Rho) (o : Out Bool) : Out D := o.bind fun k => if k = true then evalE cf false a ρ else evalE cf false b ρ
theorem bind_tst {β : Type} (o : Out D) (f : Bool → Out β) : (o.bind fun x => (ob (asB x)).bind f) = (kTst o).bind f := by
  cases o <;> rfl
theorem ev_and (pk : Bool) (a b : CE) (ρ : Rho) : evalE cf pk (.and_ a b) ρ = kAnd cf b ρ (kTst (evalE cf false a ρ)) := by cases pk <;> simp only [evalE, kAnd, bind_tst]
theorem ev_or (pk : Bool) (a b : CE) (ρ : Rho) : evalE cf pk (.or_ a b) ρ = kOr cf b ρ (kTst (evalE cf false a ρ)) := by cases pk <;> simp only [evalE, kOr, bind_tst]
theorem ev_not (pk : Bool) (a : CE) (ρ : Rho) : evalE cf pk (.not_ a) ρ = kNot (kTst (evalE cf false a ρ)) := by cases pk <;> simp only [evalE, kNot, bind_tst]
theorem ev_ife (pk : Bool) (c a b : CE) (ρ : Rho) : evalE cf pk (.ife c a b) ρ = kIfe cf a b ρ (kTst (evalE cf false c ρ)) := by cases pk <;> simp only [evalE, kIfe, bind_tst]
theorem kAnd_tt (b : CE) (ρ : Rho) : kAnd cf b ρ (.ok true) = evalE cf false b ρ := Eq.trans rfl rfl
theorem kAnd_ff (b : CE) (ρ : Rho) : kAnd cf b ρ (.ok false) = .ok (.bool false) := Eq.trans rfl rfl
theorem kOr_tt (b : CE) (ρ : Rho) : kOr cf b ρ (.ok true) = .ok (.bool true) := Eq.trans rfl rfl
theorem kOr_ff (b : CE) (ρ : Rho) : kOr cf b ρ (.ok false) = evalE cf false b ρ := Eq.trans rfl rfl
theorem kNot_ok (b : Bool) : kNot (.ok b) = .ok (.bool !b) := Eq.trans rfl rfl
theorem kIfe_tt (a b : CE) (ρ : Rho) : kIfe cf a b ρ (.ok true) = evalE cf false a ρ := Eq.trans rfl rfl
theorem kIfe_ff (a b : CE) (ρ : Rho) : kIfe cf a b ρ (.ok false) = evalE cf false b ρ := Eq.trans rfl rfl
def kCall (f : Str) (o : Out (List D)) : Out D := o.bind fun ds => cf f ds
theorem ev_call (pk : Bool) (f : Str) (b : Bool) (es : CL) (ρ : Rho) : evalE cf pk (.call f b es) ρ = kCall cf f (evalL cf es ρ) := by cases pk <;> exact Eq.trans rfl rfl
theorem kCall_ok (f : Str) (ds : List D) : kCall cf f (.ok ds) = cf f ds := Eq.trans rfl rfl
def kBi (f : String) (o : Out (List D)) : Out D := o.bind fun ds => ob (biD f ds)
theorem ev_bi (pk : Bool) (f : String) (es : CL) (ρ : Rho) : evalE cf pk (.bi f es) ρ = kBi f (evalPL cf es ρ) := by cases pk <;> exact Eq.trans rfl rfl
theorem kBi_ok (f : String) (ds : List D) : kBi f (.ok ds) = ob (biD f ds) := Eq.trans rfl rfl
def kIsi (t : String) (o : Out D) : Out D := o.bind fun x => ob (isiD x t)
theorem ev_isi (pk : Bool) (a : CE) (t : String) (ρ : Rho) : evalE cf pk (.isi a t) ρ = kIsi t (evalE cf true a ρ) := by cases pk <;> exact Eq.trans rfl rfl
theorem kIsi_ok (t : String) (d : D) : kIsi t (.ok d) = ob (isiD d t) := Eq.trans rfl rfl
def kIx1 (b : CE) (ρ : Rho) (o : Out D) : Out D := o.bind fun x => (evalE cf true b ρ).bind fun y => ob (ixD x y)
def kIx2 (x : D) (o : Out D) : Out D := o.bind fun y => ob (ixD x y)
theorem ev_ix (pk : Bool) (a b : CE) (ρ : Rho) : evalE cf pk (.ix a b) ρ = kIx1 cf b ρ (evalE cf true a ρ) := by cases pk <;> exact Eq.trans rfl rfl
theorem kIx1_ok (b : CE) (ρ : Rho) (x : D) : kIx1 cf b ρ (.ok x) = kIx2 x (evalE cf true b ρ) := Eq.trans rfl rfl
theorem kIx2_ok (x y : D) : kIx2 x (.ok y) = ob (ixD x y) := Eq.trans rfl rfl
def kSl1 (lo hi : CO) (ρ : Rho) (o : Out D) : Out D := o.bind fun x => (evalO cf lo ρ).bind fun l => (evalO cf hi ρ).bind fun h => ob (slcD x l h)
def kSl2 (hi : CO) (x : D) (ρ : Rho) (o : Out (Option Int)) : Out D := o.bind fun l => (evalO cf hi ρ).bind fun h => ob (slcD x l h)
def kSl3 (x : D) (l : Option Int) (o : Out (Option Int)) : Out D := o.bind fun h => ob (slcD x l h)
theorem ev_slc (pk : Bool) (a : CE) (lo hi : CO) (ρ : Rho) : evalE cf pk (.slc a lo hi) ρ = kSl1 cf lo hi ρ (evalE cf true a ρ) := by cases pk <;> exact Eq.trans rfl rfl
theorem kSl1_ok (lo hi : CO) (ρ : Rho) (x : D) : kSl1 cf lo hi ρ (.ok x) = kSl2 cf hi x ρ (evalO cf lo ρ) := Eq.trans rfl rfl
theorem kSl2_ok (hi : CO) (x : D) (ρ : Rho) (l : Option Int) : kSl2 cf hi x ρ (.ok l) = kSl3 x l (evalO cf hi ρ) := Eq.trans rfl rfl
theorem kSl3_ok (x : D) (l h : Option Int) : kSl3 x l (.ok h) = ob (slcD x l h) := Eq.trans rfl rfl
theorem eo_no (ρ : Rho) : evalO cf .no ρ = .ok none := Eq.trans rfl rfl
def kOi (o : Out D) : Out (Option Int) := o.bind fun x => (ob (asI x)).bind fun i => .ok (some i)
theorem eo_so (e : CE) (ρ : Rho) : evalO cf (.so e) ρ = kOi (evalE cf false e ρ) := Eq.trans rfl rfl
theorem kOi_ok (i : Int) : kOi (.ok (.int i)) = .ok (some i) := Eq.trans rfl rfl
theorem et_no (ρ : Rho) : evalT cf .no ρ = .ok true := Eq.trans rfl rfl
theorem et_so (e : CE) (ρ : Rho) : evalT cf (.so e) ρ = kTst (evalE cf false e ρ) := Eq.trans rfl rfl
def kL1 (es : CL) (ρ : Rho) (o : Out D) : Out (List D) := o.bind fun x => (evalL cf es ρ).bind fun xs => .ok (x :: xs)
def kL2 (x : D) (o : Out (List D)) : Out (List D) := o.bind fun xs => .ok (x :: xs)
theorem el_nil (ρ : Rho) : evalL cf .nil ρ = .ok [] := Eq.trans rfl rfl
theorem el_cons (e : CE) (es : CL) (ρ : Rho) : evalL cf (.cons e es) ρ = kL1 cf es ρ (evalE cf false e ρ) := Eq.trans rfl rfl
theorem kL1_ok (es : CL) (ρ : Rho) (x : D) : kL1 cf es ρ (.ok x) = kL2 x (evalL cf es ρ) := Eq.trans rfl rfl
theorem kL2_ok (x : D) (xs : List D) : kL2 x (.ok xs) = .ok (x :: xs) := Eq.trans rfl rfl
def kP1 (es : CL) (ρ : Rho) (o : Out D) : Out (List D) := o.bind fun x => (evalPL cf es ρ).bind fun xs => .ok (x :: xs)
theorem ep_nil (ρ : Rho) : evalPL cf .nil ρ = .ok [] := Eq.trans rfl rfl
theorem ep_cons (e : CE) (es : CL) (ρ : Rho) : evalPL cf (.cons e es) ρ = kP1 cf es ρ (evalE cf true e ρ) := Eq.trans rfl rfl
theorem kP1_ok (es : CL) (ρ : Rho) (x : D) : kP1 cf es ρ (.ok x) = kL2 x (evalPL cf es ρ) := Eq.trans rfl rfl
def kRev (o : Out D) : Out D := o.bind fun x => (ob (asSq x)).bind fun xs => .ok (.list xs.reverse)
theorem ev_rev (pk : Bool) (a : CE) (ρ : Rho) : evalE cf pk (.rev a) ρ = kRev (evalE cf true a ρ) := by cases pk <;> exact Eq.trans rfl rfl
theorem kRev_ok (xs : List D) : kRev (.ok (.list xs)) = .ok (.list xs.reverse) := Eq.trans rfl rfl
def kSrt (f : Str) (o : Out D) : Out D := o.bind fun x => (ob (asSq x)).bind fun xs => (mapD (cf f) xs).bind fun ks => ob (guardP (srtOk ks) (some (.list (srtK xs ks))))
def kSr2 (xs : List D) (o : Out (List D)) : Out D := o.bind fun ks => ob (guardP (srtOk ks) (some (.list (srtK xs ks))))
theorem ev_srt (pk : Bool) (f : Str) (a : CE) (ρ : Rho) : evalE cf pk (.srt f a) ρ = kSrt cf f (evalE cf true a ρ) := by cases pk <;> exact Eq.trans rfl rfl
theorem kSrt_ok (f : Str) (xs : List D) : kSrt cf f (.ok (.list xs)) = kSr2 xs (mapD (cf f) xs) := Eq.trans rfl rfl
theorem kSr2_ok (xs ks : List D) : kSr2 xs (.ok ks) = ob (guardP (srtOk ks) (some (.list (srtK xs ks)))) := Eq.trans rfl rfl
/-! what is walked -/
def kIt (o : Out D) : Out (List D) := o.bind fun x => ob (itemsD x)
theorem ei_val (e : CE) (ρ : Rho) : evalI cf (.val e) ρ = kIt (evalE cf false e ρ) := Eq.trans rfl rfl
theorem kIt_ok (d : D) : kIt (.ok d) = ob (itemsD d) := Eq.trans rfl rfl
def kR1 (o : Out D) : Out (List D) := o.bind fun x => (ob (asI x)).bind fun i => ob (rngD 0 i)
theorem ei_rng1 (e : CE) (ρ : Rho) : evalI cf (.rng1 e) ρ = kR1 (evalE cf false e ρ) := Eq.trans rfl rfl
theorem kR1_ok (i : Int) : kR1 (.ok (.int i)) = ob (rngD 0 i) := Eq.trans rfl rfl
def kR2 (b : CE) (ρ : Rho) (o : Out D) : Out (List D) := o.bind fun x => (evalE cf false b ρ).bind fun y => (ob (asI x)).bind fun i => (ob (asI y)).bind fun j => ob (rngD i j)
def kR3 (i : Int) (o : Out D) : Out (List D) := o.bind fun y => (ob (asI y)).bind fun j => ob (rngD i j)
theorem ei_rng2 (a b : CE) (ρ : Rho) : evalI cf (.rng2 a b) ρ = kR2 cf b ρ (evalE cf false a ρ) := Eq.trans rfl rfl
theorem kR2_ok (b : CE) (ρ : Rho) (i : Int) : kR2 cf b ρ (.ok (.int i)) = kR3 i (evalE cf false b ρ) := Eq.trans rfl rfl
theorem kR3_ok (i j : Int) : kR3 i (.ok (.int j)) = ob (rngD i j) := Eq.trans rfl rfl
def kZ1 (b : CE) (ρ : Rho) (o : Out D) : Out (List D) := o.bind fun x => (evalE cf false b ρ).bind fun y => ob (zipD x y)
def kZ2 (x : D) (o : Out D) : Out (List D) := o.bind fun y => ob (zipD x y)
theorem ei_zip (a b : CE) (ρ : Rho) : evalI cf (.zip a b) ρ = kZ1 cf b ρ (evalE cf false a ρ) := Eq.trans rfl rfl
theorem kZ1_ok (b : CE) (ρ : Rho) (x : D) : kZ1 cf b ρ (.ok x) = kZ2 x (evalE cf false b ρ) := Eq.trans rfl rfl
theorem kZ2_ok (x y : D) : kZ2 x (.ok y) = ob (zipD x y) := Eq.trans rfl rfl
/-! comprehensions: one item -/
def lcOne (tg : List Nat) (isT : Bool) (ifs : CO) (elt : CE) (ρ : Rho) (d : D) : Out (Option D) := (setTg tg isT d ρ).bind fun ρ' => (evalT cf ifs ρ').bind fun k => if k = true then (evalE cf false elt ρ').bind fun x => .ok (some x) else .ok none
def kLc (tg : List Nat) (isT : Bool) (ifs : CO) (elt : CE) (ρ : Rho) (o : Out (List D)) : Out D := o.bind fun ds => (lcLoop (lcOne cf tg isT ifs elt ρ) ds).bind fun r => ob (guardP (szOk ds.length) (some (.list r)))
def kLe (n : Nat) (o : Out (List D)) : Out D := o.bind fun r => ob (guardP (szOk n) (some (.list r)))
theorem ev_lc (pk : Bool) (own tg : List Nat) (isT : Bool) (it : CI) (ifs : CO) (elt : CE) (ρ : Rho) : evalE cf pk (.lc own tg isT it ifs elt) ρ = if (own.all (notOw ρ)) = true then kLc cf tg isT ifs elt (wipeR ρ own) (evalI cf it ρ) else .bad := by cases pk <;> exact Eq.trans rfl rfl
theorem kLc_ok (tg : List Nat) (isT : Bool) (ifs : CO) (elt : CE) (ρ : Rho) (ds : List D) : kLc cf tg isT ifs elt ρ (.ok ds) = kLe ds.length (lcLoop (lcOne cf tg isT ifs elt ρ) ds) := Eq.trans rfl rfl
theorem kLe_ok (n : Nat) (r : List D) : kLe n (.ok r) = ob (guardP (szOk n) (some (.list r))) := Eq.trans rfl rfl
def kOne (elt : CE) (ρ : Rho) (o : Out Bool) : Out (Option D) := o.bind fun k => if k = true then (evalE cf false elt ρ).bind fun x => .ok (some x) else .ok none
def kSm (o : Out D) : Out (Option D) := o.bind fun x => .ok (some x)
theorem lcOne_1 (i : Nat) (ifs : CO) (elt : CE) (ρ : Rho) (d : D) : lcOne cf [i] false ifs elt ρ d = kOne cf elt (ρ.set i (.sh d)) (evalT cf ifs (ρ.set i (.sh d))) := Eq.trans rfl rfl
theorem kOne_tt (elt : CE) (ρ : Rho) : kOne cf elt ρ (.ok true) = kSm (evalE cf false elt ρ) := Eq.trans rfl rfl
theorem kOne_ff (elt : CE) (ρ : Rho) : kOne cf elt ρ (.ok false) = .ok none := Eq.trans rfl rfl
theorem kSm_ok (x : D) : kSm (.ok x) = .ok (some x) := Eq.trans rfl rfl
end
def kF1 (set : D → Rho → Out Rho) (f : Rho → SO) (ds : List D) (o : Out Rho) : SO := match o with
  | .ok ρ1 => match f ρ1 with
    | .next ρ2 => forS set f ds ρ2
    | .cont ρ2 => forS set f ds ρ2
    | .brk ρ2 => .next ρ2
    | o => o
  | _ => .bad
def kF2 (set : D → Rho → Out Rho) (f : Rho → SO) (ds : List D) (o : SO) : SO := match o with
    | .next ρ2 => forS set f ds ρ2
    | .cont ρ2 => forS set f ds ρ2
    | .brk ρ2 => .next ρ2
    | o => o
theorem forS_nil (set : D → Rho → Out Rho) (f : Rho → SO) (ρ : Rho) : forS set f [] ρ = .next ρ := Eq.trans rfl rfl
theorem forS_cons (set : D → Rho → Out Rho) (f : Rho → SO) (d : D) (ds : List D) (ρ : Rho) : forS set f (d :: ds) ρ = kF1 set f ds (set d ρ) := Eq.trans rfl rfl
theorem kF1_ok (set : D → Rho → Out Rho) (f : Rho → SO) (ds : List D) (ρ : Rho) : kF1 set f ds (.ok ρ) = kF2 set f ds (f ρ) := Eq.trans rfl rfl
theorem kF2_next (set : D → Rho → Out Rho) (f : Rho → SO) (ds : List D) (ρ : Rho) : kF2 set f ds (.next ρ) = forS set f ds ρ := Eq.trans rfl rfl
theorem kF2_cont (set : D → Rho → Out Rho) (f : Rho → SO) (ds : List D) (ρ : Rho) : kF2 set f ds (.cont ρ) = forS set f ds ρ := Eq.trans rfl rfl
theorem kF2_brk (set : D → Rho → Out Rho) (f : Rho → SO) (ds : List D) (ρ : Rho) : kF2 set f ds (.brk ρ) = .next ρ := Eq.trans rfl rfl
theorem kF2_ret (set : D → Rho → Out Rho) (f : Rho → SO) (ds : List D) (d : D) : kF2 set f ds (.ret d) = .ret d := Eq.trans rfl rfl
theorem kF2_exc (set : D → Rho → Out Rho) (f : Rho → SO) (ds : List D) (c : Str) (p : List D) (ρ : Rho) : kF2 set f ds (.exc c p ρ) = .exc c p ρ := Eq.trans rfl rfl
def isOw : Sl → Bool
  | .ow _ => true
  | _ => false
theorem isOw_sh (d : D) : isOw (.sh d) = false := Eq.trans rfl rfl
theorem isOw_un : isOw .un = false := Eq.trans rfl rfl
theorem frz1_no (l : Sl) (ρ : Rho) (h : isOw l = false) : frz1 0 (l :: ρ) = l :: ρ := by cases l <;> first | rfl | cases h
theorem notOw_no (l : Sl) (ρ : Rho) (h : isOw l = false) : notOw (l :: ρ) 0 = true := by cases l <;> first | rfl | cases h
theorem appV_ok (ρ : Rho) (i : Nat) (d : D) (ds : List D) (h : ρ[i]? = some (.ow (.list ds))) (hl : ds.length < 16777216) : appV ρ i d = .next (ρ.set i (.ow (.list (ds ++ [d])))) := by
  simp only [appV, h, hl, if_true]
theorem extV_ok (ρ : Rho) (i : Nat) (es ds : List D) (h : ρ[i]? = some (.ow (.list ds))) (hl : ds.length + es.length ≤ 16777216) : extV ρ i es = .next (ρ.set i (.ow (.list (ds ++ es)))) := by
  simp only [extV, h, hl, if_true]
theorem isOwL_0 (ds : List D) (ρ : Rho) : isOwL (.ow (.list ds) :: ρ) 0 = true := Eq.trans rfl rfl
theorem isOwL_s (s : Sl) (ρ : Rho) (i : Nat) : isOwL (s :: ρ) (i + 1) = isOwL ρ i := by unfold isOwL; rw [List.getElem?_cons_succ]
end DI
set_option Elab.async false
set_option linter.all false
set_option maxRecDepth 100000
set_option maxHeartbeats 4000000
/-! plain facts: simple data, order, sorting -/
namespace DI
open PySem PySem.Spec PyProof.Rows L2
mutual
/-- texts, whole numbers, tuples and lists of these -/
def smp : D → Bool
  | .int _ => true
  | .str _ => true
  | .tuple ds => smps ds
  | .list ds => smps ds
  | _ => false
def smps : List D → Bool
  | [] => true
  | d :: ds => smp d && smps ds
end
mutual
theorem eqv_smp : ∀ (d e : D), smp d = true → smp e = true → PyData.eqv d e = true → d = e
  | .int i, .int j, _, _, h => by
    simp [PyData.eqv] at h
    rw [h]
  | .str x, .str y, _, _, h => by
    simp [PyData.eqv] at h
    rw [h]
  | .tuple ds, .tuple es, h1, h2, h => by
    rw [eqv_smps ds es (by simpa [smp] using h1) (by simpa [smp] using h2) (by simpa [PyData.eqv] using h)]
  | .list ds, .list es, h1, h2, h => by
    rw [eqv_smps ds es (by simpa [smp] using h1) (by simpa [smp] using h2) (by simpa [PyData.eqv] using h)]
  | .int _, .str _, _, _, h => by simp [PyData.eqv] at h
  | .int _, .tuple _, _, _, h => by simp [PyData.eqv] at h
  | .int _, .list _, _, _, h => by simp [PyData.eqv] at h
  | .str _, .int _, _, _, h => by simp [PyData.eqv] at h
  | .str _, .tuple _, _, _, h => by simp [PyData.eqv] at h
  | .str _, .list _, _, _, h => by simp [PyData.eqv] at h
  | .tuple _, .int _, _, _, h => by simp [PyData.eqv] at h
  | .tuple _, .str _, _, _, h => by simp [PyData.eqv] at h
  | .tuple _, .list _, _, _, h => by simp [PyData.eqv] at h
  | .list _, .int _, _, _, h => by simp [PyData.eqv] at h
  | .list _, .str _, _, _, h => by simp [PyData.eqv] at h
  | .list _, .tuple _, _, _, h => by simp [PyData.eqv] at h
  | .none, _, h1, _, _ => by simp [smp] at h1
  | .bool _, _, h1, _, _ => by simp [smp] at h1
  | .dict _, _, h1, _, _ => by simp [smp] at h1
  | _, .none, _, h2, _ => by simp [smp] at h2
  | _, .bool _, _, h2, _ => by simp [smp] at h2
  | _, .dict _, _, h2, _ => by simp [smp] at h2
theorem eqv_smps : ∀ (ds es : List D), smps ds = true → smps es = true → PyData.eqvAll ds es = true → ds = es
  | [], [], _, _, _ => rfl
  | d :: ds, e :: es, h1, h2, h => by
    simp only [smps, Bool.and_eq_true] at h1 h2
    simp only [PyData.eqvAll, Bool.and_eq_true] at h
    rw [eqv_smp d e h1.1 h2.1 h.1, eqv_smps ds es h1.2 h2.2 h.2]
  | [], _ :: _, _, _, h => by simp [PyData.eqvAll] at h
  | _ :: _, [], _, _, h => by simp [PyData.eqvAll] at h
end
mutual
theorem eqv_rfl : ∀ (d : D), smp d = true → PyData.eqv d d = true
  | .int i, _ => by simp [PyData.eqv]
  | .str x, _ => by simp [PyData.eqv]
  | .tuple ds, h => by simp only [PyData.eqv]; exact eqv_rfls ds (by simpa [smp] using h)
  | .list ds, h => by simp only [PyData.eqv]; exact eqv_rfls ds (by simpa [smp] using h)
  | .none, h => by simp [smp] at h
  | .bool _, h => by simp [smp] at h
  | .dict _, h => by simp [smp] at h
theorem eqv_rfls : ∀ (ds : List D), smps ds = true → PyData.eqvAll ds ds = true
  | [], _ => by simp [PyData.eqvAll]
  | d :: ds, h => by
    simp only [smps, Bool.and_eq_true] at h
    simp only [PyData.eqvAll, Bool.and_eq_true]
    exact ⟨eqv_rfl d h.1, eqv_rfls ds h.2⟩
end
theorem eqv_iff {d e : D} (h1 : smp d = true) (h2 : smp e = true) : PyData.eqv d e = true ↔ d = e := ⟨eqv_smp d e h1 h2, fun h => by subst h; exact eqv_rfl d h1⟩
mutual
theorem plain_smp : ∀ (d : D), smp d = true → d.plain = true
  | .int i, _ => rfl
  | .str x, _ => rfl
  | .tuple ds, h => by simp only [PyData.plain]; exact plain_smps ds (by simpa [smp] using h)
  | .list ds, h => by simp only [PyData.plain]; exact plain_smps ds (by simpa [smp] using h)
  | .none, h => by simp [smp] at h
  | .bool _, h => by simp [smp] at h
  | .dict _, h => by simp [smp] at h
theorem plain_smps : ∀ (ds : List D), smps ds = true → PyData.plainAll ds = true
  | [], _ => rfl
  | d :: ds, h => by
    simp only [smps, Bool.and_eq_true] at h
    simp only [PyData.plainAll, Bool.and_eq_true]
    exact ⟨plain_smp d h.1, plain_smps ds h.2⟩
end
theorem smps_all {ds : List D} : smps ds = true ↔ ∀ d ∈ ds, smp d = true := by
  induction ds with
  | nil => simp [smps]
  | cons d ds ih => simp [smps, ih]
theorem depth_all {ds : List D} {n : Nat} (h : ∀ d ∈ ds, d.depth ≤ n) : PyData.depthAll ds ≤ n := by
  induction ds with
  | nil => simp [PyData.depthAll]
  | cons d ds ih =>
    simp only [PyData.depthAll]
    exact Nat.max_le.mpr ⟨h d List.mem_cons_self, ih fun e he => h e (List.mem_cons_of_mem _ he)⟩
theorem shp_smp {d : D} (h : smp d = true) (hd : d.depth ≤ 60) : shp d = true := by
  unfold shp
  rw [plain_smp d h]
  simpa using hd
/-! order -/
theorem dlt_irr (x : D) : PySem.W.dataLt x x = false := PyProof.Rows.lex_irrefl _
theorem dlt_eqv {x y : D} (h : PySem.W.alike x y = true) (h1 : PySem.W.dataLt x y = false) (h2 : PySem.W.dataLt y x = false) : PyData.eqv x y = true := by
  have e := PyProof.Rows.lex_total _ _ h1 h2
  cases q : PyData.eqv x y with
  | true => rfl
  | false =>
    have z := (PySem.W.toks_eqv x y h).2 q [] [.inl 0]
    rw [e, PySem.W.lex_pre] at z
    have z2 := PyProof.Rows.lex_irrefl (O := PyProof.Rows.itemOrd) (PySem.W.keyToks y)
    rw [z2] at z
    cases z
theorem dlt_asy {x y : D} (h : PySem.W.dataLt x y = true) : PySem.W.dataLt y x = false := by
  cases q : PySem.W.dataLt y x with
  | false => rfl
  | true =>
    have := PyProof.Rows.lex_trans _ _ _ h q
    rw [PyProof.Rows.lex_irrefl] at this
    cases this
theorem srtK_map (xs : List D) (k : D → D) : srtK xs (xs.map k) = xs.mergeSort (PySem.W.dataLe false k) := by
  unfold srtK
  have e : xs.zip (xs.map k) = xs.map fun x => (x, k x) := by
    induction xs with
    | nil => rfl
    | cons x xs ih => simp [ih]
  rw [e, ← List.map_mergeSort (r := PySem.W.dataLe false k) (s := PySem.W.dataLe false Prod.snd) (f := fun x => (x, k x)) (fun a _ b _ => rfl), List.map_map]
  exact List.map_id _
theorem srt_perm (xs : List D) (k : D → D) : (srtK xs (xs.map k)).Perm xs := by rw [srtK_map]; exact List.mergeSort_perm _ _
theorem srt_pair (xs : List D) (k : D → D) : (srtK xs (xs.map k)).Pairwise fun a b => PySem.W.dataLt (k b) (k a) = false := by
  rw [srtK_map]
  have T := PySem.W.sortLe_total (PyProof.Rows.listOrd PyProof.Rows.itemOrd) false (fun b : D => PySem.W.keyToks (k b))
  have h := List.pairwise_mergeSort (le := PySem.W.dataLe false k) (fun a b c h1 h2 => T.trans a b c h1 h2) (fun a b => by rw [Bool.or_eq_true]; exact T.total a b) xs
  refine h.imp fun {a b} q => ?_
  have q' : (!PySem.W.dataLt (k b) (k a)) = true := q
  simpa using q'
/-- the sorted list is one, where no two items have the same key -/
theorem srt_one {xs ys : List D} (k : D → D) (p : xs.Perm ys) (inj : ∀ a ∈ xs, ∀ b ∈ xs, PySem.W.dataLt (k a) (k b) = false → PySem.W.dataLt (k b) (k a) = false → a = b) : srtK xs (xs.map k) = srtK ys (ys.map k) :=
  List.Perm.eq_of_pairwise (le := fun a b => PySem.W.dataLt (k b) (k a) = false) (fun a b ha hb h1 h2 => inj a ((srt_perm xs k).mem_iff.mp ha) b (p.mem_iff.mpr ((srt_perm ys k).mem_iff.mp hb)) h2 h1) (srt_pair xs k) (srt_pair ys k)
    (((srt_perm xs k).trans p).trans (srt_perm ys k).symm)
theorem mapD_map {f : List D → Out D} {g : D → D} : ∀ (ds : List D), (∀ d ∈ ds, f [d] = .ok (g d)) → mapD f ds = .ok (ds.map g)
  | [], _ => rfl
  | d :: ds, h => by
    simp only [mapD, h d List.mem_cons_self, mapD_map ds fun e he => h e (List.mem_cons_of_mem _ he), bind_ok, List.map_cons]
end DI
set_option Elab.async false
set_option linter.all false
set_option maxRecDepth 100000
set_option maxHeartbeats 4000000
/-! the defs of the text, as the small language has them (printed by gen.py) -/
namespace DI
open PySem PySem.Spec PyProof.Rows L2
def topS (i : Nat) : Stmt := PySem.Challenge.pw_reason_k02_facts_in_order.main.body.getD i (.Pass ⟨0, 0, 0, 0⟩)
def GIv : GI := ⟨[], [(Str.ofString "constant_key", false, 1), (Str.ofString "fact_key", false, 1), (Str.ofString "constant_before", false, 2), (Str.ofString "fact_before", false, 2), (Str.ofString "in_order", false, 1), (Str.ofString "_law_constant", false, 1), (Str.ofString "_law_fact", false, 1), (Str.ofString "_law_constant_less", false, 2), (Str.ofString "_law_fact_less", false, 2), (Str.ofString "_law_places_told", false, 2), (Str.ofString "law", false, 1)], ["len", "list", "str", "bool", "isinstance", "range", "zip", "sorted"]⟩
def ps_constant_key : List Str := [Str.ofString "constant"]
def nn_constant_key : List Str := [Str.ofString "constant"]
def ps_fact_key : List Str := [Str.ofString "fact"]
def nn_fact_key : List Str := [Str.ofString "fact", Str.ofString "place"]
def ps_constant_before : List Str := [Str.ofString "one", Str.ofString "other"]
def nn_constant_before : List Str := [Str.ofString "one", Str.ofString "other"]
def ps_fact_before : List Str := [Str.ofString "one", Str.ofString "other"]
def nn_fact_before : List Str := [Str.ofString "one", Str.ofString "other"]
def ps_in_order : List Str := [Str.ofString "facts"]
def nn_in_order : List Str := [Str.ofString "facts"]
def ps__law_constant : List Str := [Str.ofString "_law_cell_here"]
def nn__law_constant : List Str := [Str.ofString "_law_cell_here", Str.ofString "_law_names", Str.ofString "_law_numbers"]
def ps__law_fact : List Str := [Str.ofString "_law_cell_here"]
def nn__law_fact : List Str := [Str.ofString "_law_cell_here", Str.ofString "_law_head", Str.ofString "_law_many", Str.ofString "_law_places", Str.ofString "_law_k"]
def ps__law_constant_less : List Str := [Str.ofString "_law_one", Str.ofString "_law_other"]
def nn__law_constant_less : List Str := [Str.ofString "_law_one", Str.ofString "_law_other"]
def ps__law_fact_less : List Str := [Str.ofString "_law_one", Str.ofString "_law_other"]
def nn__law_fact_less : List Str := [Str.ofString "_law_one", Str.ofString "_law_other", Str.ofString "_law_mine", Str.ofString "_law_theirs"]
def ps__law_places_told : List Str := [Str.ofString "_law_one", Str.ofString "_law_other"]
def nn__law_places_told : List Str := [Str.ofString "_law_one", Str.ofString "_law_other", Str.ofString "_law_mine", Str.ofString "_law_theirs", Str.ofString "_law_found"]
def ps_law : List Str := [Str.ofString "_law_script"]
def nn_law : List Str := [Str.ofString "_law_script", Str.ofString "_law_facts", Str.ofString "_law_cell_here", Str.ofString "_law_fact_here", Str.ofString "_law_handed", Str.ofString "_law_told", Str.ofString "_law_one", Str.ofString "_law_other"]
def b_constant_key : CSs := (.cons (.iff (.isi (.var 0) "str") (.cons (.ret (.tup (.cons (.cst (.int (1))) (.cons (.cst (.int (0))) (.cons (.var 0) .nil))))) .nil) .nil) (.cons (.ret (.tup (.cons (.cst (.int (0))) (.cons (.var 0) (.cons (.cst (.str (Str.ofString ""))) .nil))))) .nil))
def f_constant_key : FD := ⟨Str.ofString "constant_key", ps_constant_key, nn_constant_key, false, b_constant_key⟩
def x1_fact_key : CE := (.call (Str.ofString "constant_key") false (.cons (.var 1) .nil))
theorem lk_x1_fact_key : leakE false x1_fact_key = [1] := Eq.trans rfl rfl
def b_fact_key : CSs := (.cons (.ret (.tup (.cons (.ix (.var 0) (.cst (.int (0)))) (.cons (.bi "len" (.cons (.ix (.var 0) (.cst (.int (1)))) .nil)) (.cons (.lc [1] [1] false (.val (.ix (.var 0) (.cst (.int (1))))) .no x1_fact_key) .nil))))) .nil)
def f_fact_key : FD := ⟨Str.ofString "fact_key", ps_fact_key, nn_fact_key, false, b_fact_key⟩
def b_constant_before : CSs := (.cons (.ret (.cmp .Lt (.call (Str.ofString "constant_key") false (.cons (.var 0) .nil)) (.call (Str.ofString "constant_key") false (.cons (.var 1) .nil)))) .nil)
def f_constant_before : FD := ⟨Str.ofString "constant_before", ps_constant_before, nn_constant_before, false, b_constant_before⟩
def b_fact_before : CSs := (.cons (.ret (.cmp .Lt (.call (Str.ofString "fact_key") false (.cons (.var 0) .nil)) (.call (Str.ofString "fact_key") false (.cons (.var 1) .nil)))) .nil)
def f_fact_before : FD := ⟨Str.ofString "fact_before", ps_fact_before, nn_fact_before, false, b_fact_before⟩
def b_in_order : CSs := (.cons (.ret (.srt (Str.ofString "fact_key") (.var 0))) .nil)
def f_in_order : FD := ⟨Str.ofString "in_order", ps_in_order, nn_in_order, false, b_in_order⟩
def b__law_constant : CSs := (.cons (.set 1 (.lst (.cons (.cst (.str (Str.ofString "a"))) (.cons (.cst (.str (Str.ofString "b"))) (.cons (.cst (.str (Str.ofString "aa"))) (.cons (.cst (.str (Str.ofString "ab"))) (.cons (.cst (.str (Str.ofString "z"))) .nil))))))) (.cons (.set 2 (.lst (.cons (.cst (.int (0))) (.cons (.cst (.int (1))) (.cons (.cst (.int (2))) (.cons (.cst (.int (10))) (.cons (.neg (.cst (.int (1)))) (.cons (.neg (.cst (.int (10)))) (.cons (.bin .Mod (.bin .FloorDiv (.var 0) (.cst (.int (12)))) (.bin .Pow (.cst (.int (10))) (.cst (.int (30))))) (.cons (.bin .Sub (.cst (.int (0))) (.bin .Mod (.bin .FloorDiv (.var 0) (.cst (.int (12)))) (.bin .Pow (.cst (.int (10))) (.cst (.int (30)))))) .nil)))))))))) (.cons (.ret (.ix (.bin .Add (.var 1) (.var 2)) (.bin .Mod (.var 0) (.cst (.int (13)))))) .nil)))
def f__law_constant : FD := ⟨Str.ofString "_law_constant", ps__law_constant, nn__law_constant, false, b__law_constant⟩
def l1__law_fact : CSs := (.cons (.set 3 (.bin .Add (.var 3) (.tup (.cons (.call (Str.ofString "_law_constant") false (.cons (.var 0) .nil)) .nil)))) (.cons (.set 0 (.bin .FloorDiv (.var 0) (.ix (.lst (.cons (.cst (.int (13))) (.cons (.cst (.int (1000))) .nil))) (.bin .Mod (.var 4) (.cst (.int (2))))))) .nil))
def b__law_fact : CSs := (.cons (.set 1 (.ix (.lst (.cons (.cst (.str (Str.ofString "edge"))) (.cons (.cst (.str (Str.ofString "edges"))) (.cons (.cst (.str (Str.ofString "pay"))) .nil)))) (.bin .Mod (.var 0) (.cst (.int (3)))))) (.cons (.set 2 (.bin .Mod (.bin .FloorDiv (.var 0) (.cst (.int (3)))) (.cst (.int (5))))) (.cons (.set 0 (.bin .FloorDiv (.var 0) (.cst (.int (15))))) (.cons (.set 3 (.tup .nil)) (.cons (.for_ [4] false (.rng1 (.var 2)) l1__law_fact) (.cons (.ret (.tup (.cons (.var 1) (.cons (.var 3) .nil)))) .nil))))))
def f__law_fact : FD := ⟨Str.ofString "_law_fact", ps__law_fact, nn__law_fact, false, b__law_fact⟩
def b__law_constant_less : CSs := (.cons (.iff (.cmp .NotEq (.isi (.var 0) "str") (.isi (.var 1) "str")) (.cons (.ret (.isi (.var 1) "str")) .nil) .nil) (.cons (.ret (.cmp .Lt (.var 0) (.var 1))) .nil))
def f__law_constant_less : FD := ⟨Str.ofString "_law_constant_less", ps__law_constant_less, nn__law_constant_less, false, b__law_constant_less⟩
def l1__law_fact_less : CSs := (.cons (.iff (.cmp .NotEq (.var 2) (.var 3)) (.cons (.ret (.call (Str.ofString "_law_constant_less") false (.cons (.var 2) (.cons (.var 3) .nil)))) .nil) .nil) .nil)
def b__law_fact_less : CSs := (.cons (.iff (.cmp .NotEq (.ix (.var 0) (.cst (.int (0)))) (.ix (.var 1) (.cst (.int (0))))) (.cons (.ret (.cmp .Lt (.ix (.var 0) (.cst (.int (0)))) (.ix (.var 1) (.cst (.int (0)))))) .nil) .nil) (.cons (.iff (.cmp .NotEq (.bi "len" (.cons (.ix (.var 0) (.cst (.int (1)))) .nil)) (.bi "len" (.cons (.ix (.var 1) (.cst (.int (1)))) .nil))) (.cons (.ret (.cmp .Lt (.bi "len" (.cons (.ix (.var 0) (.cst (.int (1)))) .nil)) (.bi "len" (.cons (.ix (.var 1) (.cst (.int (1)))) .nil)))) .nil) .nil) (.cons (.for_ [2, 3] true (.zip (.ix (.var 0) (.cst (.int (1)))) (.ix (.var 1) (.cst (.int (1))))) l1__law_fact_less) (.cons (.ret (.cst (.bool false))) .nil))))
def f__law_fact_less : FD := ⟨Str.ofString "_law_fact_less", ps__law_fact_less, nn__law_fact_less, false, b__law_fact_less⟩
def l1__law_places_told : CSs := (.cons (.set 4 (.call (Str.ofString "constant_before") false (.cons (.var 2) (.cons (.var 3) .nil)))) (.cons (.iff (.or_ (.not_ (.isi (.var 4) "bool")) (.cmp .NotEq (.var 4) (.call (Str.ofString "_law_constant_less") false (.cons (.var 2) (.cons (.var 3) .nil))))) (.cons (.ret (.cst (.bool false))) .nil) .nil) .nil))
def l2__law_places_told : CSs := (.cons (.for_ [3] false (.val (.ix (.var 1) (.cst (.int (1))))) l1__law_places_told) .nil)
def b__law_places_told : CSs := (.cons (.for_ [2] false (.val (.ix (.var 0) (.cst (.int (1))))) l2__law_places_told) (.cons (.ret (.cst (.bool true))) .nil))
def f__law_places_told : FD := ⟨Str.ofString "_law_places_told", ps__law_places_told, nn__law_places_told, false, b__law_places_told⟩
def l1_law : CSs := (.cons (.iff (.or_ (.cmp .NotIn (.var 3) (.var 5)) (.cmp .IsNot (.call (Str.ofString "fact_before") false (.cons (.var 3) (.cons (.var 3) .nil))) (.cst (.bool false)))) (.cons (.ret (.cst (.bool false))) .nil) .nil) .nil)
def l2_law : CSs := (.cons (.iff (.or_ (.not_ (.call (Str.ofString "_law_fact_less") false (.cons (.var 6) (.cons (.var 7) .nil)))) (.not_ (.call (Str.ofString "_law_places_told") false (.cons (.var 6) (.cons (.var 7) .nil))))) (.cons (.ret (.cst (.bool false))) .nil) .nil) (.cons (.iff (.or_ (.cmp .IsNot (.call (Str.ofString "fact_before") false (.cons (.var 6) (.cons (.var 7) .nil))) (.cst (.bool true))) (.cmp .IsNot (.call (Str.ofString "fact_before") false (.cons (.var 7) (.cons (.var 6) .nil))) (.cst (.bool false)))) (.cons (.ret (.cst (.bool false))) .nil) .nil) .nil))
def l3_law : CSs := (.cons (.set 3 (.call (Str.ofString "_law_fact") false (.cons (.var 2) .nil))) (.cons (.iff (.cmp .NotIn (.var 3) (.var 1)) (.cons (.app 1 (.var 3)) .nil) .nil) .nil))
def b_law : CSs := (.cons (.set 1 (.lst .nil)) (.cons (.for_ [2] false (.val (.slc (.var 0) .no (.so (.cst (.int (20)))))) l3_law) (.cons (.set 4 (.bi "list" (.cons (.var 1) .nil))) (.cons (.set 5 (.call (Str.ofString "in_order") false (.cons (.var 4) .nil))) (.cons (.iff (.or_ (.cmp .NotEq (.var 4) (.var 1)) (.or_ (.not_ (.isi (.var 5) "list")) (.cmp .NotEq (.bi "len" (.cons (.var 5) .nil)) (.bi "len" (.cons (.var 1) .nil))))) (.cons (.ret (.cst (.bool false))) .nil) .nil) (.cons (.for_ [6, 7] true (.zip (.var 5) (.slc (.var 5) (.so (.cst (.int (1)))) .no)) l2_law) (.cons (.for_ [3] false (.val (.var 1)) l1_law) (.cons (.ret (.and_ (.cmp .Eq (.call (Str.ofString "in_order") false (.cons (.rev (.var 1)) .nil)) (.var 5)) (.cmp .Eq (.call (Str.ofString "in_order") false (.cons (.lst .nil) .nil)) (.lst .nil)))) .nil))))))))
def f_law : FD := ⟨Str.ofString "law", ps_law, nn_law, false, b_law⟩
def TB : List FD := [f_constant_key, f_fact_key, f_constant_before, f_fact_before, f_in_order, f__law_constant, f__law_fact, f__law_constant_less, f__law_fact_less, f__law_places_told, f_law]
theorem fi_constant_key : TB.find? (fun fd => fd.nm == Str.ofString "constant_key") = some f_constant_key := by kernel_rfl
theorem cl_constant_key (k : Nat) (d0 : D) : callF TB (k + 1) (Str.ofString "constant_key") [d0] = (execs (callF TB k) false b_constant_key [.sh d0]).out := by
  simp only [callF, fi_constant_key]
  rfl
theorem fi_fact_key : TB.find? (fun fd => fd.nm == Str.ofString "fact_key") = some f_fact_key := by kernel_rfl
theorem cl_fact_key (k : Nat) (d0 : D) : callF TB (k + 1) (Str.ofString "fact_key") [d0] = (execs (callF TB k) false b_fact_key [.sh d0, .un]).out := by
  simp only [callF, fi_fact_key]
  rfl
theorem fi_constant_before : TB.find? (fun fd => fd.nm == Str.ofString "constant_before") = some f_constant_before := by kernel_rfl
theorem cl_constant_before (k : Nat) (d0 d1 : D) : callF TB (k + 1) (Str.ofString "constant_before") [d0, d1] = (execs (callF TB k) false b_constant_before [.sh d0, .sh d1]).out := by
  simp only [callF, fi_constant_before]
  rfl
theorem fi_fact_before : TB.find? (fun fd => fd.nm == Str.ofString "fact_before") = some f_fact_before := by kernel_rfl
theorem cl_fact_before (k : Nat) (d0 d1 : D) : callF TB (k + 1) (Str.ofString "fact_before") [d0, d1] = (execs (callF TB k) false b_fact_before [.sh d0, .sh d1]).out := by
  simp only [callF, fi_fact_before]
  rfl
theorem fi_in_order : TB.find? (fun fd => fd.nm == Str.ofString "in_order") = some f_in_order := by kernel_rfl
theorem cl_in_order (k : Nat) (d0 : D) : callF TB (k + 1) (Str.ofString "in_order") [d0] = (execs (callF TB k) false b_in_order [.sh d0]).out := by
  simp only [callF, fi_in_order]
  rfl
theorem fi__law_constant : TB.find? (fun fd => fd.nm == Str.ofString "_law_constant") = some f__law_constant := by kernel_rfl
theorem cl__law_constant (k : Nat) (d0 : D) : callF TB (k + 1) (Str.ofString "_law_constant") [d0] = (execs (callF TB k) false b__law_constant [.sh d0, .un, .un]).out := by
  simp only [callF, fi__law_constant]
  rfl
theorem fi__law_fact : TB.find? (fun fd => fd.nm == Str.ofString "_law_fact") = some f__law_fact := by kernel_rfl
theorem cl__law_fact (k : Nat) (d0 : D) : callF TB (k + 1) (Str.ofString "_law_fact") [d0] = (execs (callF TB k) false b__law_fact [.sh d0, .un, .un, .un, .un]).out := by
  simp only [callF, fi__law_fact]
  rfl
theorem fi__law_constant_less : TB.find? (fun fd => fd.nm == Str.ofString "_law_constant_less") = some f__law_constant_less := by kernel_rfl
theorem cl__law_constant_less (k : Nat) (d0 d1 : D) : callF TB (k + 1) (Str.ofString "_law_constant_less") [d0, d1] = (execs (callF TB k) false b__law_constant_less [.sh d0, .sh d1]).out := by
  simp only [callF, fi__law_constant_less]
  rfl
theorem fi__law_fact_less : TB.find? (fun fd => fd.nm == Str.ofString "_law_fact_less") = some f__law_fact_less := by kernel_rfl
theorem cl__law_fact_less (k : Nat) (d0 d1 : D) : callF TB (k + 1) (Str.ofString "_law_fact_less") [d0, d1] = (execs (callF TB k) false b__law_fact_less [.sh d0, .sh d1, .un, .un]).out := by
  simp only [callF, fi__law_fact_less]
  rfl
theorem fi__law_places_told : TB.find? (fun fd => fd.nm == Str.ofString "_law_places_told") = some f__law_places_told := by kernel_rfl
theorem cl__law_places_told (k : Nat) (d0 d1 : D) : callF TB (k + 1) (Str.ofString "_law_places_told") [d0, d1] = (execs (callF TB k) false b__law_places_told [.sh d0, .sh d1, .un, .un, .un]).out := by
  simp only [callF, fi__law_places_told]
  rfl
theorem fi_law : TB.find? (fun fd => fd.nm == Str.ofString "law") = some f_law := by kernel_rfl
theorem cl_law (k : Nat) (d0 : D) : callF TB (k + 1) (Str.ofString "law") [d0] = (execs (callF TB k) false b_law [.sh d0, .un, .un, .un, .un, .un, .un, .un]).out := by
  simp only [callF, fi_law]
  rfl
end DI
set_option Elab.async false
set_option linter.all false
set_option maxRecDepth 100000
set_option maxHeartbeats 4000000
namespace DI
open PySem PySem.Spec PyProof.Rows L2
theorem szOk_of {n : Nat} (h : n ≤ 1000) : szOk n = true := by unfold szOk; simp; omega
theorem setTg_two (i j : Nat) (a b : D) (ρ : Rho) : setTg [i, j] true (.tuple [a, b]) ρ = .ok ((ρ.set i (.sh a)).set j (.sh b)) := Eq.trans rfl rfl
def isC : D → Bool
  | .str _ => true
  | .int _ => true
  | _ => false
def ck : D → D
  | .str s => .tuple [.int 1, .int 0, .str s]
  | d => .tuple [.int 0, d, .str (Str.ofString "")]
def fk (h : Str) (ps : List D) : D := .tuple [.str h, .int ps.length, .list (ps.map ck)]
def fkD : D → D
  | .tuple [.str h, .tuple ps] => fk h ps
  | _ => .none
def isF (d : D) : Prop := ∃ h ps, d = .tuple [.str h, .tuple ps] ∧ ps.length ≤ 4 ∧ ∀ p ∈ ps, isC p = true
theorem isC_cases {d : D} (h : isC d = true) : (∃ s, d = .str s) ∨ ∃ i, d = .int i := by
  cases d <;> simp [isC] at h
  · exact .inr ⟨_, rfl⟩
  · exact .inl ⟨_, rfl⟩
theorem ck_smp {d : D} (h : isC d = true) : smp (ck d) = true ∧ (ck d).depth ≤ 1 := by
  rcases isC_cases h with ⟨s, rfl⟩ | ⟨i, rfl⟩ <;> exact ⟨rfl, by simp [ck, PyData.depth, PyData.depthAll]⟩
theorem ck_alike {a b : D} (h : isC a = true) (h' : isC b = true) : PySem.W.alike (ck a) (ck b) = true := by
  rcases isC_cases h with ⟨s, rfl⟩ | ⟨i, rfl⟩ <;> rcases isC_cases h' with ⟨t, rfl⟩ | ⟨j, rfl⟩ <;> rfl
theorem ck_inj {a b : D} (h : isC a = true) (h' : isC b = true) (e : ck a = ck b) : a = b := by
  rcases isC_cases h with ⟨s, rfl⟩ | ⟨i, rfl⟩ <;> rcases isC_cases h' with ⟨t, rfl⟩ | ⟨j, rfl⟩ <;> simp [ck] at e <;> simp [e]
theorem cks {ps : List D} (h : ∀ p ∈ ps, isC p = true) : smps (ps.map ck) = true ∧ PyData.depthAll (ps.map ck) ≤ 1 := by
  refine ⟨smps_all.mpr fun d hd => ?_, depth_all fun d hd => ?_⟩ <;> obtain ⟨p, hp, rfl⟩ := List.mem_map.mp hd
  · exact (ck_smp (h p hp)).1
  · exact (ck_smp (h p hp)).2
theorem fk_smp {h : Str} {ps : List D} (hp : ∀ p ∈ ps, isC p = true) : smp (fk h ps) = true ∧ (fk h ps).depth ≤ 60 := by
  obtain ⟨h1, h2⟩ := cks hp
  refine ⟨by simp only [fk, smp, smps, h1, Bool.and_self], ?_⟩
  simp only [fk, PyData.depth, PyData.depthAll]
  omega
theorem alikes : ∀ {ps qs : List D}, (∀ p ∈ ps, isC p = true) → (∀ p ∈ qs, isC p = true) → PySem.W.alikeAll (ps.map ck) (qs.map ck) = true
  | [], qs, _, _ => by simp [PySem.W.alikeAll]
  | _ :: _, [], _, _ => by simp [PySem.W.alikeAll]
  | p :: ps, q :: qs, h, h' => by
    simp only [List.map_cons, PySem.W.alikeAll, Bool.and_eq_true]
    exact ⟨ck_alike (h p List.mem_cons_self) (h' q List.mem_cons_self), alikes (fun x hx => h x (List.mem_cons_of_mem _ hx)) fun x hx => h' x (List.mem_cons_of_mem _ hx)⟩
theorem fk_alike {h g : Str} {ps qs : List D} (hp : ∀ p ∈ ps, isC p = true) (hq : ∀ p ∈ qs, isC p = true) : PySem.W.alike (fk h ps) (fk g qs) = true := by
  simp only [fk, PySem.W.alike, PySem.W.alikeAll, alikes hp hq, Bool.and_self]
theorem map_ck_inj : ∀ {ps qs : List D}, (∀ p ∈ ps, isC p = true) → (∀ p ∈ qs, isC p = true) → ps.map ck = qs.map ck → ps = qs
  | [], [], _, _, _ => rfl
  | [], _ :: _, _, _, h => by simp at h
  | _ :: _, [], _, _, h => by simp at h
  | p :: ps, q :: qs, h, h', e => by
    simp only [List.map_cons, List.cons.injEq] at e
    rw [ck_inj (h p List.mem_cons_self) (h' q List.mem_cons_self) e.1, map_ck_inj (fun x hx => h x (List.mem_cons_of_mem _ hx)) (fun x hx => h' x (List.mem_cons_of_mem _ hx)) e.2]
/-- two facts that are not ahead of one another are the same -/
theorem fl_tot {f g : D} (hf : isF f) (hg : isF g) (h1 : PySem.W.dataLt (fkD f) (fkD g) = false) (h2 : PySem.W.dataLt (fkD g) (fkD f) = false) : f = g := by
  obtain ⟨a, ps, rfl, l1, c1⟩ := hf
  obtain ⟨b, qs, rfl, l2, c2⟩ := hg
  have e := eqv_smp _ _ (fk_smp c1).1 (fk_smp c2).1 (dlt_eqv (fk_alike (h := a) (g := b) c1 c2) h1 h2)
  simp only [fk, PyData.tuple.injEq, List.cons.injEq, PyData.str.injEq, PyData.list.injEq, and_true] at e
  rw [e.1, map_ck_inj c1 c2 e.2.2]
theorem lt_ck {a b : D} (h : isC a = true) (h' : isC b = true) : cmpD .Lt (ck a) (ck b) = some (PySem.W.dataLt (ck a) (ck b)) := by
  have s1 := shp_smp (ck_smp h).1 (by have := (ck_smp h).2; omega)
  have s2 := shp_smp (ck_smp h').1 (by have := (ck_smp h').2; omega)
  have al := ck_alike h h'
  rcases isC_cases h with ⟨s, rfl⟩ | ⟨i, rfl⟩ <;> rcases isC_cases h' with ⟨t, rfl⟩ | ⟨j, rfl⟩ <;> simp only [ck] at s1 s2 al ⊢ <;> simp only [cmpD, ltD, s1, s2, al, Bool.and_self, guard_tt]
theorem lt_fk {h g : Str} {ps qs : List D} (hp : ∀ p ∈ ps, isC p = true) (hq : ∀ p ∈ qs, isC p = true) : cmpD .Lt (fk h ps) (fk g qs) = some (PySem.W.dataLt (fk h ps) (fk g qs)) := by
  have s1 := shp_smp (fk_smp (h := h) hp).1 (fk_smp hp).2
  have s2 := shp_smp (fk_smp (h := g) hq).1 (fk_smp hq).2
  have al := fk_alike (h := h) (g := g) hp hq
  simp only [fk] at s1 s2 al ⊢
  simp only [cmpD, ltD, s1, s2, al, Bool.and_self, guard_tt]
/-! the program's functions -/
theorem constant_key_ok (k : Nat) {c : D} (h : isC c = true) : callF TB (k + 1) (Str.ofString "constant_key") [c] = .ok (ck c) := by
  rw [cl_constant_key]
  rcases isC_cases h with ⟨s, rfl⟩ | ⟨i, rfl⟩ <;> simp only [b_constant_key, leakE, leakL, leakPL, leakO, leakI, frz, frz1_sh, frz1_un, frz1_ow, frz1_succ, ob_some, ob_none, asB_bool, asI_int, asL_list, guard_tt, guard_ff, putV_nf, putV_int, putV_str, putV_bool, putV_none, putV_tup, putV_lst, putV_lsf, keepV_same, keepV_int, keepV_str, keepV_tup, keepV_lst, freshE, out_next, out_ret, out_exc, lenL, lenT, lenS, setTg_one, wipeR, notOw_sh, notOw_un, notOw_succ, cmp_eq_int, cmp_ne_int, cmp_eq_bool, cmp_ne_bool, cmp_eq_str, cmp_ne_str, cmp_lt_int, cmp_gt_int, cmp_le_int, cmp_ge_int, cmp_in, cmp_nin, cmp_is, cmp_isn, isD_bool, isD_none, bin_add, bin_sub, bin_adds, bin_addl, bin_addt, ix_list, ix_tup, ix_str, items_list, items_tup, items_str, isi_str, isi_tuple, isi_list, isi_bool, isi_int, isi_dict, List.getElem?_cons_zero, List.getElem?_cons_succ, List.set_cons_zero, List.set_cons_succ, List.append_nil, List.nil_append, List.cons_append, reduceIte, Bool.false_eq_true, Option.map_some, Option.map_none, Bool.false_and, Bool.true_and, Bool.and_false, Bool.and_true, Bool.or_false, Bool.or_true, Bool.false_or, Bool.true_or, Bool.not_true, Bool.not_false, List.all_cons, List.all_nil, List.length_cons, List.length_nil, execs_nil, execs_cons, kSeq_next, kSeq_ret, kSeq_exc, kSeq_brk, kSeq_cont, x_set, kSet_ok, kSet_exc, x_setT, kSetT_ok, kNx_ok, x_exp, kExp_ok, kExp_exc, x_app, kApp_ok, x_ext, kExt_ok, x_ret, kRet_ok, kRet_exc, x_retN, x_iff, kTst_ok, kTst_exc, kIf_tt, kIf_ff, x_for, kFor_ok, x_pass, x_brk, x_cont, x_whl, x_par, kPar1_ok, kPar2_ok, kLook_sh, kLook_ow, e_cst, e_glo, ev_var, ev_tup, ev_lst, kTup_ok, kLst_ok, ev_dic, ev_bin, kBin1_ok, kBin2_ok, ev_neg, kNeg_ok, ev_cmp, kCmp1_ok, kCmp2_ok, kBl_some, ev_chn, kCh1_ok, kCh2_ok, kCh3_tt, kCh3_ff, ev_and, ev_or, ev_not, ev_ife, kAnd_tt, kAnd_ff, kOr_tt, kOr_ff, kNot_ok, kIfe_tt, kIfe_ff, ev_call, kCall_ok, ev_bi, kBi_ok, ev_isi, kIsi_ok, ev_ix, kIx1_ok, kIx2_ok, ev_slc, kSl1_ok, kSl2_ok, kSl3_ok, eo_no, eo_so, kOi_ok, et_no, et_so, el_nil, el_cons, kL1_ok, kL2_ok, ep_nil, ep_cons, kP1_ok, ei_val, kIt_ok, ei_rng1, kR1_ok, ei_rng2, kR2_ok, kR3_ok, ei_zip, kZ1_ok, kZ2_ok, ev_lc, kLc_ok, kLe_ok, lcOne_1, kOne_tt, kOne_ff, kSm_ok, ev_rev, kRev_ok, ev_srt, kSrt_ok, kSr2_ok, szl0, szl1, szl2, szl3, szl4, szl5, szl6, szl7, szl8, szl9, szl10, szl11, szl12, szl13, szl14, szl15, szl16, Nat.reduceAdd, beq_self_eq_true, b_beq_true, b_beq_false, isOw_sh, isOw_un, frz1_no, notOw_no, forS_nil, forS_cons, kF1_ok, kF2_next, kF2_cont, kF2_brk, kF2_ret, kF2_exc, isOwL_0, isOwL_s, lk_x1_fact_key, isS, ck]
theorem fact_key_ok (k : Nat) {h : Str} {ps : List D} (hl : ps.length ≤ 4) (hp : ∀ p ∈ ps, isC p = true) : callF TB (k + 2) (Str.ofString "fact_key") [.tuple [.str h, .tuple ps]] = .ok (fk h ps) := by
  rw [cl_fact_key]
  have i0 : atI [PyData.str h, .tuple ps] 0 = some (.str h) := rfl
  have i1 : atI [PyData.str h, .tuple ps] 1 = some (.tuple ps) := rfl
  have hq : lcLoop (lcOne (callF TB (k + 1)) [1] false .no x1_fact_key [.sh (.tuple [.str h, .tuple ps]), .un]) ps = .ok (ps.map ck) := lcLoop_map ps fun p hpm => by
    simp only [leakE, leakL, leakPL, leakO, leakI, frz, frz1_sh, frz1_un, frz1_ow, frz1_succ, ob_some, ob_none, asB_bool, asI_int, asL_list, guard_tt, guard_ff, putV_nf, putV_int, putV_str, putV_bool, putV_none, putV_tup, putV_lst, putV_lsf, keepV_same, keepV_int, keepV_str, keepV_tup, keepV_lst, freshE, out_next, out_ret, out_exc, lenL, lenT, lenS, setTg_one, wipeR, notOw_sh, notOw_un, notOw_succ, cmp_eq_int, cmp_ne_int, cmp_eq_bool, cmp_ne_bool, cmp_eq_str, cmp_ne_str, cmp_lt_int, cmp_gt_int, cmp_le_int, cmp_ge_int, cmp_in, cmp_nin, cmp_is, cmp_isn, isD_bool, isD_none, bin_add, bin_sub, bin_adds, bin_addl, bin_addt, ix_list, ix_tup, ix_str, items_list, items_tup, items_str, isi_str, isi_tuple, isi_list, isi_bool, isi_int, isi_dict, List.getElem?_cons_zero, List.getElem?_cons_succ, List.set_cons_zero, List.set_cons_succ, List.append_nil, List.nil_append, List.cons_append, reduceIte, Bool.false_eq_true, Option.map_some, Option.map_none, Bool.false_and, Bool.true_and, Bool.and_false, Bool.and_true, Bool.or_false, Bool.or_true, Bool.false_or, Bool.true_or, Bool.not_true, Bool.not_false, List.all_cons, List.all_nil, List.length_cons, List.length_nil, execs_nil, execs_cons, kSeq_next, kSeq_ret, kSeq_exc, kSeq_brk, kSeq_cont, x_set, kSet_ok, kSet_exc, x_setT, kSetT_ok, kNx_ok, x_exp, kExp_ok, kExp_exc, x_app, kApp_ok, x_ext, kExt_ok, x_ret, kRet_ok, kRet_exc, x_retN, x_iff, kTst_ok, kTst_exc, kIf_tt, kIf_ff, x_for, kFor_ok, x_pass, x_brk, x_cont, x_whl, x_par, kPar1_ok, kPar2_ok, kLook_sh, kLook_ow, e_cst, e_glo, ev_var, ev_tup, ev_lst, kTup_ok, kLst_ok, ev_dic, ev_bin, kBin1_ok, kBin2_ok, ev_neg, kNeg_ok, ev_cmp, kCmp1_ok, kCmp2_ok, kBl_some, ev_chn, kCh1_ok, kCh2_ok, kCh3_tt, kCh3_ff, ev_and, ev_or, ev_not, ev_ife, kAnd_tt, kAnd_ff, kOr_tt, kOr_ff, kNot_ok, kIfe_tt, kIfe_ff, ev_call, kCall_ok, ev_bi, kBi_ok, ev_isi, kIsi_ok, ev_ix, kIx1_ok, kIx2_ok, ev_slc, kSl1_ok, kSl2_ok, kSl3_ok, eo_no, eo_so, kOi_ok, et_no, et_so, el_nil, el_cons, kL1_ok, kL2_ok, ep_nil, ep_cons, kP1_ok, ei_val, kIt_ok, ei_rng1, kR1_ok, ei_rng2, kR2_ok, kR3_ok, ei_zip, kZ1_ok, kZ2_ok, ev_lc, kLc_ok, kLe_ok, lcOne_1, kOne_tt, kOne_ff, kSm_ok, ev_rev, kRev_ok, ev_srt, kSrt_ok, kSr2_ok, szl0, szl1, szl2, szl3, szl4, szl5, szl6, szl7, szl8, szl9, szl10, szl11, szl12, szl13, szl14, szl15, szl16, Nat.reduceAdd, beq_self_eq_true, b_beq_true, b_beq_false, isOw_sh, isOw_un, frz1_no, notOw_no, forS_nil, forS_cons, kF1_ok, kF2_next, kF2_cont, kF2_brk, kF2_ret, kF2_exc, isOwL_0, isOwL_s, lk_x1_fact_key, x1_fact_key, constant_key_ok k (hp p hpm)]
  simp only [b_fact_key, leakE, leakL, leakPL, leakO, leakI, frz, frz1_sh, frz1_un, frz1_ow, frz1_succ, ob_some, ob_none, asB_bool, asI_int, asL_list, guard_tt, guard_ff, putV_nf, putV_int, putV_str, putV_bool, putV_none, putV_tup, putV_lst, putV_lsf, keepV_same, keepV_int, keepV_str, keepV_tup, keepV_lst, freshE, out_next, out_ret, out_exc, lenL, lenT, lenS, setTg_one, wipeR, notOw_sh, notOw_un, notOw_succ, cmp_eq_int, cmp_ne_int, cmp_eq_bool, cmp_ne_bool, cmp_eq_str, cmp_ne_str, cmp_lt_int, cmp_gt_int, cmp_le_int, cmp_ge_int, cmp_in, cmp_nin, cmp_is, cmp_isn, isD_bool, isD_none, bin_add, bin_sub, bin_adds, bin_addl, bin_addt, ix_list, ix_tup, ix_str, items_list, items_tup, items_str, isi_str, isi_tuple, isi_list, isi_bool, isi_int, isi_dict, List.getElem?_cons_zero, List.getElem?_cons_succ, List.set_cons_zero, List.set_cons_succ, List.append_nil, List.nil_append, List.cons_append, reduceIte, Bool.false_eq_true, Option.map_some, Option.map_none, Bool.false_and, Bool.true_and, Bool.and_false, Bool.and_true, Bool.or_false, Bool.or_true, Bool.false_or, Bool.true_or, Bool.not_true, Bool.not_false, List.all_cons, List.all_nil, List.length_cons, List.length_nil, execs_nil, execs_cons, kSeq_next, kSeq_ret, kSeq_exc, kSeq_brk, kSeq_cont, x_set, kSet_ok, kSet_exc, x_setT, kSetT_ok, kNx_ok, x_exp, kExp_ok, kExp_exc, x_app, kApp_ok, x_ext, kExt_ok, x_ret, kRet_ok, kRet_exc, x_retN, x_iff, kTst_ok, kTst_exc, kIf_tt, kIf_ff, x_for, kFor_ok, x_pass, x_brk, x_cont, x_whl, x_par, kPar1_ok, kPar2_ok, kLook_sh, kLook_ow, e_cst, e_glo, ev_var, ev_tup, ev_lst, kTup_ok, kLst_ok, ev_dic, ev_bin, kBin1_ok, kBin2_ok, ev_neg, kNeg_ok, ev_cmp, kCmp1_ok, kCmp2_ok, kBl_some, ev_chn, kCh1_ok, kCh2_ok, kCh3_tt, kCh3_ff, ev_and, ev_or, ev_not, ev_ife, kAnd_tt, kAnd_ff, kOr_tt, kOr_ff, kNot_ok, kIfe_tt, kIfe_ff, ev_call, kCall_ok, ev_bi, kBi_ok, ev_isi, kIsi_ok, ev_ix, kIx1_ok, kIx2_ok, ev_slc, kSl1_ok, kSl2_ok, kSl3_ok, eo_no, eo_so, kOi_ok, et_no, et_so, el_nil, el_cons, kL1_ok, kL2_ok, ep_nil, ep_cons, kP1_ok, ei_val, kIt_ok, ei_rng1, kR1_ok, ei_rng2, kR2_ok, kR3_ok, ei_zip, kZ1_ok, kZ2_ok, ev_lc, kLc_ok, kLe_ok, lcOne_1, kOne_tt, kOne_ff, kSm_ok, ev_rev, kRev_ok, ev_srt, kSrt_ok, kSr2_ok, szl0, szl1, szl2, szl3, szl4, szl5, szl6, szl7, szl8, szl9, szl10, szl11, szl12, szl13, szl14, szl15, szl16, Nat.reduceAdd, beq_self_eq_true, b_beq_true, b_beq_false, isOw_sh, isOw_un, frz1_no, notOw_no, forS_nil, forS_cons, kF1_ok, kF2_next, kF2_cont, kF2_brk, kF2_ret, kF2_exc, isOwL_0, isOwL_s, lk_x1_fact_key, i0, i1, hq, szOk_of (show ps.length ≤ 1000 by omega), fk]
theorem constant_before_ok (k : Nat) {a b : D} (h : isC a = true) (h' : isC b = true) : callF TB (k + 2) (Str.ofString "constant_before") [a, b] = .ok (.bool (PySem.W.dataLt (ck a) (ck b))) := by
  rw [cl_constant_before]
  simp only [b_constant_before, leakE, leakL, leakPL, leakO, leakI, frz, frz1_sh, frz1_un, frz1_ow, frz1_succ, ob_some, ob_none, asB_bool, asI_int, asL_list, guard_tt, guard_ff, putV_nf, putV_int, putV_str, putV_bool, putV_none, putV_tup, putV_lst, putV_lsf, keepV_same, keepV_int, keepV_str, keepV_tup, keepV_lst, freshE, out_next, out_ret, out_exc, lenL, lenT, lenS, setTg_one, wipeR, notOw_sh, notOw_un, notOw_succ, cmp_eq_int, cmp_ne_int, cmp_eq_bool, cmp_ne_bool, cmp_eq_str, cmp_ne_str, cmp_lt_int, cmp_gt_int, cmp_le_int, cmp_ge_int, cmp_in, cmp_nin, cmp_is, cmp_isn, isD_bool, isD_none, bin_add, bin_sub, bin_adds, bin_addl, bin_addt, ix_list, ix_tup, ix_str, items_list, items_tup, items_str, isi_str, isi_tuple, isi_list, isi_bool, isi_int, isi_dict, List.getElem?_cons_zero, List.getElem?_cons_succ, List.set_cons_zero, List.set_cons_succ, List.append_nil, List.nil_append, List.cons_append, reduceIte, Bool.false_eq_true, Option.map_some, Option.map_none, Bool.false_and, Bool.true_and, Bool.and_false, Bool.and_true, Bool.or_false, Bool.or_true, Bool.false_or, Bool.true_or, Bool.not_true, Bool.not_false, List.all_cons, List.all_nil, List.length_cons, List.length_nil, execs_nil, execs_cons, kSeq_next, kSeq_ret, kSeq_exc, kSeq_brk, kSeq_cont, x_set, kSet_ok, kSet_exc, x_setT, kSetT_ok, kNx_ok, x_exp, kExp_ok, kExp_exc, x_app, kApp_ok, x_ext, kExt_ok, x_ret, kRet_ok, kRet_exc, x_retN, x_iff, kTst_ok, kTst_exc, kIf_tt, kIf_ff, x_for, kFor_ok, x_pass, x_brk, x_cont, x_whl, x_par, kPar1_ok, kPar2_ok, kLook_sh, kLook_ow, e_cst, e_glo, ev_var, ev_tup, ev_lst, kTup_ok, kLst_ok, ev_dic, ev_bin, kBin1_ok, kBin2_ok, ev_neg, kNeg_ok, ev_cmp, kCmp1_ok, kCmp2_ok, kBl_some, ev_chn, kCh1_ok, kCh2_ok, kCh3_tt, kCh3_ff, ev_and, ev_or, ev_not, ev_ife, kAnd_tt, kAnd_ff, kOr_tt, kOr_ff, kNot_ok, kIfe_tt, kIfe_ff, ev_call, kCall_ok, ev_bi, kBi_ok, ev_isi, kIsi_ok, ev_ix, kIx1_ok, kIx2_ok, ev_slc, kSl1_ok, kSl2_ok, kSl3_ok, eo_no, eo_so, kOi_ok, et_no, et_so, el_nil, el_cons, kL1_ok, kL2_ok, ep_nil, ep_cons, kP1_ok, ei_val, kIt_ok, ei_rng1, kR1_ok, ei_rng2, kR2_ok, kR3_ok, ei_zip, kZ1_ok, kZ2_ok, ev_lc, kLc_ok, kLe_ok, lcOne_1, kOne_tt, kOne_ff, kSm_ok, ev_rev, kRev_ok, ev_srt, kSrt_ok, kSr2_ok, szl0, szl1, szl2, szl3, szl4, szl5, szl6, szl7, szl8, szl9, szl10, szl11, szl12, szl13, szl14, szl15, szl16, Nat.reduceAdd, beq_self_eq_true, b_beq_true, b_beq_false, isOw_sh, isOw_un, frz1_no, notOw_no, forS_nil, forS_cons, kF1_ok, kF2_next, kF2_cont, kF2_brk, kF2_ret, kF2_exc, isOwL_0, isOwL_s, lk_x1_fact_key, constant_key_ok k h, constant_key_ok k h', lt_ck h h']
theorem fact_before_ok (k : Nat) {f g : D} (hf : isF f) (hg : isF g) : callF TB (k + 3) (Str.ofString "fact_before") [f, g] = .ok (.bool (PySem.W.dataLt (fkD f) (fkD g))) := by
  obtain ⟨a, ps, rfl, l1, c1⟩ := hf
  obtain ⟨b, qs, rfl, l2, c2⟩ := hg
  rw [cl_fact_before]
  simp only [b_fact_before, leakE, leakL, leakPL, leakO, leakI, frz, frz1_sh, frz1_un, frz1_ow, frz1_succ, ob_some, ob_none, asB_bool, asI_int, asL_list, guard_tt, guard_ff, putV_nf, putV_int, putV_str, putV_bool, putV_none, putV_tup, putV_lst, putV_lsf, keepV_same, keepV_int, keepV_str, keepV_tup, keepV_lst, freshE, out_next, out_ret, out_exc, lenL, lenT, lenS, setTg_one, wipeR, notOw_sh, notOw_un, notOw_succ, cmp_eq_int, cmp_ne_int, cmp_eq_bool, cmp_ne_bool, cmp_eq_str, cmp_ne_str, cmp_lt_int, cmp_gt_int, cmp_le_int, cmp_ge_int, cmp_in, cmp_nin, cmp_is, cmp_isn, isD_bool, isD_none, bin_add, bin_sub, bin_adds, bin_addl, bin_addt, ix_list, ix_tup, ix_str, items_list, items_tup, items_str, isi_str, isi_tuple, isi_list, isi_bool, isi_int, isi_dict, List.getElem?_cons_zero, List.getElem?_cons_succ, List.set_cons_zero, List.set_cons_succ, List.append_nil, List.nil_append, List.cons_append, reduceIte, Bool.false_eq_true, Option.map_some, Option.map_none, Bool.false_and, Bool.true_and, Bool.and_false, Bool.and_true, Bool.or_false, Bool.or_true, Bool.false_or, Bool.true_or, Bool.not_true, Bool.not_false, List.all_cons, List.all_nil, List.length_cons, List.length_nil, execs_nil, execs_cons, kSeq_next, kSeq_ret, kSeq_exc, kSeq_brk, kSeq_cont, x_set, kSet_ok, kSet_exc, x_setT, kSetT_ok, kNx_ok, x_exp, kExp_ok, kExp_exc, x_app, kApp_ok, x_ext, kExt_ok, x_ret, kRet_ok, kRet_exc, x_retN, x_iff, kTst_ok, kTst_exc, kIf_tt, kIf_ff, x_for, kFor_ok, x_pass, x_brk, x_cont, x_whl, x_par, kPar1_ok, kPar2_ok, kLook_sh, kLook_ow, e_cst, e_glo, ev_var, ev_tup, ev_lst, kTup_ok, kLst_ok, ev_dic, ev_bin, kBin1_ok, kBin2_ok, ev_neg, kNeg_ok, ev_cmp, kCmp1_ok, kCmp2_ok, kBl_some, ev_chn, kCh1_ok, kCh2_ok, kCh3_tt, kCh3_ff, ev_and, ev_or, ev_not, ev_ife, kAnd_tt, kAnd_ff, kOr_tt, kOr_ff, kNot_ok, kIfe_tt, kIfe_ff, ev_call, kCall_ok, ev_bi, kBi_ok, ev_isi, kIsi_ok, ev_ix, kIx1_ok, kIx2_ok, ev_slc, kSl1_ok, kSl2_ok, kSl3_ok, eo_no, eo_so, kOi_ok, et_no, et_so, el_nil, el_cons, kL1_ok, kL2_ok, ep_nil, ep_cons, kP1_ok, ei_val, kIt_ok, ei_rng1, kR1_ok, ei_rng2, kR2_ok, kR3_ok, ei_zip, kZ1_ok, kZ2_ok, ev_lc, kLc_ok, kLe_ok, lcOne_1, kOne_tt, kOne_ff, kSm_ok, ev_rev, kRev_ok, ev_srt, kSrt_ok, kSr2_ok, szl0, szl1, szl2, szl3, szl4, szl5, szl6, szl7, szl8, szl9, szl10, szl11, szl12, szl13, szl14, szl15, szl16, Nat.reduceAdd, beq_self_eq_true, b_beq_true, b_beq_false, isOw_sh, isOw_un, frz1_no, notOw_no, forS_nil, forS_cons, kF1_ok, kF2_next, kF2_cont, kF2_brk, kF2_ret, kF2_exc, isOwL_0, isOwL_s, lk_x1_fact_key, fact_key_ok k l1 c1, fact_key_ok k l2 c2, lt_fk c1 c2, fkD]
theorem srt_ok {L : List D} (hl : L.length ≤ 1000) (h : ∀ f ∈ L, isF f) : srtOk (L.map fkD) = true := by
  unfold srtOk
  rw [szOk_of (by simpa using hl)]
  simp only [Bool.and_eq_true, Bool.or_eq_true, List.all_eq_true, and_true]
  refine ⟨⟨fun d hd => ?_, fun d hd e he => ?_⟩, .inl fun d hd => ?_⟩
  · obtain ⟨f, hf, rfl⟩ := List.mem_map.mp hd
    obtain ⟨a, ps, rfl, l1, c1⟩ := h f hf
    exact shp_smp (fk_smp c1).1 (fk_smp c1).2
  · obtain ⟨f, hf, rfl⟩ := List.mem_map.mp hd
    obtain ⟨g, hg, rfl⟩ := List.mem_map.mp he
    obtain ⟨a, ps, rfl, l1, c1⟩ := h f hf
    obtain ⟨b, qs, rfl, l2, c2⟩ := h g hg
    exact fk_alike c1 c2
  · obtain ⟨f, hf, rfl⟩ := List.mem_map.mp hd
    obtain ⟨a, ps, rfl, l1, c1⟩ := h f hf
    rfl
theorem in_order_ok (k : Nat) {L : List D} (hl : L.length ≤ 1000) (h : ∀ f ∈ L, isF f) : callF TB (k + 3) (Str.ofString "in_order") [.list L] = .ok (.list (srtK L (L.map fkD))) := by
  rw [cl_in_order]
  have hm : mapD (callF TB (k + 2) (Str.ofString "fact_key")) L = .ok (L.map fkD) := mapD_map L fun f hf => by
    obtain ⟨a, ps, rfl, l1, c1⟩ := h f hf
    exact fact_key_ok k l1 c1
  simp only [b_in_order, leakE, leakL, leakPL, leakO, leakI, frz, frz1_sh, frz1_un, frz1_ow, frz1_succ, ob_some, ob_none, asB_bool, asI_int, asL_list, guard_tt, guard_ff, putV_nf, putV_int, putV_str, putV_bool, putV_none, putV_tup, putV_lst, putV_lsf, keepV_same, keepV_int, keepV_str, keepV_tup, keepV_lst, freshE, out_next, out_ret, out_exc, lenL, lenT, lenS, setTg_one, wipeR, notOw_sh, notOw_un, notOw_succ, cmp_eq_int, cmp_ne_int, cmp_eq_bool, cmp_ne_bool, cmp_eq_str, cmp_ne_str, cmp_lt_int, cmp_gt_int, cmp_le_int, cmp_ge_int, cmp_in, cmp_nin, cmp_is, cmp_isn, isD_bool, isD_none, bin_add, bin_sub, bin_adds, bin_addl, bin_addt, ix_list, ix_tup, ix_str, items_list, items_tup, items_str, isi_str, isi_tuple, isi_list, isi_bool, isi_int, isi_dict, List.getElem?_cons_zero, List.getElem?_cons_succ, List.set_cons_zero, List.set_cons_succ, List.append_nil, List.nil_append, List.cons_append, reduceIte, Bool.false_eq_true, Option.map_some, Option.map_none, Bool.false_and, Bool.true_and, Bool.and_false, Bool.and_true, Bool.or_false, Bool.or_true, Bool.false_or, Bool.true_or, Bool.not_true, Bool.not_false, List.all_cons, List.all_nil, List.length_cons, List.length_nil, execs_nil, execs_cons, kSeq_next, kSeq_ret, kSeq_exc, kSeq_brk, kSeq_cont, x_set, kSet_ok, kSet_exc, x_setT, kSetT_ok, kNx_ok, x_exp, kExp_ok, kExp_exc, x_app, kApp_ok, x_ext, kExt_ok, x_ret, kRet_ok, kRet_exc, x_retN, x_iff, kTst_ok, kTst_exc, kIf_tt, kIf_ff, x_for, kFor_ok, x_pass, x_brk, x_cont, x_whl, x_par, kPar1_ok, kPar2_ok, kLook_sh, kLook_ow, e_cst, e_glo, ev_var, ev_tup, ev_lst, kTup_ok, kLst_ok, ev_dic, ev_bin, kBin1_ok, kBin2_ok, ev_neg, kNeg_ok, ev_cmp, kCmp1_ok, kCmp2_ok, kBl_some, ev_chn, kCh1_ok, kCh2_ok, kCh3_tt, kCh3_ff, ev_and, ev_or, ev_not, ev_ife, kAnd_tt, kAnd_ff, kOr_tt, kOr_ff, kNot_ok, kIfe_tt, kIfe_ff, ev_call, kCall_ok, ev_bi, kBi_ok, ev_isi, kIsi_ok, ev_ix, kIx1_ok, kIx2_ok, ev_slc, kSl1_ok, kSl2_ok, kSl3_ok, eo_no, eo_so, kOi_ok, et_no, et_so, el_nil, el_cons, kL1_ok, kL2_ok, ep_nil, ep_cons, kP1_ok, ei_val, kIt_ok, ei_rng1, kR1_ok, ei_rng2, kR2_ok, kR3_ok, ei_zip, kZ1_ok, kZ2_ok, ev_lc, kLc_ok, kLe_ok, lcOne_1, kOne_tt, kOne_ff, kSm_ok, ev_rev, kRev_ok, ev_srt, kSrt_ok, kSr2_ok, szl0, szl1, szl2, szl3, szl4, szl5, szl6, szl7, szl8, szl9, szl10, szl11, szl12, szl13, szl14, szl15, szl16, Nat.reduceAdd, beq_self_eq_true, b_beq_true, b_beq_false, isOw_sh, isOw_un, frz1_no, notOw_no, forS_nil, forS_cons, kF1_ok, kF2_next, kF2_cont, kF2_brk, kF2_ret, kF2_exc, isOwL_0, isOwL_s, lk_x1_fact_key, hm, srt_ok hl h]
/-! the law's own order -/
theorem cmp_lt_str (x y : Str) : cmpD .Lt (.str x) (.str y) = some (decide (x.cps.toList < y.cps.toList)) := Eq.trans rfl rfl
theorem ck_lt (a b : D) (h : isC a = true) (h' : isC b = true) : PySem.W.dataLt (ck a) (ck b) = (match a, b with
    | .str s, .str t => decide (s.cps.toList < t.cps.toList)
    | .int i, .int j => decide (i < j)
    | .int _, .str _ => true
    | _, _ => false) := by
  rcases isC_cases h with ⟨s, rfl⟩ | ⟨i, rfl⟩ <;> rcases isC_cases h' with ⟨t, rfl⟩ | ⟨j, rfl⟩
  · show PySem.W.dataLt (.tuple [.int 1, .int 0, .str s]) (.tuple [.int 1, .int 0, .str t]) = decide (s.cps.toList < t.cps.toList)
    rw [PySem.W.dataLt_tuple, PySem.W.dataLt_cons rfl, if_pos (eqv_rfl _ rfl), PySem.W.dataLt_cons rfl, if_pos (eqv_rfl _ rfl), PySem.W.dataLt_cons rfl]
    split
    · rename_i e
      have e : s = t := by simpa [PyData.eqv] using e
      subst e
      rw [show PyProof.Rows.lexLt PyProof.Rows.itemOrd (PySem.W.keyToksAll []) (PySem.W.keyToksAll []) = false from PyProof.Rows.lex_irrefl _]
      have : ¬ s.cps.toList < s.cps.toList := List.lt_irrefl _
      simp [this]
    · exact PySem.W.dataLt_str s t
  · show PySem.W.dataLt (.tuple [.int 1, .int 0, .str s]) (.tuple [.int 0, .int j, .str (Str.ofString "")]) = false
    rw [PySem.W.dataLt_tuple, PySem.W.dataLt_cons rfl, if_neg (by decide), PySem.W.dataLt_int]
    rfl
  · show PySem.W.dataLt (.tuple [.int 0, .int i, .str (Str.ofString "")]) (.tuple [.int 1, .int 0, .str t]) = true
    rw [PySem.W.dataLt_tuple, PySem.W.dataLt_cons rfl, if_neg (by decide), PySem.W.dataLt_int]
    rfl
  · show PySem.W.dataLt (.tuple [.int 0, .int i, .str (Str.ofString "")]) (.tuple [.int 0, .int j, .str (Str.ofString "")]) = decide (i < j)
    rw [PySem.W.dataLt_tuple, PySem.W.dataLt_cons rfl, if_pos (eqv_rfl _ rfl), PySem.W.dataLt_cons rfl]
    split
    · rename_i e
      have e : i = j := by simpa [PyData.eqv] using e
      subst e
      rw [PyProof.Rows.lex_irrefl]
      simp
    · exact PySem.W.dataLt_int i j
theorem constant_less_ok (k : Nat) {a b : D} (h : isC a = true) (h' : isC b = true) : callF TB (k + 1) (Str.ofString "_law_constant_less") [a, b] = .ok (.bool (PySem.W.dataLt (ck a) (ck b))) := by
  rw [cl__law_constant_less, ck_lt a b h h']
  rcases isC_cases h with ⟨s, rfl⟩ | ⟨i, rfl⟩ <;> rcases isC_cases h' with ⟨t, rfl⟩ | ⟨j, rfl⟩ <;> simp only [b__law_constant_less, leakE, leakL, leakPL, leakO, leakI, frz, frz1_sh, frz1_un, frz1_ow, frz1_succ, ob_some, ob_none, asB_bool, asI_int, asL_list, guard_tt, guard_ff, putV_nf, putV_int, putV_str, putV_bool, putV_none, putV_tup, putV_lst, putV_lsf, keepV_same, keepV_int, keepV_str, keepV_tup, keepV_lst, freshE, out_next, out_ret, out_exc, lenL, lenT, lenS, setTg_one, wipeR, notOw_sh, notOw_un, notOw_succ, cmp_eq_int, cmp_ne_int, cmp_eq_bool, cmp_ne_bool, cmp_eq_str, cmp_ne_str, cmp_lt_int, cmp_gt_int, cmp_le_int, cmp_ge_int, cmp_in, cmp_nin, cmp_is, cmp_isn, isD_bool, isD_none, bin_add, bin_sub, bin_adds, bin_addl, bin_addt, ix_list, ix_tup, ix_str, items_list, items_tup, items_str, isi_str, isi_tuple, isi_list, isi_bool, isi_int, isi_dict, List.getElem?_cons_zero, List.getElem?_cons_succ, List.set_cons_zero, List.set_cons_succ, List.append_nil, List.nil_append, List.cons_append, reduceIte, Bool.false_eq_true, Option.map_some, Option.map_none, Bool.false_and, Bool.true_and, Bool.and_false, Bool.and_true, Bool.or_false, Bool.or_true, Bool.false_or, Bool.true_or, Bool.not_true, Bool.not_false, List.all_cons, List.all_nil, List.length_cons, List.length_nil, execs_nil, execs_cons, kSeq_next, kSeq_ret, kSeq_exc, kSeq_brk, kSeq_cont, x_set, kSet_ok, kSet_exc, x_setT, kSetT_ok, kNx_ok, x_exp, kExp_ok, kExp_exc, x_app, kApp_ok, x_ext, kExt_ok, x_ret, kRet_ok, kRet_exc, x_retN, x_iff, kTst_ok, kTst_exc, kIf_tt, kIf_ff, x_for, kFor_ok, x_pass, x_brk, x_cont, x_whl, x_par, kPar1_ok, kPar2_ok, kLook_sh, kLook_ow, e_cst, e_glo, ev_var, ev_tup, ev_lst, kTup_ok, kLst_ok, ev_dic, ev_bin, kBin1_ok, kBin2_ok, ev_neg, kNeg_ok, ev_cmp, kCmp1_ok, kCmp2_ok, kBl_some, ev_chn, kCh1_ok, kCh2_ok, kCh3_tt, kCh3_ff, ev_and, ev_or, ev_not, ev_ife, kAnd_tt, kAnd_ff, kOr_tt, kOr_ff, kNot_ok, kIfe_tt, kIfe_ff, ev_call, kCall_ok, ev_bi, kBi_ok, ev_isi, kIsi_ok, ev_ix, kIx1_ok, kIx2_ok, ev_slc, kSl1_ok, kSl2_ok, kSl3_ok, eo_no, eo_so, kOi_ok, et_no, et_so, el_nil, el_cons, kL1_ok, kL2_ok, ep_nil, ep_cons, kP1_ok, ei_val, kIt_ok, ei_rng1, kR1_ok, ei_rng2, kR2_ok, kR3_ok, ei_zip, kZ1_ok, kZ2_ok, ev_lc, kLc_ok, kLe_ok, lcOne_1, kOne_tt, kOne_ff, kSm_ok, ev_rev, kRev_ok, ev_srt, kSrt_ok, kSr2_ok, szl0, szl1, szl2, szl3, szl4, szl5, szl6, szl7, szl8, szl9, szl10, szl11, szl12, szl13, szl14, szl15, szl16, Nat.reduceAdd, beq_self_eq_true, b_beq_true, b_beq_false, isOw_sh, isOw_un, frz1_no, notOw_no, forS_nil, forS_cons, kF1_ok, kF2_next, kF2_cont, kF2_brk, kF2_ret, kF2_exc, isOwL_0, isOwL_s, lk_x1_fact_key, isS, cmp_lt_str]
/-- the first places that differ -/
def lessR : List D → List D → Option Bool
  | p :: ps, q :: qs => if PyData.eqv p q = true then lessR ps qs else some (PySem.W.dataLt (ck p) (ck q))
  | _, _ => none
theorem isC_smp {d : D} (h : isC d = true) : smp d = true ∧ d.depth = 0 := by
  rcases isC_cases h with ⟨s, rfl⟩ | ⟨i, rfl⟩ <;> exact ⟨rfl, rfl⟩
theorem cmp_ne_smp {a b : D} (ha : shp a = true) (hb : shp b = true) : cmpD .NotEq a b = some (!PyData.eqv a b) := by
  unfold cmpD
  simp only [ha, hb, Bool.and_self, guard_tt]
theorem less_loop (k : Nat) (x y : Sl) : ∀ (ps qs : List D) (l m : Sl), (∀ p ∈ ps, isC p = true) → (∀ p ∈ qs, isC p = true) → ∃ l' m', forS (setTg [2, 3] true) (execs (callF TB (k + 1)) false l1__law_fact_less) (List.zipWith (fun p q => PyData.tuple [p, q]) ps qs) [x, y, l, m] = (match lessR ps qs with
    | some b => .ret (.bool b)
    | none => .next [x, y, l', m'])
  | [], _, l, m, _, _ => ⟨l, m, by simp [lessR, forS]⟩
  | _ :: _, [], l, m, _, _ => ⟨l, m, by simp [lessR, forS]⟩
  | p :: ps, q :: qs, l, m, hp, hq => by
    obtain ⟨l', m', ih⟩ := less_loop k x y ps qs (.sh p) (.sh q) (fun z hz => hp z (List.mem_cons_of_mem _ hz)) fun z hz => hq z (List.mem_cons_of_mem _ hz)
    have cp := hp p List.mem_cons_self
    have cq := hq q List.mem_cons_self
    have hne := cmp_ne_smp (shp_smp (isC_smp cp).1 (by rw [(isC_smp cp).2]; omega)) (shp_smp (isC_smp cq).1 (by rw [(isC_smp cq).2]; omega))
    refine ⟨l', m', ?_⟩
    simp only [List.zipWith_cons_cons, leakE, leakL, leakPL, leakO, leakI, frz, frz1_sh, frz1_un, frz1_ow, frz1_succ, ob_some, ob_none, asB_bool, asI_int, asL_list, guard_tt, guard_ff, putV_nf, putV_int, putV_str, putV_bool, putV_none, putV_tup, putV_lst, putV_lsf, keepV_same, keepV_int, keepV_str, keepV_tup, keepV_lst, freshE, out_next, out_ret, out_exc, lenL, lenT, lenS, setTg_one, wipeR, notOw_sh, notOw_un, notOw_succ, cmp_eq_int, cmp_ne_int, cmp_eq_bool, cmp_ne_bool, cmp_eq_str, cmp_ne_str, cmp_lt_int, cmp_gt_int, cmp_le_int, cmp_ge_int, cmp_in, cmp_nin, cmp_is, cmp_isn, isD_bool, isD_none, bin_add, bin_sub, bin_adds, bin_addl, bin_addt, ix_list, ix_tup, ix_str, items_list, items_tup, items_str, isi_str, isi_tuple, isi_list, isi_bool, isi_int, isi_dict, List.getElem?_cons_zero, List.getElem?_cons_succ, List.set_cons_zero, List.set_cons_succ, List.append_nil, List.nil_append, List.cons_append, reduceIte, Bool.false_eq_true, Option.map_some, Option.map_none, Bool.false_and, Bool.true_and, Bool.and_false, Bool.and_true, Bool.or_false, Bool.or_true, Bool.false_or, Bool.true_or, Bool.not_true, Bool.not_false, List.all_cons, List.all_nil, List.length_cons, List.length_nil, execs_nil, execs_cons, kSeq_next, kSeq_ret, kSeq_exc, kSeq_brk, kSeq_cont, x_set, kSet_ok, kSet_exc, x_setT, kSetT_ok, kNx_ok, x_exp, kExp_ok, kExp_exc, x_app, kApp_ok, x_ext, kExt_ok, x_ret, kRet_ok, kRet_exc, x_retN, x_iff, kTst_ok, kTst_exc, kIf_tt, kIf_ff, x_for, kFor_ok, x_pass, x_brk, x_cont, x_whl, x_par, kPar1_ok, kPar2_ok, kLook_sh, kLook_ow, e_cst, e_glo, ev_var, ev_tup, ev_lst, kTup_ok, kLst_ok, ev_dic, ev_bin, kBin1_ok, kBin2_ok, ev_neg, kNeg_ok, ev_cmp, kCmp1_ok, kCmp2_ok, kBl_some, ev_chn, kCh1_ok, kCh2_ok, kCh3_tt, kCh3_ff, ev_and, ev_or, ev_not, ev_ife, kAnd_tt, kAnd_ff, kOr_tt, kOr_ff, kNot_ok, kIfe_tt, kIfe_ff, ev_call, kCall_ok, ev_bi, kBi_ok, ev_isi, kIsi_ok, ev_ix, kIx1_ok, kIx2_ok, ev_slc, kSl1_ok, kSl2_ok, kSl3_ok, eo_no, eo_so, kOi_ok, et_no, et_so, el_nil, el_cons, kL1_ok, kL2_ok, ep_nil, ep_cons, kP1_ok, ei_val, kIt_ok, ei_rng1, kR1_ok, ei_rng2, kR2_ok, kR3_ok, ei_zip, kZ1_ok, kZ2_ok, ev_lc, kLc_ok, kLe_ok, lcOne_1, kOne_tt, kOne_ff, kSm_ok, ev_rev, kRev_ok, ev_srt, kSrt_ok, kSr2_ok, szl0, szl1, szl2, szl3, szl4, szl5, szl6, szl7, szl8, szl9, szl10, szl11, szl12, szl13, szl14, szl15, szl16, Nat.reduceAdd, beq_self_eq_true, b_beq_true, b_beq_false, isOw_sh, isOw_un, frz1_no, notOw_no, forS_nil, forS_cons, kF1_ok, kF2_next, kF2_cont, kF2_brk, kF2_ret, kF2_exc, isOwL_0, isOwL_s, lk_x1_fact_key, setTg_two]
    have hb : execs (callF TB (k + 1)) false l1__law_fact_less [x, y, .sh p, .sh q] = if PyData.eqv p q = true then .next [x, y, .sh p, .sh q] else .ret (.bool (PySem.W.dataLt (ck p) (ck q))) := by
      simp only [l1__law_fact_less, leakE, leakL, leakPL, leakO, leakI, frz, frz1_sh, frz1_un, frz1_ow, frz1_succ, ob_some, ob_none, asB_bool, asI_int, asL_list, guard_tt, guard_ff, putV_nf, putV_int, putV_str, putV_bool, putV_none, putV_tup, putV_lst, putV_lsf, keepV_same, keepV_int, keepV_str, keepV_tup, keepV_lst, freshE, out_next, out_ret, out_exc, lenL, lenT, lenS, setTg_one, wipeR, notOw_sh, notOw_un, notOw_succ, cmp_eq_int, cmp_ne_int, cmp_eq_bool, cmp_ne_bool, cmp_eq_str, cmp_ne_str, cmp_lt_int, cmp_gt_int, cmp_le_int, cmp_ge_int, cmp_in, cmp_nin, cmp_is, cmp_isn, isD_bool, isD_none, bin_add, bin_sub, bin_adds, bin_addl, bin_addt, ix_list, ix_tup, ix_str, items_list, items_tup, items_str, isi_str, isi_tuple, isi_list, isi_bool, isi_int, isi_dict, List.getElem?_cons_zero, List.getElem?_cons_succ, List.set_cons_zero, List.set_cons_succ, List.append_nil, List.nil_append, List.cons_append, reduceIte, Bool.false_eq_true, Option.map_some, Option.map_none, Bool.false_and, Bool.true_and, Bool.and_false, Bool.and_true, Bool.or_false, Bool.or_true, Bool.false_or, Bool.true_or, Bool.not_true, Bool.not_false, List.all_cons, List.all_nil, List.length_cons, List.length_nil, execs_nil, execs_cons, kSeq_next, kSeq_ret, kSeq_exc, kSeq_brk, kSeq_cont, x_set, kSet_ok, kSet_exc, x_setT, kSetT_ok, kNx_ok, x_exp, kExp_ok, kExp_exc, x_app, kApp_ok, x_ext, kExt_ok, x_ret, kRet_ok, kRet_exc, x_retN, x_iff, kTst_ok, kTst_exc, kIf_tt, kIf_ff, x_for, kFor_ok, x_pass, x_brk, x_cont, x_whl, x_par, kPar1_ok, kPar2_ok, kLook_sh, kLook_ow, e_cst, e_glo, ev_var, ev_tup, ev_lst, kTup_ok, kLst_ok, ev_dic, ev_bin, kBin1_ok, kBin2_ok, ev_neg, kNeg_ok, ev_cmp, kCmp1_ok, kCmp2_ok, kBl_some, ev_chn, kCh1_ok, kCh2_ok, kCh3_tt, kCh3_ff, ev_and, ev_or, ev_not, ev_ife, kAnd_tt, kAnd_ff, kOr_tt, kOr_ff, kNot_ok, kIfe_tt, kIfe_ff, ev_call, kCall_ok, ev_bi, kBi_ok, ev_isi, kIsi_ok, ev_ix, kIx1_ok, kIx2_ok, ev_slc, kSl1_ok, kSl2_ok, kSl3_ok, eo_no, eo_so, kOi_ok, et_no, et_so, el_nil, el_cons, kL1_ok, kL2_ok, ep_nil, ep_cons, kP1_ok, ei_val, kIt_ok, ei_rng1, kR1_ok, ei_rng2, kR2_ok, kR3_ok, ei_zip, kZ1_ok, kZ2_ok, ev_lc, kLc_ok, kLe_ok, lcOne_1, kOne_tt, kOne_ff, kSm_ok, ev_rev, kRev_ok, ev_srt, kSrt_ok, kSr2_ok, szl0, szl1, szl2, szl3, szl4, szl5, szl6, szl7, szl8, szl9, szl10, szl11, szl12, szl13, szl14, szl15, szl16, Nat.reduceAdd, beq_self_eq_true, b_beq_true, b_beq_false, isOw_sh, isOw_un, frz1_no, notOw_no, forS_nil, forS_cons, kF1_ok, kF2_next, kF2_cont, kF2_brk, kF2_ret, kF2_exc, isOwL_0, isOwL_s, lk_x1_fact_key, hne]
      cases he : PyData.eqv p q <;> simp only [leakE, leakL, leakPL, leakO, leakI, frz, frz1_sh, frz1_un, frz1_ow, frz1_succ, ob_some, ob_none, asB_bool, asI_int, asL_list, guard_tt, guard_ff, putV_nf, putV_int, putV_str, putV_bool, putV_none, putV_tup, putV_lst, putV_lsf, keepV_same, keepV_int, keepV_str, keepV_tup, keepV_lst, freshE, out_next, out_ret, out_exc, lenL, lenT, lenS, setTg_one, wipeR, notOw_sh, notOw_un, notOw_succ, cmp_eq_int, cmp_ne_int, cmp_eq_bool, cmp_ne_bool, cmp_eq_str, cmp_ne_str, cmp_lt_int, cmp_gt_int, cmp_le_int, cmp_ge_int, cmp_in, cmp_nin, cmp_is, cmp_isn, isD_bool, isD_none, bin_add, bin_sub, bin_adds, bin_addl, bin_addt, ix_list, ix_tup, ix_str, items_list, items_tup, items_str, isi_str, isi_tuple, isi_list, isi_bool, isi_int, isi_dict, List.getElem?_cons_zero, List.getElem?_cons_succ, List.set_cons_zero, List.set_cons_succ, List.append_nil, List.nil_append, List.cons_append, reduceIte, Bool.false_eq_true, Option.map_some, Option.map_none, Bool.false_and, Bool.true_and, Bool.and_false, Bool.and_true, Bool.or_false, Bool.or_true, Bool.false_or, Bool.true_or, Bool.not_true, Bool.not_false, List.all_cons, List.all_nil, List.length_cons, List.length_nil, execs_nil, execs_cons, kSeq_next, kSeq_ret, kSeq_exc, kSeq_brk, kSeq_cont, x_set, kSet_ok, kSet_exc, x_setT, kSetT_ok, kNx_ok, x_exp, kExp_ok, kExp_exc, x_app, kApp_ok, x_ext, kExt_ok, x_ret, kRet_ok, kRet_exc, x_retN, x_iff, kTst_ok, kTst_exc, kIf_tt, kIf_ff, x_for, kFor_ok, x_pass, x_brk, x_cont, x_whl, x_par, kPar1_ok, kPar2_ok, kLook_sh, kLook_ow, e_cst, e_glo, ev_var, ev_tup, ev_lst, kTup_ok, kLst_ok, ev_dic, ev_bin, kBin1_ok, kBin2_ok, ev_neg, kNeg_ok, ev_cmp, kCmp1_ok, kCmp2_ok, kBl_some, ev_chn, kCh1_ok, kCh2_ok, kCh3_tt, kCh3_ff, ev_and, ev_or, ev_not, ev_ife, kAnd_tt, kAnd_ff, kOr_tt, kOr_ff, kNot_ok, kIfe_tt, kIfe_ff, ev_call, kCall_ok, ev_bi, kBi_ok, ev_isi, kIsi_ok, ev_ix, kIx1_ok, kIx2_ok, ev_slc, kSl1_ok, kSl2_ok, kSl3_ok, eo_no, eo_so, kOi_ok, et_no, et_so, el_nil, el_cons, kL1_ok, kL2_ok, ep_nil, ep_cons, kP1_ok, ei_val, kIt_ok, ei_rng1, kR1_ok, ei_rng2, kR2_ok, kR3_ok, ei_zip, kZ1_ok, kZ2_ok, ev_lc, kLc_ok, kLe_ok, lcOne_1, kOne_tt, kOne_ff, kSm_ok, ev_rev, kRev_ok, ev_srt, kSrt_ok, kSr2_ok, szl0, szl1, szl2, szl3, szl4, szl5, szl6, szl7, szl8, szl9, szl10, szl11, szl12, szl13, szl14, szl15, szl16, Nat.reduceAdd, beq_self_eq_true, b_beq_true, b_beq_false, isOw_sh, isOw_un, frz1_no, notOw_no, forS_nil, forS_cons, kF1_ok, kF2_next, kF2_cont, kF2_brk, kF2_ret, kF2_exc, isOwL_0, isOwL_s, lk_x1_fact_key, constant_less_ok k cp cq]
    rw [hb]
    by_cases he : PyData.eqv p q = true
    · simp only [he, leakE, leakL, leakPL, leakO, leakI, frz, frz1_sh, frz1_un, frz1_ow, frz1_succ, ob_some, ob_none, asB_bool, asI_int, asL_list, guard_tt, guard_ff, putV_nf, putV_int, putV_str, putV_bool, putV_none, putV_tup, putV_lst, putV_lsf, keepV_same, keepV_int, keepV_str, keepV_tup, keepV_lst, freshE, out_next, out_ret, out_exc, lenL, lenT, lenS, setTg_one, wipeR, notOw_sh, notOw_un, notOw_succ, cmp_eq_int, cmp_ne_int, cmp_eq_bool, cmp_ne_bool, cmp_eq_str, cmp_ne_str, cmp_lt_int, cmp_gt_int, cmp_le_int, cmp_ge_int, cmp_in, cmp_nin, cmp_is, cmp_isn, isD_bool, isD_none, bin_add, bin_sub, bin_adds, bin_addl, bin_addt, ix_list, ix_tup, ix_str, items_list, items_tup, items_str, isi_str, isi_tuple, isi_list, isi_bool, isi_int, isi_dict, List.getElem?_cons_zero, List.getElem?_cons_succ, List.set_cons_zero, List.set_cons_succ, List.append_nil, List.nil_append, List.cons_append, reduceIte, Bool.false_eq_true, Option.map_some, Option.map_none, Bool.false_and, Bool.true_and, Bool.and_false, Bool.and_true, Bool.or_false, Bool.or_true, Bool.false_or, Bool.true_or, Bool.not_true, Bool.not_false, List.all_cons, List.all_nil, List.length_cons, List.length_nil, execs_nil, execs_cons, kSeq_next, kSeq_ret, kSeq_exc, kSeq_brk, kSeq_cont, x_set, kSet_ok, kSet_exc, x_setT, kSetT_ok, kNx_ok, x_exp, kExp_ok, kExp_exc, x_app, kApp_ok, x_ext, kExt_ok, x_ret, kRet_ok, kRet_exc, x_retN, x_iff, kTst_ok, kTst_exc, kIf_tt, kIf_ff, x_for, kFor_ok, x_pass, x_brk, x_cont, x_whl, x_par, kPar1_ok, kPar2_ok, kLook_sh, kLook_ow, e_cst, e_glo, ev_var, ev_tup, ev_lst, kTup_ok, kLst_ok, ev_dic, ev_bin, kBin1_ok, kBin2_ok, ev_neg, kNeg_ok, ev_cmp, kCmp1_ok, kCmp2_ok, kBl_some, ev_chn, kCh1_ok, kCh2_ok, kCh3_tt, kCh3_ff, ev_and, ev_or, ev_not, ev_ife, kAnd_tt, kAnd_ff, kOr_tt, kOr_ff, kNot_ok, kIfe_tt, kIfe_ff, ev_call, kCall_ok, ev_bi, kBi_ok, ev_isi, kIsi_ok, ev_ix, kIx1_ok, kIx2_ok, ev_slc, kSl1_ok, kSl2_ok, kSl3_ok, eo_no, eo_so, kOi_ok, et_no, et_so, el_nil, el_cons, kL1_ok, kL2_ok, ep_nil, ep_cons, kP1_ok, ei_val, kIt_ok, ei_rng1, kR1_ok, ei_rng2, kR2_ok, kR3_ok, ei_zip, kZ1_ok, kZ2_ok, ev_lc, kLc_ok, kLe_ok, lcOne_1, kOne_tt, kOne_ff, kSm_ok, ev_rev, kRev_ok, ev_srt, kSrt_ok, kSr2_ok, szl0, szl1, szl2, szl3, szl4, szl5, szl6, szl7, szl8, szl9, szl10, szl11, szl12, szl13, szl14, szl15, szl16, Nat.reduceAdd, beq_self_eq_true, b_beq_true, b_beq_false, isOw_sh, isOw_un, frz1_no, notOw_no, forS_nil, forS_cons, kF1_ok, kF2_next, kF2_cont, kF2_brk, kF2_ret, kF2_exc, isOwL_0, isOwL_s, lk_x1_fact_key, ih, lessR]
    · simp only [Bool.eq_false_iff.mpr he, leakE, leakL, leakPL, leakO, leakI, frz, frz1_sh, frz1_un, frz1_ow, frz1_succ, ob_some, ob_none, asB_bool, asI_int, asL_list, guard_tt, guard_ff, putV_nf, putV_int, putV_str, putV_bool, putV_none, putV_tup, putV_lst, putV_lsf, keepV_same, keepV_int, keepV_str, keepV_tup, keepV_lst, freshE, out_next, out_ret, out_exc, lenL, lenT, lenS, setTg_one, wipeR, notOw_sh, notOw_un, notOw_succ, cmp_eq_int, cmp_ne_int, cmp_eq_bool, cmp_ne_bool, cmp_eq_str, cmp_ne_str, cmp_lt_int, cmp_gt_int, cmp_le_int, cmp_ge_int, cmp_in, cmp_nin, cmp_is, cmp_isn, isD_bool, isD_none, bin_add, bin_sub, bin_adds, bin_addl, bin_addt, ix_list, ix_tup, ix_str, items_list, items_tup, items_str, isi_str, isi_tuple, isi_list, isi_bool, isi_int, isi_dict, List.getElem?_cons_zero, List.getElem?_cons_succ, List.set_cons_zero, List.set_cons_succ, List.append_nil, List.nil_append, List.cons_append, reduceIte, Bool.false_eq_true, Option.map_some, Option.map_none, Bool.false_and, Bool.true_and, Bool.and_false, Bool.and_true, Bool.or_false, Bool.or_true, Bool.false_or, Bool.true_or, Bool.not_true, Bool.not_false, List.all_cons, List.all_nil, List.length_cons, List.length_nil, execs_nil, execs_cons, kSeq_next, kSeq_ret, kSeq_exc, kSeq_brk, kSeq_cont, x_set, kSet_ok, kSet_exc, x_setT, kSetT_ok, kNx_ok, x_exp, kExp_ok, kExp_exc, x_app, kApp_ok, x_ext, kExt_ok, x_ret, kRet_ok, kRet_exc, x_retN, x_iff, kTst_ok, kTst_exc, kIf_tt, kIf_ff, x_for, kFor_ok, x_pass, x_brk, x_cont, x_whl, x_par, kPar1_ok, kPar2_ok, kLook_sh, kLook_ow, e_cst, e_glo, ev_var, ev_tup, ev_lst, kTup_ok, kLst_ok, ev_dic, ev_bin, kBin1_ok, kBin2_ok, ev_neg, kNeg_ok, ev_cmp, kCmp1_ok, kCmp2_ok, kBl_some, ev_chn, kCh1_ok, kCh2_ok, kCh3_tt, kCh3_ff, ev_and, ev_or, ev_not, ev_ife, kAnd_tt, kAnd_ff, kOr_tt, kOr_ff, kNot_ok, kIfe_tt, kIfe_ff, ev_call, kCall_ok, ev_bi, kBi_ok, ev_isi, kIsi_ok, ev_ix, kIx1_ok, kIx2_ok, ev_slc, kSl1_ok, kSl2_ok, kSl3_ok, eo_no, eo_so, kOi_ok, et_no, et_so, el_nil, el_cons, kL1_ok, kL2_ok, ep_nil, ep_cons, kP1_ok, ei_val, kIt_ok, ei_rng1, kR1_ok, ei_rng2, kR2_ok, kR3_ok, ei_zip, kZ1_ok, kZ2_ok, ev_lc, kLc_ok, kLe_ok, lcOne_1, kOne_tt, kOne_ff, kSm_ok, ev_rev, kRev_ok, ev_srt, kSrt_ok, kSr2_ok, szl0, szl1, szl2, szl3, szl4, szl5, szl6, szl7, szl8, szl9, szl10, szl11, szl12, szl13, szl14, szl15, szl16, Nat.reduceAdd, beq_self_eq_true, b_beq_true, b_beq_false, isOw_sh, isOw_un, frz1_no, notOw_no, forS_nil, forS_cons, kF1_ok, kF2_next, kF2_cont, kF2_brk, kF2_ret, kF2_exc, isOwL_0, isOwL_s, lk_x1_fact_key, lessR]
theorem lessR_toks : ∀ (ps qs : List D), ps.length = qs.length → (∀ p ∈ ps, isC p = true) → (∀ p ∈ qs, isC p = true) → PyProof.Rows.lexLt PyProof.Rows.itemOrd (PySem.W.keyToksAll (ps.map ck)) (PySem.W.keyToksAll (qs.map ck)) = (lessR ps qs).getD false
  | [], [], _, _, _ => PyProof.Rows.lex_irrefl _
  | [], _ :: _, h, _, _ => by simp at h
  | _ :: _, [], h, _, _ => by simp at h
  | p :: ps, q :: qs, hl, hp, hq => by
    have cp := hp p List.mem_cons_self
    have cq := hq q List.mem_cons_self
    have ih := lessR_toks ps qs (by simpa using hl) (fun z hz => hp z (List.mem_cons_of_mem _ hz)) fun z hz => hq z (List.mem_cons_of_mem _ hz)
    rw [List.map_cons, List.map_cons, PySem.W.dataLt_cons (ck_alike cp cq), ih, lessR]
    have e : (PyData.eqv (ck p) (ck q) = true) = (PyData.eqv p q = true) := by
      rw [eqv_iff (ck_smp cp).1 (ck_smp cq).1, eqv_iff (isC_smp cp).1 (isC_smp cq).1]
      exact propext ⟨ck_inj cp cq, fun h => by rw [h]⟩
    simp only [e]
    split <;> rfl
theorem fk_lt (h g : Str) (ps qs : List D) (hp : ∀ p ∈ ps, isC p = true) (hq : ∀ p ∈ qs, isC p = true) : PySem.W.dataLt (fk h ps) (fk g qs) = if h = g then (if ps.length = qs.length then (lessR ps qs).getD false else decide ((ps.length : Int) < qs.length)) else decide (h.cps.toList < g.cps.toList) := by
  unfold fk
  rw [PySem.W.dataLt_tuple, PySem.W.dataLt_cons rfl]
  by_cases e : h = g
  · subst e
    rw [if_pos (by simp [PyData.eqv]), if_pos rfl, PySem.W.dataLt_cons rfl]
    by_cases e2 : ps.length = qs.length
    · rw [if_pos (by simp [PyData.eqv, e2]), if_pos e2, PySem.W.dataLt_cons (by simpa [PySem.W.alike] using alikes hp hq)]
      split
      · rename_i e3
        have e4 := map_ck_inj hp hq (by simpa using eqv_smp (.list (ps.map ck)) (.list (qs.map ck)) (by simpa [smp] using (cks hp).1) (by simpa [smp] using (cks hq).1) e3)
        subst e4
        rw [PyProof.Rows.lex_irrefl, ← lessR_toks ps ps rfl hp hp, PyProof.Rows.lex_irrefl]
      · rw [PySem.W.dataLt_list]
        exact lessR_toks ps qs e2 hp hq
    · rw [if_neg (by simp [PyData.eqv]; omega), if_neg e2]
      exact PySem.W.dataLt_int _ _
  · rw [if_neg (by simp [PyData.eqv, e]), if_neg e]
    exact PySem.W.dataLt_str h g
theorem fact_less_ok (k : Nat) {f g : D} (hf : isF f) (hg : isF g) : callF TB (k + 2) (Str.ofString "_law_fact_less") [f, g] = .ok (.bool (PySem.W.dataLt (fkD f) (fkD g))) := by
  obtain ⟨a, ps, rfl, l1, c1⟩ := hf
  obtain ⟨b, qs, rfl, l2, c2⟩ := hg
  rw [cl__law_fact_less]
  have i0 : atI [PyData.str a, .tuple ps] 0 = some (.str a) := rfl
  have i1 : atI [PyData.str a, .tuple ps] 1 = some (.tuple ps) := rfl
  have j0 : atI [PyData.str b, .tuple qs] 0 = some (.str b) := rfl
  have j1 : atI [PyData.str b, .tuple qs] 1 = some (.tuple qs) := rfl
  have hz : zipD (.tuple ps) (.tuple qs) = some (List.zipWith (fun p q => PyData.tuple [p, q]) ps qs) := rfl
  simp only [fkD, fk_lt a b ps qs c1 c2]
  simp only [b__law_fact_less, leakE, leakL, leakPL, leakO, leakI, frz, frz1_sh, frz1_un, frz1_ow, frz1_succ, ob_some, ob_none, asB_bool, asI_int, asL_list, guard_tt, guard_ff, putV_nf, putV_int, putV_str, putV_bool, putV_none, putV_tup, putV_lst, putV_lsf, keepV_same, keepV_int, keepV_str, keepV_tup, keepV_lst, freshE, out_next, out_ret, out_exc, lenL, lenT, lenS, setTg_one, wipeR, notOw_sh, notOw_un, notOw_succ, cmp_eq_int, cmp_ne_int, cmp_eq_bool, cmp_ne_bool, cmp_eq_str, cmp_ne_str, cmp_lt_int, cmp_gt_int, cmp_le_int, cmp_ge_int, cmp_in, cmp_nin, cmp_is, cmp_isn, isD_bool, isD_none, bin_add, bin_sub, bin_adds, bin_addl, bin_addt, ix_list, ix_tup, ix_str, items_list, items_tup, items_str, isi_str, isi_tuple, isi_list, isi_bool, isi_int, isi_dict, List.getElem?_cons_zero, List.getElem?_cons_succ, List.set_cons_zero, List.set_cons_succ, List.append_nil, List.nil_append, List.cons_append, reduceIte, Bool.false_eq_true, Option.map_some, Option.map_none, Bool.false_and, Bool.true_and, Bool.and_false, Bool.and_true, Bool.or_false, Bool.or_true, Bool.false_or, Bool.true_or, Bool.not_true, Bool.not_false, List.all_cons, List.all_nil, List.length_cons, List.length_nil, execs_nil, execs_cons, kSeq_next, kSeq_ret, kSeq_exc, kSeq_brk, kSeq_cont, x_set, kSet_ok, kSet_exc, x_setT, kSetT_ok, kNx_ok, x_exp, kExp_ok, kExp_exc, x_app, kApp_ok, x_ext, kExt_ok, x_ret, kRet_ok, kRet_exc, x_retN, x_iff, kTst_ok, kTst_exc, kIf_tt, kIf_ff, x_for, kFor_ok, x_pass, x_brk, x_cont, x_whl, x_par, kPar1_ok, kPar2_ok, kLook_sh, kLook_ow, e_cst, e_glo, ev_var, ev_tup, ev_lst, kTup_ok, kLst_ok, ev_dic, ev_bin, kBin1_ok, kBin2_ok, ev_neg, kNeg_ok, ev_cmp, kCmp1_ok, kCmp2_ok, kBl_some, ev_chn, kCh1_ok, kCh2_ok, kCh3_tt, kCh3_ff, ev_and, ev_or, ev_not, ev_ife, kAnd_tt, kAnd_ff, kOr_tt, kOr_ff, kNot_ok, kIfe_tt, kIfe_ff, ev_call, kCall_ok, ev_bi, kBi_ok, ev_isi, kIsi_ok, ev_ix, kIx1_ok, kIx2_ok, ev_slc, kSl1_ok, kSl2_ok, kSl3_ok, eo_no, eo_so, kOi_ok, et_no, et_so, el_nil, el_cons, kL1_ok, kL2_ok, ep_nil, ep_cons, kP1_ok, ei_val, kIt_ok, ei_rng1, kR1_ok, ei_rng2, kR2_ok, kR3_ok, ei_zip, kZ1_ok, kZ2_ok, ev_lc, kLc_ok, kLe_ok, lcOne_1, kOne_tt, kOne_ff, kSm_ok, ev_rev, kRev_ok, ev_srt, kSrt_ok, kSr2_ok, szl0, szl1, szl2, szl3, szl4, szl5, szl6, szl7, szl8, szl9, szl10, szl11, szl12, szl13, szl14, szl15, szl16, Nat.reduceAdd, beq_self_eq_true, b_beq_true, b_beq_false, isOw_sh, isOw_un, frz1_no, notOw_no, forS_nil, forS_cons, kF1_ok, kF2_next, kF2_cont, kF2_brk, kF2_ret, kF2_exc, isOwL_0, isOwL_s, lk_x1_fact_key, i0, j0]
  by_cases e : a = b
  · subst e
    simp only [beq_self_eq_true, leakE, leakL, leakPL, leakO, leakI, frz, frz1_sh, frz1_un, frz1_ow, frz1_succ, ob_some, ob_none, asB_bool, asI_int, asL_list, guard_tt, guard_ff, putV_nf, putV_int, putV_str, putV_bool, putV_none, putV_tup, putV_lst, putV_lsf, keepV_same, keepV_int, keepV_str, keepV_tup, keepV_lst, freshE, out_next, out_ret, out_exc, lenL, lenT, lenS, setTg_one, wipeR, notOw_sh, notOw_un, notOw_succ, cmp_eq_int, cmp_ne_int, cmp_eq_bool, cmp_ne_bool, cmp_eq_str, cmp_ne_str, cmp_lt_int, cmp_gt_int, cmp_le_int, cmp_ge_int, cmp_in, cmp_nin, cmp_is, cmp_isn, isD_bool, isD_none, bin_add, bin_sub, bin_adds, bin_addl, bin_addt, ix_list, ix_tup, ix_str, items_list, items_tup, items_str, isi_str, isi_tuple, isi_list, isi_bool, isi_int, isi_dict, List.getElem?_cons_zero, List.getElem?_cons_succ, List.set_cons_zero, List.set_cons_succ, List.append_nil, List.nil_append, List.cons_append, reduceIte, Bool.false_eq_true, Option.map_some, Option.map_none, Bool.false_and, Bool.true_and, Bool.and_false, Bool.and_true, Bool.or_false, Bool.or_true, Bool.false_or, Bool.true_or, Bool.not_true, Bool.not_false, List.all_cons, List.all_nil, List.length_cons, List.length_nil, execs_nil, execs_cons, kSeq_next, kSeq_ret, kSeq_exc, kSeq_brk, kSeq_cont, x_set, kSet_ok, kSet_exc, x_setT, kSetT_ok, kNx_ok, x_exp, kExp_ok, kExp_exc, x_app, kApp_ok, x_ext, kExt_ok, x_ret, kRet_ok, kRet_exc, x_retN, x_iff, kTst_ok, kTst_exc, kIf_tt, kIf_ff, x_for, kFor_ok, x_pass, x_brk, x_cont, x_whl, x_par, kPar1_ok, kPar2_ok, kLook_sh, kLook_ow, e_cst, e_glo, ev_var, ev_tup, ev_lst, kTup_ok, kLst_ok, ev_dic, ev_bin, kBin1_ok, kBin2_ok, ev_neg, kNeg_ok, ev_cmp, kCmp1_ok, kCmp2_ok, kBl_some, ev_chn, kCh1_ok, kCh2_ok, kCh3_tt, kCh3_ff, ev_and, ev_or, ev_not, ev_ife, kAnd_tt, kAnd_ff, kOr_tt, kOr_ff, kNot_ok, kIfe_tt, kIfe_ff, ev_call, kCall_ok, ev_bi, kBi_ok, ev_isi, kIsi_ok, ev_ix, kIx1_ok, kIx2_ok, ev_slc, kSl1_ok, kSl2_ok, kSl3_ok, eo_no, eo_so, kOi_ok, et_no, et_so, el_nil, el_cons, kL1_ok, kL2_ok, ep_nil, ep_cons, kP1_ok, ei_val, kIt_ok, ei_rng1, kR1_ok, ei_rng2, kR2_ok, kR3_ok, ei_zip, kZ1_ok, kZ2_ok, ev_lc, kLc_ok, kLe_ok, lcOne_1, kOne_tt, kOne_ff, kSm_ok, ev_rev, kRev_ok, ev_srt, kSrt_ok, kSr2_ok, szl0, szl1, szl2, szl3, szl4, szl5, szl6, szl7, szl8, szl9, szl10, szl11, szl12, szl13, szl14, szl15, szl16, Nat.reduceAdd, beq_self_eq_true, b_beq_true, b_beq_false, isOw_sh, isOw_un, frz1_no, notOw_no, forS_nil, forS_cons, kF1_ok, kF2_next, kF2_cont, kF2_brk, kF2_ret, kF2_exc, isOwL_0, isOwL_s, lk_x1_fact_key, i1, j1]
    by_cases e2 : ps.length = qs.length
    · obtain ⟨l', m', hl⟩ := less_loop k (.sh (.tuple [.str a, .tuple ps])) (.sh (.tuple [.str a, .tuple qs])) ps qs .un .un c1 c2
      have e3 : ((ps.length : Int) = qs.length) := by omega
      simp only [e3, e2, decide_true, leakE, leakL, leakPL, leakO, leakI, frz, frz1_sh, frz1_un, frz1_ow, frz1_succ, ob_some, ob_none, asB_bool, asI_int, asL_list, guard_tt, guard_ff, putV_nf, putV_int, putV_str, putV_bool, putV_none, putV_tup, putV_lst, putV_lsf, keepV_same, keepV_int, keepV_str, keepV_tup, keepV_lst, freshE, out_next, out_ret, out_exc, lenL, lenT, lenS, setTg_one, wipeR, notOw_sh, notOw_un, notOw_succ, cmp_eq_int, cmp_ne_int, cmp_eq_bool, cmp_ne_bool, cmp_eq_str, cmp_ne_str, cmp_lt_int, cmp_gt_int, cmp_le_int, cmp_ge_int, cmp_in, cmp_nin, cmp_is, cmp_isn, isD_bool, isD_none, bin_add, bin_sub, bin_adds, bin_addl, bin_addt, ix_list, ix_tup, ix_str, items_list, items_tup, items_str, isi_str, isi_tuple, isi_list, isi_bool, isi_int, isi_dict, List.getElem?_cons_zero, List.getElem?_cons_succ, List.set_cons_zero, List.set_cons_succ, List.append_nil, List.nil_append, List.cons_append, reduceIte, Bool.false_eq_true, Option.map_some, Option.map_none, Bool.false_and, Bool.true_and, Bool.and_false, Bool.and_true, Bool.or_false, Bool.or_true, Bool.false_or, Bool.true_or, Bool.not_true, Bool.not_false, List.all_cons, List.all_nil, List.length_cons, List.length_nil, execs_nil, execs_cons, kSeq_next, kSeq_ret, kSeq_exc, kSeq_brk, kSeq_cont, x_set, kSet_ok, kSet_exc, x_setT, kSetT_ok, kNx_ok, x_exp, kExp_ok, kExp_exc, x_app, kApp_ok, x_ext, kExt_ok, x_ret, kRet_ok, kRet_exc, x_retN, x_iff, kTst_ok, kTst_exc, kIf_tt, kIf_ff, x_for, kFor_ok, x_pass, x_brk, x_cont, x_whl, x_par, kPar1_ok, kPar2_ok, kLook_sh, kLook_ow, e_cst, e_glo, ev_var, ev_tup, ev_lst, kTup_ok, kLst_ok, ev_dic, ev_bin, kBin1_ok, kBin2_ok, ev_neg, kNeg_ok, ev_cmp, kCmp1_ok, kCmp2_ok, kBl_some, ev_chn, kCh1_ok, kCh2_ok, kCh3_tt, kCh3_ff, ev_and, ev_or, ev_not, ev_ife, kAnd_tt, kAnd_ff, kOr_tt, kOr_ff, kNot_ok, kIfe_tt, kIfe_ff, ev_call, kCall_ok, ev_bi, kBi_ok, ev_isi, kIsi_ok, ev_ix, kIx1_ok, kIx2_ok, ev_slc, kSl1_ok, kSl2_ok, kSl3_ok, eo_no, eo_so, kOi_ok, et_no, et_so, el_nil, el_cons, kL1_ok, kL2_ok, ep_nil, ep_cons, kP1_ok, ei_val, kIt_ok, ei_rng1, kR1_ok, ei_rng2, kR2_ok, kR3_ok, ei_zip, kZ1_ok, kZ2_ok, ev_lc, kLc_ok, kLe_ok, lcOne_1, kOne_tt, kOne_ff, kSm_ok, ev_rev, kRev_ok, ev_srt, kSrt_ok, kSr2_ok, szl0, szl1, szl2, szl3, szl4, szl5, szl6, szl7, szl8, szl9, szl10, szl11, szl12, szl13, szl14, szl15, szl16, Nat.reduceAdd, beq_self_eq_true, b_beq_true, b_beq_false, isOw_sh, isOw_un, frz1_no, notOw_no, forS_nil, forS_cons, kF1_ok, kF2_next, kF2_cont, kF2_brk, kF2_ret, kF2_exc, isOwL_0, isOwL_s, lk_x1_fact_key, i1, j1, hz, hl]
      cases lessR ps qs <;> simp only [leakE, leakL, leakPL, leakO, leakI, frz, frz1_sh, frz1_un, frz1_ow, frz1_succ, ob_some, ob_none, asB_bool, asI_int, asL_list, guard_tt, guard_ff, putV_nf, putV_int, putV_str, putV_bool, putV_none, putV_tup, putV_lst, putV_lsf, keepV_same, keepV_int, keepV_str, keepV_tup, keepV_lst, freshE, out_next, out_ret, out_exc, lenL, lenT, lenS, setTg_one, wipeR, notOw_sh, notOw_un, notOw_succ, cmp_eq_int, cmp_ne_int, cmp_eq_bool, cmp_ne_bool, cmp_eq_str, cmp_ne_str, cmp_lt_int, cmp_gt_int, cmp_le_int, cmp_ge_int, cmp_in, cmp_nin, cmp_is, cmp_isn, isD_bool, isD_none, bin_add, bin_sub, bin_adds, bin_addl, bin_addt, ix_list, ix_tup, ix_str, items_list, items_tup, items_str, isi_str, isi_tuple, isi_list, isi_bool, isi_int, isi_dict, List.getElem?_cons_zero, List.getElem?_cons_succ, List.set_cons_zero, List.set_cons_succ, List.append_nil, List.nil_append, List.cons_append, reduceIte, Bool.false_eq_true, Option.map_some, Option.map_none, Bool.false_and, Bool.true_and, Bool.and_false, Bool.and_true, Bool.or_false, Bool.or_true, Bool.false_or, Bool.true_or, Bool.not_true, Bool.not_false, List.all_cons, List.all_nil, List.length_cons, List.length_nil, execs_nil, execs_cons, kSeq_next, kSeq_ret, kSeq_exc, kSeq_brk, kSeq_cont, x_set, kSet_ok, kSet_exc, x_setT, kSetT_ok, kNx_ok, x_exp, kExp_ok, kExp_exc, x_app, kApp_ok, x_ext, kExt_ok, x_ret, kRet_ok, kRet_exc, x_retN, x_iff, kTst_ok, kTst_exc, kIf_tt, kIf_ff, x_for, kFor_ok, x_pass, x_brk, x_cont, x_whl, x_par, kPar1_ok, kPar2_ok, kLook_sh, kLook_ow, e_cst, e_glo, ev_var, ev_tup, ev_lst, kTup_ok, kLst_ok, ev_dic, ev_bin, kBin1_ok, kBin2_ok, ev_neg, kNeg_ok, ev_cmp, kCmp1_ok, kCmp2_ok, kBl_some, ev_chn, kCh1_ok, kCh2_ok, kCh3_tt, kCh3_ff, ev_and, ev_or, ev_not, ev_ife, kAnd_tt, kAnd_ff, kOr_tt, kOr_ff, kNot_ok, kIfe_tt, kIfe_ff, ev_call, kCall_ok, ev_bi, kBi_ok, ev_isi, kIsi_ok, ev_ix, kIx1_ok, kIx2_ok, ev_slc, kSl1_ok, kSl2_ok, kSl3_ok, eo_no, eo_so, kOi_ok, et_no, et_so, el_nil, el_cons, kL1_ok, kL2_ok, ep_nil, ep_cons, kP1_ok, ei_val, kIt_ok, ei_rng1, kR1_ok, ei_rng2, kR2_ok, kR3_ok, ei_zip, kZ1_ok, kZ2_ok, ev_lc, kLc_ok, kLe_ok, lcOne_1, kOne_tt, kOne_ff, kSm_ok, ev_rev, kRev_ok, ev_srt, kSrt_ok, kSr2_ok, szl0, szl1, szl2, szl3, szl4, szl5, szl6, szl7, szl8, szl9, szl10, szl11, szl12, szl13, szl14, szl15, szl16, Nat.reduceAdd, beq_self_eq_true, b_beq_true, b_beq_false, isOw_sh, isOw_un, frz1_no, notOw_no, forS_nil, forS_cons, kF1_ok, kF2_next, kF2_cont, kF2_brk, kF2_ret, kF2_exc, isOwL_0, isOwL_s, lk_x1_fact_key, Option.getD_none, Option.getD_some]
    · have e3 : ¬ ((ps.length : Int) = qs.length) := by omega
      simp only [e3, e2, decide_false, leakE, leakL, leakPL, leakO, leakI, frz, frz1_sh, frz1_un, frz1_ow, frz1_succ, ob_some, ob_none, asB_bool, asI_int, asL_list, guard_tt, guard_ff, putV_nf, putV_int, putV_str, putV_bool, putV_none, putV_tup, putV_lst, putV_lsf, keepV_same, keepV_int, keepV_str, keepV_tup, keepV_lst, freshE, out_next, out_ret, out_exc, lenL, lenT, lenS, setTg_one, wipeR, notOw_sh, notOw_un, notOw_succ, cmp_eq_int, cmp_ne_int, cmp_eq_bool, cmp_ne_bool, cmp_eq_str, cmp_ne_str, cmp_lt_int, cmp_gt_int, cmp_le_int, cmp_ge_int, cmp_in, cmp_nin, cmp_is, cmp_isn, isD_bool, isD_none, bin_add, bin_sub, bin_adds, bin_addl, bin_addt, ix_list, ix_tup, ix_str, items_list, items_tup, items_str, isi_str, isi_tuple, isi_list, isi_bool, isi_int, isi_dict, List.getElem?_cons_zero, List.getElem?_cons_succ, List.set_cons_zero, List.set_cons_succ, List.append_nil, List.nil_append, List.cons_append, reduceIte, Bool.false_eq_true, Option.map_some, Option.map_none, Bool.false_and, Bool.true_and, Bool.and_false, Bool.and_true, Bool.or_false, Bool.or_true, Bool.false_or, Bool.true_or, Bool.not_true, Bool.not_false, List.all_cons, List.all_nil, List.length_cons, List.length_nil, execs_nil, execs_cons, kSeq_next, kSeq_ret, kSeq_exc, kSeq_brk, kSeq_cont, x_set, kSet_ok, kSet_exc, x_setT, kSetT_ok, kNx_ok, x_exp, kExp_ok, kExp_exc, x_app, kApp_ok, x_ext, kExt_ok, x_ret, kRet_ok, kRet_exc, x_retN, x_iff, kTst_ok, kTst_exc, kIf_tt, kIf_ff, x_for, kFor_ok, x_pass, x_brk, x_cont, x_whl, x_par, kPar1_ok, kPar2_ok, kLook_sh, kLook_ow, e_cst, e_glo, ev_var, ev_tup, ev_lst, kTup_ok, kLst_ok, ev_dic, ev_bin, kBin1_ok, kBin2_ok, ev_neg, kNeg_ok, ev_cmp, kCmp1_ok, kCmp2_ok, kBl_some, ev_chn, kCh1_ok, kCh2_ok, kCh3_tt, kCh3_ff, ev_and, ev_or, ev_not, ev_ife, kAnd_tt, kAnd_ff, kOr_tt, kOr_ff, kNot_ok, kIfe_tt, kIfe_ff, ev_call, kCall_ok, ev_bi, kBi_ok, ev_isi, kIsi_ok, ev_ix, kIx1_ok, kIx2_ok, ev_slc, kSl1_ok, kSl2_ok, kSl3_ok, eo_no, eo_so, kOi_ok, et_no, et_so, el_nil, el_cons, kL1_ok, kL2_ok, ep_nil, ep_cons, kP1_ok, ei_val, kIt_ok, ei_rng1, kR1_ok, ei_rng2, kR2_ok, kR3_ok, ei_zip, kZ1_ok, kZ2_ok, ev_lc, kLc_ok, kLe_ok, lcOne_1, kOne_tt, kOne_ff, kSm_ok, ev_rev, kRev_ok, ev_srt, kSrt_ok, kSr2_ok, szl0, szl1, szl2, szl3, szl4, szl5, szl6, szl7, szl8, szl9, szl10, szl11, szl12, szl13, szl14, szl15, szl16, Nat.reduceAdd, beq_self_eq_true, b_beq_true, b_beq_false, isOw_sh, isOw_un, frz1_no, notOw_no, forS_nil, forS_cons, kF1_ok, kF2_next, kF2_cont, kF2_brk, kF2_ret, kF2_exc, isOwL_0, isOwL_s, lk_x1_fact_key, i1, j1]
  · have e3 : (a == b) = false := by simpa using e
    simp only [e3, e, leakE, leakL, leakPL, leakO, leakI, frz, frz1_sh, frz1_un, frz1_ow, frz1_succ, ob_some, ob_none, asB_bool, asI_int, asL_list, guard_tt, guard_ff, putV_nf, putV_int, putV_str, putV_bool, putV_none, putV_tup, putV_lst, putV_lsf, keepV_same, keepV_int, keepV_str, keepV_tup, keepV_lst, freshE, out_next, out_ret, out_exc, lenL, lenT, lenS, setTg_one, wipeR, notOw_sh, notOw_un, notOw_succ, cmp_eq_int, cmp_ne_int, cmp_eq_bool, cmp_ne_bool, cmp_eq_str, cmp_ne_str, cmp_lt_int, cmp_gt_int, cmp_le_int, cmp_ge_int, cmp_in, cmp_nin, cmp_is, cmp_isn, isD_bool, isD_none, bin_add, bin_sub, bin_adds, bin_addl, bin_addt, ix_list, ix_tup, ix_str, items_list, items_tup, items_str, isi_str, isi_tuple, isi_list, isi_bool, isi_int, isi_dict, List.getElem?_cons_zero, List.getElem?_cons_succ, List.set_cons_zero, List.set_cons_succ, List.append_nil, List.nil_append, List.cons_append, reduceIte, Bool.false_eq_true, Option.map_some, Option.map_none, Bool.false_and, Bool.true_and, Bool.and_false, Bool.and_true, Bool.or_false, Bool.or_true, Bool.false_or, Bool.true_or, Bool.not_true, Bool.not_false, List.all_cons, List.all_nil, List.length_cons, List.length_nil, execs_nil, execs_cons, kSeq_next, kSeq_ret, kSeq_exc, kSeq_brk, kSeq_cont, x_set, kSet_ok, kSet_exc, x_setT, kSetT_ok, kNx_ok, x_exp, kExp_ok, kExp_exc, x_app, kApp_ok, x_ext, kExt_ok, x_ret, kRet_ok, kRet_exc, x_retN, x_iff, kTst_ok, kTst_exc, kIf_tt, kIf_ff, x_for, kFor_ok, x_pass, x_brk, x_cont, x_whl, x_par, kPar1_ok, kPar2_ok, kLook_sh, kLook_ow, e_cst, e_glo, ev_var, ev_tup, ev_lst, kTup_ok, kLst_ok, ev_dic, ev_bin, kBin1_ok, kBin2_ok, ev_neg, kNeg_ok, ev_cmp, kCmp1_ok, kCmp2_ok, kBl_some, ev_chn, kCh1_ok, kCh2_ok, kCh3_tt, kCh3_ff, ev_and, ev_or, ev_not, ev_ife, kAnd_tt, kAnd_ff, kOr_tt, kOr_ff, kNot_ok, kIfe_tt, kIfe_ff, ev_call, kCall_ok, ev_bi, kBi_ok, ev_isi, kIsi_ok, ev_ix, kIx1_ok, kIx2_ok, ev_slc, kSl1_ok, kSl2_ok, kSl3_ok, eo_no, eo_so, kOi_ok, et_no, et_so, el_nil, el_cons, kL1_ok, kL2_ok, ep_nil, ep_cons, kP1_ok, ei_val, kIt_ok, ei_rng1, kR1_ok, ei_rng2, kR2_ok, kR3_ok, ei_zip, kZ1_ok, kZ2_ok, ev_lc, kLc_ok, kLe_ok, lcOne_1, kOne_tt, kOne_ff, kSm_ok, ev_rev, kRev_ok, ev_srt, kSrt_ok, kSr2_ok, szl0, szl1, szl2, szl3, szl4, szl5, szl6, szl7, szl8, szl9, szl10, szl11, szl12, szl13, szl14, szl15, szl16, Nat.reduceAdd, beq_self_eq_true, b_beq_true, b_beq_false, isOw_sh, isOw_un, frz1_no, notOw_no, forS_nil, forS_cons, kF1_ok, kF2_next, kF2_cont, kF2_brk, kF2_ret, kF2_exc, isOwL_0, isOwL_s, lk_x1_fact_key, i0, j0, cmp_lt_str]
/-! places told -/
theorem pt_step (k : Nat) (x y a b l : Sl) {p q : D} (hp : isC p = true) (hq : isC q = true) : execs (callF TB (k + 2)) false l1__law_places_told [x, y, .sh p, .sh q, l] = .next [x, y, .sh p, .sh q, .sh (.bool (PySem.W.dataLt (ck p) (ck q)))] := by
  simp only [l1__law_places_told, leakE, leakL, leakPL, leakO, leakI, frz, frz1_sh, frz1_un, frz1_ow, frz1_succ, ob_some, ob_none, asB_bool, asI_int, asL_list, guard_tt, guard_ff, putV_nf, putV_int, putV_str, putV_bool, putV_none, putV_tup, putV_lst, putV_lsf, keepV_same, keepV_int, keepV_str, keepV_tup, keepV_lst, freshE, out_next, out_ret, out_exc, lenL, lenT, lenS, setTg_one, wipeR, notOw_sh, notOw_un, notOw_succ, cmp_eq_int, cmp_ne_int, cmp_eq_bool, cmp_ne_bool, cmp_eq_str, cmp_ne_str, cmp_lt_int, cmp_gt_int, cmp_le_int, cmp_ge_int, cmp_in, cmp_nin, cmp_is, cmp_isn, isD_bool, isD_none, bin_add, bin_sub, bin_adds, bin_addl, bin_addt, ix_list, ix_tup, ix_str, items_list, items_tup, items_str, isi_str, isi_tuple, isi_list, isi_bool, isi_int, isi_dict, List.getElem?_cons_zero, List.getElem?_cons_succ, List.set_cons_zero, List.set_cons_succ, List.append_nil, List.nil_append, List.cons_append, reduceIte, Bool.false_eq_true, Option.map_some, Option.map_none, Bool.false_and, Bool.true_and, Bool.and_false, Bool.and_true, Bool.or_false, Bool.or_true, Bool.false_or, Bool.true_or, Bool.not_true, Bool.not_false, List.all_cons, List.all_nil, List.length_cons, List.length_nil, execs_nil, execs_cons, kSeq_next, kSeq_ret, kSeq_exc, kSeq_brk, kSeq_cont, x_set, kSet_ok, kSet_exc, x_setT, kSetT_ok, kNx_ok, x_exp, kExp_ok, kExp_exc, x_app, kApp_ok, x_ext, kExt_ok, x_ret, kRet_ok, kRet_exc, x_retN, x_iff, kTst_ok, kTst_exc, kIf_tt, kIf_ff, x_for, kFor_ok, x_pass, x_brk, x_cont, x_whl, x_par, kPar1_ok, kPar2_ok, kLook_sh, kLook_ow, e_cst, e_glo, ev_var, ev_tup, ev_lst, kTup_ok, kLst_ok, ev_dic, ev_bin, kBin1_ok, kBin2_ok, ev_neg, kNeg_ok, ev_cmp, kCmp1_ok, kCmp2_ok, kBl_some, ev_chn, kCh1_ok, kCh2_ok, kCh3_tt, kCh3_ff, ev_and, ev_or, ev_not, ev_ife, kAnd_tt, kAnd_ff, kOr_tt, kOr_ff, kNot_ok, kIfe_tt, kIfe_ff, ev_call, kCall_ok, ev_bi, kBi_ok, ev_isi, kIsi_ok, ev_ix, kIx1_ok, kIx2_ok, ev_slc, kSl1_ok, kSl2_ok, kSl3_ok, eo_no, eo_so, kOi_ok, et_no, et_so, el_nil, el_cons, kL1_ok, kL2_ok, ep_nil, ep_cons, kP1_ok, ei_val, kIt_ok, ei_rng1, kR1_ok, ei_rng2, kR2_ok, kR3_ok, ei_zip, kZ1_ok, kZ2_ok, ev_lc, kLc_ok, kLe_ok, lcOne_1, kOne_tt, kOne_ff, kSm_ok, ev_rev, kRev_ok, ev_srt, kSrt_ok, kSr2_ok, szl0, szl1, szl2, szl3, szl4, szl5, szl6, szl7, szl8, szl9, szl10, szl11, szl12, szl13, szl14, szl15, szl16, Nat.reduceAdd, beq_self_eq_true, b_beq_true, b_beq_false, isOw_sh, isOw_un, frz1_no, notOw_no, forS_nil, forS_cons, kF1_ok, kF2_next, kF2_cont, kF2_brk, kF2_ret, kF2_exc, isOwL_0, isOwL_s, lk_x1_fact_key, constant_before_ok k hp hq, constant_less_ok (k + 1) hp hq, isB, beq_self_eq_true]
theorem pt_loop1 (k : Nat) (x y : Sl) {p : D} (hp : isC p = true) : ∀ (qs : List D) (l m : Sl), (∀ q ∈ qs, isC q = true) → ∃ l' m', forS (setTg [3] false) (execs (callF TB (k + 2)) false l1__law_places_told) qs [x, y, .sh p, l, m] = .next [x, y, .sh p, l', m']
  | [], l, m, _ => ⟨l, m, rfl⟩
  | q :: qs, l, m, h => by
    have hb := pt_step k x y x y m hp (h q List.mem_cons_self)
    obtain ⟨l', m', ih⟩ := pt_loop1 k x y hp qs (.sh q) (.sh (.bool (PySem.W.dataLt (ck p) (ck q)))) fun z hz => h z (List.mem_cons_of_mem _ hz)
    exact ⟨l', m', by simp only [leakE, leakL, leakPL, leakO, leakI, frz, frz1_sh, frz1_un, frz1_ow, frz1_succ, ob_some, ob_none, asB_bool, asI_int, asL_list, guard_tt, guard_ff, putV_nf, putV_int, putV_str, putV_bool, putV_none, putV_tup, putV_lst, putV_lsf, keepV_same, keepV_int, keepV_str, keepV_tup, keepV_lst, freshE, out_next, out_ret, out_exc, lenL, lenT, lenS, setTg_one, wipeR, notOw_sh, notOw_un, notOw_succ, cmp_eq_int, cmp_ne_int, cmp_eq_bool, cmp_ne_bool, cmp_eq_str, cmp_ne_str, cmp_lt_int, cmp_gt_int, cmp_le_int, cmp_ge_int, cmp_in, cmp_nin, cmp_is, cmp_isn, isD_bool, isD_none, bin_add, bin_sub, bin_adds, bin_addl, bin_addt, ix_list, ix_tup, ix_str, items_list, items_tup, items_str, isi_str, isi_tuple, isi_list, isi_bool, isi_int, isi_dict, List.getElem?_cons_zero, List.getElem?_cons_succ, List.set_cons_zero, List.set_cons_succ, List.append_nil, List.nil_append, List.cons_append, reduceIte, Bool.false_eq_true, Option.map_some, Option.map_none, Bool.false_and, Bool.true_and, Bool.and_false, Bool.and_true, Bool.or_false, Bool.or_true, Bool.false_or, Bool.true_or, Bool.not_true, Bool.not_false, List.all_cons, List.all_nil, List.length_cons, List.length_nil, execs_nil, execs_cons, kSeq_next, kSeq_ret, kSeq_exc, kSeq_brk, kSeq_cont, x_set, kSet_ok, kSet_exc, x_setT, kSetT_ok, kNx_ok, x_exp, kExp_ok, kExp_exc, x_app, kApp_ok, x_ext, kExt_ok, x_ret, kRet_ok, kRet_exc, x_retN, x_iff, kTst_ok, kTst_exc, kIf_tt, kIf_ff, x_for, kFor_ok, x_pass, x_brk, x_cont, x_whl, x_par, kPar1_ok, kPar2_ok, kLook_sh, kLook_ow, e_cst, e_glo, ev_var, ev_tup, ev_lst, kTup_ok, kLst_ok, ev_dic, ev_bin, kBin1_ok, kBin2_ok, ev_neg, kNeg_ok, ev_cmp, kCmp1_ok, kCmp2_ok, kBl_some, ev_chn, kCh1_ok, kCh2_ok, kCh3_tt, kCh3_ff, ev_and, ev_or, ev_not, ev_ife, kAnd_tt, kAnd_ff, kOr_tt, kOr_ff, kNot_ok, kIfe_tt, kIfe_ff, ev_call, kCall_ok, ev_bi, kBi_ok, ev_isi, kIsi_ok, ev_ix, kIx1_ok, kIx2_ok, ev_slc, kSl1_ok, kSl2_ok, kSl3_ok, eo_no, eo_so, kOi_ok, et_no, et_so, el_nil, el_cons, kL1_ok, kL2_ok, ep_nil, ep_cons, kP1_ok, ei_val, kIt_ok, ei_rng1, kR1_ok, ei_rng2, kR2_ok, kR3_ok, ei_zip, kZ1_ok, kZ2_ok, ev_lc, kLc_ok, kLe_ok, lcOne_1, kOne_tt, kOne_ff, kSm_ok, ev_rev, kRev_ok, ev_srt, kSrt_ok, kSr2_ok, szl0, szl1, szl2, szl3, szl4, szl5, szl6, szl7, szl8, szl9, szl10, szl11, szl12, szl13, szl14, szl15, szl16, Nat.reduceAdd, beq_self_eq_true, b_beq_true, b_beq_false, isOw_sh, isOw_un, frz1_no, notOw_no, forS_nil, forS_cons, kF1_ok, kF2_next, kF2_cont, kF2_brk, kF2_ret, kF2_exc, isOwL_0, isOwL_s, lk_x1_fact_key, hb, ih]⟩
theorem pt_loop2 (k : Nat) (x : Sl) (b : Str) (qs : List D) (hq : ∀ q ∈ qs, isC q = true) : ∀ (ps : List D) (n l m : Sl), (∀ q ∈ ps, isC q = true) → ∃ n' l' m', forS (setTg [2] false) (execs (callF TB (k + 2)) false l2__law_places_told) ps [x, .sh (.tuple [.str b, .tuple qs]), n, l, m] = .next [x, .sh (.tuple [.str b, .tuple qs]), n', l', m']
  | [], n, l, m, _ => ⟨n, l, m, rfl⟩
  | p :: ps, n, l, m, h => by
    have j1 : atI [PyData.str b, .tuple qs] 1 = some (.tuple qs) := rfl
    obtain ⟨l1, m1, h1⟩ := pt_loop1 k x (.sh (.tuple [.str b, .tuple qs])) (h p List.mem_cons_self) qs l m hq
    obtain ⟨n', l', m', ih⟩ := pt_loop2 k x b qs hq ps (.sh p) l1 m1 fun z hz => h z (List.mem_cons_of_mem _ hz)
    refine ⟨n', l', m', ?_⟩
    have hb : execs (callF TB (k + 2)) false l2__law_places_told [x, .sh (.tuple [.str b, .tuple qs]), .sh p, l, m] = .next [x, .sh (.tuple [.str b, .tuple qs]), .sh p, l1, m1] := by
      simp only [l2__law_places_told, leakE, leakL, leakPL, leakO, leakI, frz, frz1_sh, frz1_un, frz1_ow, frz1_succ, ob_some, ob_none, asB_bool, asI_int, asL_list, guard_tt, guard_ff, putV_nf, putV_int, putV_str, putV_bool, putV_none, putV_tup, putV_lst, putV_lsf, keepV_same, keepV_int, keepV_str, keepV_tup, keepV_lst, freshE, out_next, out_ret, out_exc, lenL, lenT, lenS, setTg_one, wipeR, notOw_sh, notOw_un, notOw_succ, cmp_eq_int, cmp_ne_int, cmp_eq_bool, cmp_ne_bool, cmp_eq_str, cmp_ne_str, cmp_lt_int, cmp_gt_int, cmp_le_int, cmp_ge_int, cmp_in, cmp_nin, cmp_is, cmp_isn, isD_bool, isD_none, bin_add, bin_sub, bin_adds, bin_addl, bin_addt, ix_list, ix_tup, ix_str, items_list, items_tup, items_str, isi_str, isi_tuple, isi_list, isi_bool, isi_int, isi_dict, List.getElem?_cons_zero, List.getElem?_cons_succ, List.set_cons_zero, List.set_cons_succ, List.append_nil, List.nil_append, List.cons_append, reduceIte, Bool.false_eq_true, Option.map_some, Option.map_none, Bool.false_and, Bool.true_and, Bool.and_false, Bool.and_true, Bool.or_false, Bool.or_true, Bool.false_or, Bool.true_or, Bool.not_true, Bool.not_false, List.all_cons, List.all_nil, List.length_cons, List.length_nil, execs_nil, execs_cons, kSeq_next, kSeq_ret, kSeq_exc, kSeq_brk, kSeq_cont, x_set, kSet_ok, kSet_exc, x_setT, kSetT_ok, kNx_ok, x_exp, kExp_ok, kExp_exc, x_app, kApp_ok, x_ext, kExt_ok, x_ret, kRet_ok, kRet_exc, x_retN, x_iff, kTst_ok, kTst_exc, kIf_tt, kIf_ff, x_for, kFor_ok, x_pass, x_brk, x_cont, x_whl, x_par, kPar1_ok, kPar2_ok, kLook_sh, kLook_ow, e_cst, e_glo, ev_var, ev_tup, ev_lst, kTup_ok, kLst_ok, ev_dic, ev_bin, kBin1_ok, kBin2_ok, ev_neg, kNeg_ok, ev_cmp, kCmp1_ok, kCmp2_ok, kBl_some, ev_chn, kCh1_ok, kCh2_ok, kCh3_tt, kCh3_ff, ev_and, ev_or, ev_not, ev_ife, kAnd_tt, kAnd_ff, kOr_tt, kOr_ff, kNot_ok, kIfe_tt, kIfe_ff, ev_call, kCall_ok, ev_bi, kBi_ok, ev_isi, kIsi_ok, ev_ix, kIx1_ok, kIx2_ok, ev_slc, kSl1_ok, kSl2_ok, kSl3_ok, eo_no, eo_so, kOi_ok, et_no, et_so, el_nil, el_cons, kL1_ok, kL2_ok, ep_nil, ep_cons, kP1_ok, ei_val, kIt_ok, ei_rng1, kR1_ok, ei_rng2, kR2_ok, kR3_ok, ei_zip, kZ1_ok, kZ2_ok, ev_lc, kLc_ok, kLe_ok, lcOne_1, kOne_tt, kOne_ff, kSm_ok, ev_rev, kRev_ok, ev_srt, kSrt_ok, kSr2_ok, szl0, szl1, szl2, szl3, szl4, szl5, szl6, szl7, szl8, szl9, szl10, szl11, szl12, szl13, szl14, szl15, szl16, Nat.reduceAdd, beq_self_eq_true, b_beq_true, b_beq_false, isOw_sh, isOw_un, frz1_no, notOw_no, forS_nil, forS_cons, kF1_ok, kF2_next, kF2_cont, kF2_brk, kF2_ret, kF2_exc, isOwL_0, isOwL_s, lk_x1_fact_key, j1, h1]
    simp only [leakE, leakL, leakPL, leakO, leakI, frz, frz1_sh, frz1_un, frz1_ow, frz1_succ, ob_some, ob_none, asB_bool, asI_int, asL_list, guard_tt, guard_ff, putV_nf, putV_int, putV_str, putV_bool, putV_none, putV_tup, putV_lst, putV_lsf, keepV_same, keepV_int, keepV_str, keepV_tup, keepV_lst, freshE, out_next, out_ret, out_exc, lenL, lenT, lenS, setTg_one, wipeR, notOw_sh, notOw_un, notOw_succ, cmp_eq_int, cmp_ne_int, cmp_eq_bool, cmp_ne_bool, cmp_eq_str, cmp_ne_str, cmp_lt_int, cmp_gt_int, cmp_le_int, cmp_ge_int, cmp_in, cmp_nin, cmp_is, cmp_isn, isD_bool, isD_none, bin_add, bin_sub, bin_adds, bin_addl, bin_addt, ix_list, ix_tup, ix_str, items_list, items_tup, items_str, isi_str, isi_tuple, isi_list, isi_bool, isi_int, isi_dict, List.getElem?_cons_zero, List.getElem?_cons_succ, List.set_cons_zero, List.set_cons_succ, List.append_nil, List.nil_append, List.cons_append, reduceIte, Bool.false_eq_true, Option.map_some, Option.map_none, Bool.false_and, Bool.true_and, Bool.and_false, Bool.and_true, Bool.or_false, Bool.or_true, Bool.false_or, Bool.true_or, Bool.not_true, Bool.not_false, List.all_cons, List.all_nil, List.length_cons, List.length_nil, execs_nil, execs_cons, kSeq_next, kSeq_ret, kSeq_exc, kSeq_brk, kSeq_cont, x_set, kSet_ok, kSet_exc, x_setT, kSetT_ok, kNx_ok, x_exp, kExp_ok, kExp_exc, x_app, kApp_ok, x_ext, kExt_ok, x_ret, kRet_ok, kRet_exc, x_retN, x_iff, kTst_ok, kTst_exc, kIf_tt, kIf_ff, x_for, kFor_ok, x_pass, x_brk, x_cont, x_whl, x_par, kPar1_ok, kPar2_ok, kLook_sh, kLook_ow, e_cst, e_glo, ev_var, ev_tup, ev_lst, kTup_ok, kLst_ok, ev_dic, ev_bin, kBin1_ok, kBin2_ok, ev_neg, kNeg_ok, ev_cmp, kCmp1_ok, kCmp2_ok, kBl_some, ev_chn, kCh1_ok, kCh2_ok, kCh3_tt, kCh3_ff, ev_and, ev_or, ev_not, ev_ife, kAnd_tt, kAnd_ff, kOr_tt, kOr_ff, kNot_ok, kIfe_tt, kIfe_ff, ev_call, kCall_ok, ev_bi, kBi_ok, ev_isi, kIsi_ok, ev_ix, kIx1_ok, kIx2_ok, ev_slc, kSl1_ok, kSl2_ok, kSl3_ok, eo_no, eo_so, kOi_ok, et_no, et_so, el_nil, el_cons, kL1_ok, kL2_ok, ep_nil, ep_cons, kP1_ok, ei_val, kIt_ok, ei_rng1, kR1_ok, ei_rng2, kR2_ok, kR3_ok, ei_zip, kZ1_ok, kZ2_ok, ev_lc, kLc_ok, kLe_ok, lcOne_1, kOne_tt, kOne_ff, kSm_ok, ev_rev, kRev_ok, ev_srt, kSrt_ok, kSr2_ok, szl0, szl1, szl2, szl3, szl4, szl5, szl6, szl7, szl8, szl9, szl10, szl11, szl12, szl13, szl14, szl15, szl16, Nat.reduceAdd, beq_self_eq_true, b_beq_true, b_beq_false, isOw_sh, isOw_un, frz1_no, notOw_no, forS_nil, forS_cons, kF1_ok, kF2_next, kF2_cont, kF2_brk, kF2_ret, kF2_exc, isOwL_0, isOwL_s, lk_x1_fact_key, hb, ih]
theorem places_told_ok (k : Nat) {f g : D} (hf : isF f) (hg : isF g) : callF TB (k + 3) (Str.ofString "_law_places_told") [f, g] = .ok (.bool true) := by
  obtain ⟨a, ps, rfl, l1, c1⟩ := hf
  obtain ⟨b, qs, rfl, l2, c2⟩ := hg
  rw [cl__law_places_told]
  have i1 : atI [PyData.str a, .tuple ps] 1 = some (.tuple ps) := rfl
  obtain ⟨n, l, m, h⟩ := pt_loop2 k (.sh (.tuple [.str a, .tuple ps])) b qs c2 ps .un .un .un c1
  simp only [b__law_places_told, leakE, leakL, leakPL, leakO, leakI, frz, frz1_sh, frz1_un, frz1_ow, frz1_succ, ob_some, ob_none, asB_bool, asI_int, asL_list, guard_tt, guard_ff, putV_nf, putV_int, putV_str, putV_bool, putV_none, putV_tup, putV_lst, putV_lsf, keepV_same, keepV_int, keepV_str, keepV_tup, keepV_lst, freshE, out_next, out_ret, out_exc, lenL, lenT, lenS, setTg_one, wipeR, notOw_sh, notOw_un, notOw_succ, cmp_eq_int, cmp_ne_int, cmp_eq_bool, cmp_ne_bool, cmp_eq_str, cmp_ne_str, cmp_lt_int, cmp_gt_int, cmp_le_int, cmp_ge_int, cmp_in, cmp_nin, cmp_is, cmp_isn, isD_bool, isD_none, bin_add, bin_sub, bin_adds, bin_addl, bin_addt, ix_list, ix_tup, ix_str, items_list, items_tup, items_str, isi_str, isi_tuple, isi_list, isi_bool, isi_int, isi_dict, List.getElem?_cons_zero, List.getElem?_cons_succ, List.set_cons_zero, List.set_cons_succ, List.append_nil, List.nil_append, List.cons_append, reduceIte, Bool.false_eq_true, Option.map_some, Option.map_none, Bool.false_and, Bool.true_and, Bool.and_false, Bool.and_true, Bool.or_false, Bool.or_true, Bool.false_or, Bool.true_or, Bool.not_true, Bool.not_false, List.all_cons, List.all_nil, List.length_cons, List.length_nil, execs_nil, execs_cons, kSeq_next, kSeq_ret, kSeq_exc, kSeq_brk, kSeq_cont, x_set, kSet_ok, kSet_exc, x_setT, kSetT_ok, kNx_ok, x_exp, kExp_ok, kExp_exc, x_app, kApp_ok, x_ext, kExt_ok, x_ret, kRet_ok, kRet_exc, x_retN, x_iff, kTst_ok, kTst_exc, kIf_tt, kIf_ff, x_for, kFor_ok, x_pass, x_brk, x_cont, x_whl, x_par, kPar1_ok, kPar2_ok, kLook_sh, kLook_ow, e_cst, e_glo, ev_var, ev_tup, ev_lst, kTup_ok, kLst_ok, ev_dic, ev_bin, kBin1_ok, kBin2_ok, ev_neg, kNeg_ok, ev_cmp, kCmp1_ok, kCmp2_ok, kBl_some, ev_chn, kCh1_ok, kCh2_ok, kCh3_tt, kCh3_ff, ev_and, ev_or, ev_not, ev_ife, kAnd_tt, kAnd_ff, kOr_tt, kOr_ff, kNot_ok, kIfe_tt, kIfe_ff, ev_call, kCall_ok, ev_bi, kBi_ok, ev_isi, kIsi_ok, ev_ix, kIx1_ok, kIx2_ok, ev_slc, kSl1_ok, kSl2_ok, kSl3_ok, eo_no, eo_so, kOi_ok, et_no, et_so, el_nil, el_cons, kL1_ok, kL2_ok, ep_nil, ep_cons, kP1_ok, ei_val, kIt_ok, ei_rng1, kR1_ok, ei_rng2, kR2_ok, kR3_ok, ei_zip, kZ1_ok, kZ2_ok, ev_lc, kLc_ok, kLe_ok, lcOne_1, kOne_tt, kOne_ff, kSm_ok, ev_rev, kRev_ok, ev_srt, kSrt_ok, kSr2_ok, szl0, szl1, szl2, szl3, szl4, szl5, szl6, szl7, szl8, szl9, szl10, szl11, szl12, szl13, szl14, szl15, szl16, Nat.reduceAdd, beq_self_eq_true, b_beq_true, b_beq_false, isOw_sh, isOw_un, frz1_no, notOw_no, forS_nil, forS_cons, kF1_ok, kF2_next, kF2_cont, kF2_brk, kF2_ret, kF2_exc, isOwL_0, isOwL_s, lk_x1_fact_key, i1, h]
/-! facts by figures -/
theorem law_constant_ok (k : Nat) (c : Int) : ∃ d, callF TB (k + 1) (Str.ofString "_law_constant") [.int c] = .ok d ∧ isC d = true := by
  rw [cl__law_constant]
  have f12 := fun i => bin_fdiv i 12 (by decide) (by decide +kernel)
  have p1 : binD .Pow (.int 10) (.int 30) = some (.int (10 ^ 30)) := by kernel_rfl
  have m9 := fun i => bin_mod i (10 ^ 30) (by decide)
  have m13 := fun i => bin_mod i 13 (by decide)
  obtain ⟨w, e, g⟩ := atI_mod [PyData.str (Str.ofString "a"), .str (Str.ofString "b"), .str (Str.ofString "aa"), .str (Str.ofString "ab"), .str (Str.ofString "z"), .int 0, .int 1, .int 2, .int 10, .int (-1), .int (-10), .int (c / 12 % 10 ^ 30), .int (0 - c / 12 % 10 ^ 30)] (n := 13) c rfl (by decide)
  refine ⟨w, ?_, ?_⟩
  · simp only [b__law_constant, leakE, leakL, leakPL, leakO, leakI, frz, frz1_sh, frz1_un, frz1_ow, frz1_succ, ob_some, ob_none, asB_bool, asI_int, asL_list, guard_tt, guard_ff, putV_nf, putV_int, putV_str, putV_bool, putV_none, putV_tup, putV_lst, putV_lsf, keepV_same, keepV_int, keepV_str, keepV_tup, keepV_lst, freshE, out_next, out_ret, out_exc, lenL, lenT, lenS, setTg_one, wipeR, notOw_sh, notOw_un, notOw_succ, cmp_eq_int, cmp_ne_int, cmp_eq_bool, cmp_ne_bool, cmp_eq_str, cmp_ne_str, cmp_lt_int, cmp_gt_int, cmp_le_int, cmp_ge_int, cmp_in, cmp_nin, cmp_is, cmp_isn, isD_bool, isD_none, bin_add, bin_sub, bin_adds, bin_addl, bin_addt, ix_list, ix_tup, ix_str, items_list, items_tup, items_str, isi_str, isi_tuple, isi_list, isi_bool, isi_int, isi_dict, List.getElem?_cons_zero, List.getElem?_cons_succ, List.set_cons_zero, List.set_cons_succ, List.append_nil, List.nil_append, List.cons_append, reduceIte, Bool.false_eq_true, Option.map_some, Option.map_none, Bool.false_and, Bool.true_and, Bool.and_false, Bool.and_true, Bool.or_false, Bool.or_true, Bool.false_or, Bool.true_or, Bool.not_true, Bool.not_false, List.all_cons, List.all_nil, List.length_cons, List.length_nil, execs_nil, execs_cons, kSeq_next, kSeq_ret, kSeq_exc, kSeq_brk, kSeq_cont, x_set, kSet_ok, kSet_exc, x_setT, kSetT_ok, kNx_ok, x_exp, kExp_ok, kExp_exc, x_app, kApp_ok, x_ext, kExt_ok, x_ret, kRet_ok, kRet_exc, x_retN, x_iff, kTst_ok, kTst_exc, kIf_tt, kIf_ff, x_for, kFor_ok, x_pass, x_brk, x_cont, x_whl, x_par, kPar1_ok, kPar2_ok, kLook_sh, kLook_ow, e_cst, e_glo, ev_var, ev_tup, ev_lst, kTup_ok, kLst_ok, ev_dic, ev_bin, kBin1_ok, kBin2_ok, ev_neg, kNeg_ok, ev_cmp, kCmp1_ok, kCmp2_ok, kBl_some, ev_chn, kCh1_ok, kCh2_ok, kCh3_tt, kCh3_ff, ev_and, ev_or, ev_not, ev_ife, kAnd_tt, kAnd_ff, kOr_tt, kOr_ff, kNot_ok, kIfe_tt, kIfe_ff, ev_call, kCall_ok, ev_bi, kBi_ok, ev_isi, kIsi_ok, ev_ix, kIx1_ok, kIx2_ok, ev_slc, kSl1_ok, kSl2_ok, kSl3_ok, eo_no, eo_so, kOi_ok, et_no, et_so, el_nil, el_cons, kL1_ok, kL2_ok, ep_nil, ep_cons, kP1_ok, ei_val, kIt_ok, ei_rng1, kR1_ok, ei_rng2, kR2_ok, kR3_ok, ei_zip, kZ1_ok, kZ2_ok, ev_lc, kLc_ok, kLe_ok, lcOne_1, kOne_tt, kOne_ff, kSm_ok, ev_rev, kRev_ok, ev_srt, kSrt_ok, kSr2_ok, szl0, szl1, szl2, szl3, szl4, szl5, szl6, szl7, szl8, szl9, szl10, szl11, szl12, szl13, szl14, szl15, szl16, Nat.reduceAdd, beq_self_eq_true, b_beq_true, b_beq_false, isOw_sh, isOw_un, frz1_no, notOw_no, forS_nil, forS_cons, kF1_ok, kF2_next, kF2_cont, kF2_brk, kF2_ret, kF2_exc, isOwL_0, isOwL_s, lk_x1_fact_key, f12, p1, m9, m13, e]
  · simp only [List.mem_cons, List.not_mem_nil, or_false] at g
    rcases g with rfl | rfl | rfl | rfl | rfl | rfl | rfl | rfl | rfl | rfl | rfl | rfl | rfl <;> rfl
theorem lf_loop (k : Nat) (a b : Sl) : ∀ (n j : Nat) (c : Int) (ps : List D) (l : Sl), ps.length + n ≤ 4 → (∀ p ∈ ps, isC p = true) → ∃ c' ps' l', forS (setTg [4] false) (execs (callF TB (k + 1)) false l1__law_fact) ((List.range' j n).map fun (i : Nat) => .int (0 + i)) [.sh (.int c), a, b, .sh (.tuple ps), l] = .next [.sh (.int c'), a, b, .sh (.tuple ps'), l'] ∧ ps'.length ≤ 4 ∧ ∀ p ∈ ps', isC p = true
  | 0, j, c, ps, l, hl, hp => ⟨c, ps, l, rfl, by omega, hp⟩
  | n + 1, j, c, ps, l, hl, hp => by
    obtain ⟨d, e1, hd⟩ := law_constant_ok k c
    have m2 := fun i => bin_mod i 2 (by decide)
    obtain ⟨w, e2, g⟩ := atI_mod [PyData.int 13, .int 1000] (n := 2) (0 + (j : Int)) rfl (by decide)
    have fd : ∃ c', binD .FloorDiv (.int c) w = some (.int c') := by
      simp only [List.mem_cons, List.not_mem_nil, or_false] at g
      rcases g with rfl | rfl
      · exact ⟨_, bin_fdiv c 13 (by decide) (by decide +kernel)⟩
      · exact ⟨_, bin_fdiv c 1000 (by decide) (by decide +kernel)⟩
    obtain ⟨c1, fd⟩ := fd
    obtain ⟨c', ps', l', ih, h1, h2⟩ := lf_loop k a b n (j + 1) c1 (ps ++ [d]) (.sh (.int (0 + j))) (by rw [List.length_append, List.length_singleton]; omega) (fun p hpm => by
      rcases List.mem_append.mp hpm with hpm | hpm
      · exact hp p hpm
      · rw [List.mem_singleton] at hpm; subst hpm; exact hd)
    refine ⟨c', ps', l', ?_, h1, h2⟩
    have hb : execs (callF TB (k + 1)) false l1__law_fact [.sh (.int c), a, b, .sh (.tuple ps), .sh (.int (0 + j))] = .next [.sh (.int c1), a, b, .sh (.tuple (ps ++ [d])), .sh (.int (0 + j))] := by
      simp only [l1__law_fact, leakE, leakL, leakPL, leakO, leakI, frz, frz1_sh, frz1_un, frz1_ow, frz1_succ, ob_some, ob_none, asB_bool, asI_int, asL_list, guard_tt, guard_ff, putV_nf, putV_int, putV_str, putV_bool, putV_none, putV_tup, putV_lst, putV_lsf, keepV_same, keepV_int, keepV_str, keepV_tup, keepV_lst, freshE, out_next, out_ret, out_exc, lenL, lenT, lenS, setTg_one, wipeR, notOw_sh, notOw_un, notOw_succ, cmp_eq_int, cmp_ne_int, cmp_eq_bool, cmp_ne_bool, cmp_eq_str, cmp_ne_str, cmp_lt_int, cmp_gt_int, cmp_le_int, cmp_ge_int, cmp_in, cmp_nin, cmp_is, cmp_isn, isD_bool, isD_none, bin_add, bin_sub, bin_adds, bin_addl, bin_addt, ix_list, ix_tup, ix_str, items_list, items_tup, items_str, isi_str, isi_tuple, isi_list, isi_bool, isi_int, isi_dict, List.getElem?_cons_zero, List.getElem?_cons_succ, List.set_cons_zero, List.set_cons_succ, List.append_nil, List.nil_append, List.cons_append, reduceIte, Bool.false_eq_true, Option.map_some, Option.map_none, Bool.false_and, Bool.true_and, Bool.and_false, Bool.and_true, Bool.or_false, Bool.or_true, Bool.false_or, Bool.true_or, Bool.not_true, Bool.not_false, List.all_cons, List.all_nil, List.length_cons, List.length_nil, execs_nil, execs_cons, kSeq_next, kSeq_ret, kSeq_exc, kSeq_brk, kSeq_cont, x_set, kSet_ok, kSet_exc, x_setT, kSetT_ok, kNx_ok, x_exp, kExp_ok, kExp_exc, x_app, kApp_ok, x_ext, kExt_ok, x_ret, kRet_ok, kRet_exc, x_retN, x_iff, kTst_ok, kTst_exc, kIf_tt, kIf_ff, x_for, kFor_ok, x_pass, x_brk, x_cont, x_whl, x_par, kPar1_ok, kPar2_ok, kLook_sh, kLook_ow, e_cst, e_glo, ev_var, ev_tup, ev_lst, kTup_ok, kLst_ok, ev_dic, ev_bin, kBin1_ok, kBin2_ok, ev_neg, kNeg_ok, ev_cmp, kCmp1_ok, kCmp2_ok, kBl_some, ev_chn, kCh1_ok, kCh2_ok, kCh3_tt, kCh3_ff, ev_and, ev_or, ev_not, ev_ife, kAnd_tt, kAnd_ff, kOr_tt, kOr_ff, kNot_ok, kIfe_tt, kIfe_ff, ev_call, kCall_ok, ev_bi, kBi_ok, ev_isi, kIsi_ok, ev_ix, kIx1_ok, kIx2_ok, ev_slc, kSl1_ok, kSl2_ok, kSl3_ok, eo_no, eo_so, kOi_ok, et_no, et_so, el_nil, el_cons, kL1_ok, kL2_ok, ep_nil, ep_cons, kP1_ok, ei_val, kIt_ok, ei_rng1, kR1_ok, ei_rng2, kR2_ok, kR3_ok, ei_zip, kZ1_ok, kZ2_ok, ev_lc, kLc_ok, kLe_ok, lcOne_1, kOne_tt, kOne_ff, kSm_ok, ev_rev, kRev_ok, ev_srt, kSrt_ok, kSr2_ok, szl0, szl1, szl2, szl3, szl4, szl5, szl6, szl7, szl8, szl9, szl10, szl11, szl12, szl13, szl14, szl15, szl16, Nat.reduceAdd, beq_self_eq_true, b_beq_true, b_beq_false, isOw_sh, isOw_un, frz1_no, notOw_no, forS_nil, forS_cons, kF1_ok, kF2_next, kF2_cont, kF2_brk, kF2_ret, kF2_exc, isOwL_0, isOwL_s, lk_x1_fact_key, e1, szOk_of (show ps.length + 1 ≤ 1000 by omega), m2, e2, fd]
    rw [List.range'_succ]
    simp only [List.map_cons, leakE, leakL, leakPL, leakO, leakI, frz, frz1_sh, frz1_un, frz1_ow, frz1_succ, ob_some, ob_none, asB_bool, asI_int, asL_list, guard_tt, guard_ff, putV_nf, putV_int, putV_str, putV_bool, putV_none, putV_tup, putV_lst, putV_lsf, keepV_same, keepV_int, keepV_str, keepV_tup, keepV_lst, freshE, out_next, out_ret, out_exc, lenL, lenT, lenS, setTg_one, wipeR, notOw_sh, notOw_un, notOw_succ, cmp_eq_int, cmp_ne_int, cmp_eq_bool, cmp_ne_bool, cmp_eq_str, cmp_ne_str, cmp_lt_int, cmp_gt_int, cmp_le_int, cmp_ge_int, cmp_in, cmp_nin, cmp_is, cmp_isn, isD_bool, isD_none, bin_add, bin_sub, bin_adds, bin_addl, bin_addt, ix_list, ix_tup, ix_str, items_list, items_tup, items_str, isi_str, isi_tuple, isi_list, isi_bool, isi_int, isi_dict, List.getElem?_cons_zero, List.getElem?_cons_succ, List.set_cons_zero, List.set_cons_succ, List.append_nil, List.nil_append, List.cons_append, reduceIte, Bool.false_eq_true, Option.map_some, Option.map_none, Bool.false_and, Bool.true_and, Bool.and_false, Bool.and_true, Bool.or_false, Bool.or_true, Bool.false_or, Bool.true_or, Bool.not_true, Bool.not_false, List.all_cons, List.all_nil, List.length_cons, List.length_nil, execs_nil, execs_cons, kSeq_next, kSeq_ret, kSeq_exc, kSeq_brk, kSeq_cont, x_set, kSet_ok, kSet_exc, x_setT, kSetT_ok, kNx_ok, x_exp, kExp_ok, kExp_exc, x_app, kApp_ok, x_ext, kExt_ok, x_ret, kRet_ok, kRet_exc, x_retN, x_iff, kTst_ok, kTst_exc, kIf_tt, kIf_ff, x_for, kFor_ok, x_pass, x_brk, x_cont, x_whl, x_par, kPar1_ok, kPar2_ok, kLook_sh, kLook_ow, e_cst, e_glo, ev_var, ev_tup, ev_lst, kTup_ok, kLst_ok, ev_dic, ev_bin, kBin1_ok, kBin2_ok, ev_neg, kNeg_ok, ev_cmp, kCmp1_ok, kCmp2_ok, kBl_some, ev_chn, kCh1_ok, kCh2_ok, kCh3_tt, kCh3_ff, ev_and, ev_or, ev_not, ev_ife, kAnd_tt, kAnd_ff, kOr_tt, kOr_ff, kNot_ok, kIfe_tt, kIfe_ff, ev_call, kCall_ok, ev_bi, kBi_ok, ev_isi, kIsi_ok, ev_ix, kIx1_ok, kIx2_ok, ev_slc, kSl1_ok, kSl2_ok, kSl3_ok, eo_no, eo_so, kOi_ok, et_no, et_so, el_nil, el_cons, kL1_ok, kL2_ok, ep_nil, ep_cons, kP1_ok, ei_val, kIt_ok, ei_rng1, kR1_ok, ei_rng2, kR2_ok, kR3_ok, ei_zip, kZ1_ok, kZ2_ok, ev_lc, kLc_ok, kLe_ok, lcOne_1, kOne_tt, kOne_ff, kSm_ok, ev_rev, kRev_ok, ev_srt, kSrt_ok, kSr2_ok, szl0, szl1, szl2, szl3, szl4, szl5, szl6, szl7, szl8, szl9, szl10, szl11, szl12, szl13, szl14, szl15, szl16, Nat.reduceAdd, beq_self_eq_true, b_beq_true, b_beq_false, isOw_sh, isOw_un, frz1_no, notOw_no, forS_nil, forS_cons, kF1_ok, kF2_next, kF2_cont, kF2_brk, kF2_ret, kF2_exc, isOwL_0, isOwL_s, lk_x1_fact_key, hb, ih]
theorem rng_small (i : Int) (h0 : 0 ≤ i) (h1 : i ≤ 1000) : rngD 0 i = some ((List.range' 0 i.toNat).map fun (k : Nat) => .int (0 + k)) := by
  unfold rngD
  rw [show (decide (-(2 ^ 62 : Int) ≤ 0) && decide ((0 : Int) < 2 ^ 62) && decide (-(2 ^ 62) ≤ i) && decide (i < 2 ^ 62)) = true by
    simp only [Bool.and_eq_true, decide_eq_true_eq]; omega, guard_tt, Int.sub_zero, List.range_eq_range']
theorem law_fact_ok (k : Nat) (c : Int) : ∃ d, callF TB (k + 2) (Str.ofString "_law_fact") [.int c] = .ok d ∧ isF d := by
  rw [cl__law_fact]
  have m3 := fun i => bin_mod i 3 (by decide)
  have f3 := fun i => bin_fdiv i 3 (by decide) (by decide +kernel)
  have m5 := fun i => bin_mod i 5 (by decide)
  have f15 := fun i => bin_fdiv i 15 (by decide) (by decide +kernel)
  obtain ⟨w, e, g⟩ := atI_mod [PyData.str (Str.ofString "edge"), .str (Str.ofString "edges"), .str (Str.ofString "pay")] (n := 3) c rfl (by decide)
  obtain ⟨h, rfl⟩ : ∃ h, w = .str h := by
    simp only [List.mem_cons, List.not_mem_nil, or_false] at g
    rcases g with rfl | rfl | rfl <;> exact ⟨_, rfl⟩
  have r := rng_small (c / 3 % 5) (by omega) (by omega)
  obtain ⟨c', ps', l', hl, h1, h2⟩ := lf_loop k (.sh (.str h)) (.sh (.int (c / 3 % 5))) (c / 3 % 5).toNat 0 (c / 15) [] .un (by simp; omega) (fun p hp => by cases hp)
  exact ⟨.tuple [.str h, .tuple ps'], by simp only [b__law_fact, leakE, leakL, leakPL, leakO, leakI, frz, frz1_sh, frz1_un, frz1_ow, frz1_succ, ob_some, ob_none, asB_bool, asI_int, asL_list, guard_tt, guard_ff, putV_nf, putV_int, putV_str, putV_bool, putV_none, putV_tup, putV_lst, putV_lsf, keepV_same, keepV_int, keepV_str, keepV_tup, keepV_lst, freshE, out_next, out_ret, out_exc, lenL, lenT, lenS, setTg_one, wipeR, notOw_sh, notOw_un, notOw_succ, cmp_eq_int, cmp_ne_int, cmp_eq_bool, cmp_ne_bool, cmp_eq_str, cmp_ne_str, cmp_lt_int, cmp_gt_int, cmp_le_int, cmp_ge_int, cmp_in, cmp_nin, cmp_is, cmp_isn, isD_bool, isD_none, bin_add, bin_sub, bin_adds, bin_addl, bin_addt, ix_list, ix_tup, ix_str, items_list, items_tup, items_str, isi_str, isi_tuple, isi_list, isi_bool, isi_int, isi_dict, List.getElem?_cons_zero, List.getElem?_cons_succ, List.set_cons_zero, List.set_cons_succ, List.append_nil, List.nil_append, List.cons_append, reduceIte, Bool.false_eq_true, Option.map_some, Option.map_none, Bool.false_and, Bool.true_and, Bool.and_false, Bool.and_true, Bool.or_false, Bool.or_true, Bool.false_or, Bool.true_or, Bool.not_true, Bool.not_false, List.all_cons, List.all_nil, List.length_cons, List.length_nil, execs_nil, execs_cons, kSeq_next, kSeq_ret, kSeq_exc, kSeq_brk, kSeq_cont, x_set, kSet_ok, kSet_exc, x_setT, kSetT_ok, kNx_ok, x_exp, kExp_ok, kExp_exc, x_app, kApp_ok, x_ext, kExt_ok, x_ret, kRet_ok, kRet_exc, x_retN, x_iff, kTst_ok, kTst_exc, kIf_tt, kIf_ff, x_for, kFor_ok, x_pass, x_brk, x_cont, x_whl, x_par, kPar1_ok, kPar2_ok, kLook_sh, kLook_ow, e_cst, e_glo, ev_var, ev_tup, ev_lst, kTup_ok, kLst_ok, ev_dic, ev_bin, kBin1_ok, kBin2_ok, ev_neg, kNeg_ok, ev_cmp, kCmp1_ok, kCmp2_ok, kBl_some, ev_chn, kCh1_ok, kCh2_ok, kCh3_tt, kCh3_ff, ev_and, ev_or, ev_not, ev_ife, kAnd_tt, kAnd_ff, kOr_tt, kOr_ff, kNot_ok, kIfe_tt, kIfe_ff, ev_call, kCall_ok, ev_bi, kBi_ok, ev_isi, kIsi_ok, ev_ix, kIx1_ok, kIx2_ok, ev_slc, kSl1_ok, kSl2_ok, kSl3_ok, eo_no, eo_so, kOi_ok, et_no, et_so, el_nil, el_cons, kL1_ok, kL2_ok, ep_nil, ep_cons, kP1_ok, ei_val, kIt_ok, ei_rng1, kR1_ok, ei_rng2, kR2_ok, kR3_ok, ei_zip, kZ1_ok, kZ2_ok, ev_lc, kLc_ok, kLe_ok, lcOne_1, kOne_tt, kOne_ff, kSm_ok, ev_rev, kRev_ok, ev_srt, kSrt_ok, kSr2_ok, szl0, szl1, szl2, szl3, szl4, szl5, szl6, szl7, szl8, szl9, szl10, szl11, szl12, szl13, szl14, szl15, szl16, Nat.reduceAdd, beq_self_eq_true, b_beq_true, b_beq_false, isOw_sh, isOw_un, frz1_no, notOw_no, forS_nil, forS_cons, kF1_ok, kF2_next, kF2_cont, kF2_brk, kF2_ret, kF2_exc, isOwL_0, isOwL_s, lk_x1_fact_key, m3, e, f3, m5, f15, r, hl], h, ps', rfl, h1, h2⟩
theorem F_smp {d : D} (h : isF d) : smp d = true ∧ d.depth ≤ 2 := by
  obtain ⟨a, ps, rfl, l1, c1⟩ := h
  refine ⟨by simp only [smp, smps, smps_all.mpr fun p hp => (isC_smp (c1 p hp)).1, Bool.and_self], ?_⟩
  have := depth_all (ds := ps) (n := 0) fun p hp => by rw [(isC_smp (c1 p hp)).2]; exact Nat.le_refl 0
  simp only [PyData.depth, PyData.depthAll]
  omega
theorem Fs_shp {L : List D} (h : ∀ f ∈ L, isF f) : smp (.list L) = true ∧ shp (.list L) = true := by
  have h1 : smp (.list L) = true := by simp only [smp]; exact smps_all.mpr fun f hf => (F_smp (h f hf)).1
  refine ⟨h1, shp_smp h1 ?_⟩
  have := depth_all (ds := L) (n := 2) fun f hf => (F_smp (h f hf)).2
  simp only [PyData.depth]
  omega
theorem in_facts {L : List D} {f : D} (h : ∀ f ∈ L, isF f) (hf : isF f) : ∃ b, inD f (.list L) = some b ∧ (b = true ↔ f ∈ L) := by
  refine ⟨L.any fun z => PyData.eqv z f, by simp only [inD, (Fs_shp h).2, shp_smp (F_smp hf).1 (by have := (F_smp hf).2; omega), Bool.and_self, guard_tt], ?_⟩
  rw [List.any_eq_true]
  constructor
  · rintro ⟨z, hz, e⟩
    rw [eqv_smp z f (F_smp (h z hz)).1 (F_smp hf).1 e] at hz
    exact hz
  · intro hz
    exact ⟨f, hz, eqv_rfl f (F_smp hf).1⟩
theorem cmp_list {L M : List D} (h : ∀ f ∈ L, isF f) (h' : ∀ f ∈ M, isF f) : ∃ b, cmpD .Eq (.list L) (.list M) = some b ∧ cmpD .NotEq (.list L) (.list M) = some (!b) ∧ (b = true ↔ L = M) := by
  refine ⟨PyData.eqv (.list L) (.list M), ?_, ?_, ?_⟩
  · unfold cmpD
    simp only [(Fs_shp h).2, (Fs_shp h').2, Bool.and_self, guard_tt]
  · unfold cmpD
    simp only [(Fs_shp h).2, (Fs_shp h').2, Bool.and_self, guard_tt]
  · rw [eqv_iff (Fs_shp h).1 (Fs_shp h').1]
    simp
/-! the law -/
theorem l3_loop (k : Nat) (sc c d e f : Sl) : ∀ (ns : List Int) (L : List D) (a b : Sl), (∀ f ∈ L, isF f) → L.Nodup → L.length + ns.length ≤ 1000 → isOw a = false → isOw b = false →
    ∃ L' a' b', forS (setTg [2] false) (execs (callF TB (k + 3)) false l3_law) (ns.map PyData.int) [sc, .ow (.list L), a, b, c, d, e, f] = .next [sc, .ow (.list L'), a', b', c, d, e, f] ∧ (∀ f ∈ L', isF f) ∧ L'.Nodup ∧ L'.length ≤ L.length + ns.length ∧ isOw a' = false ∧ isOw b' = false
  | [], L, a, b, hL, hn, hl, ha, hb => ⟨L, a, b, rfl, hL, hn, by simp, ha, hb⟩
  | n :: ns, L, a, b, hL, hn, hl, ha, hb => by
    rw [List.length_cons] at hl
    obtain ⟨g, e1, hg⟩ := law_fact_ok (k + 1) n
    obtain ⟨q, e2, hq⟩ := in_facts hL hg
    cases q with
    | true =>
      obtain ⟨L', a', b', ih, h1, h2, h3, h4, h5⟩ := l3_loop k sc c d e f ns L (.sh (.int n)) (.sh g) hL hn (by omega) rfl rfl
      refine ⟨L', a', b', ?_, h1, h2, by rw [List.length_cons]; omega, h4, h5⟩
      have hbd : execs (callF TB (k + 3)) false l3_law [sc, .ow (.list L), .sh (.int n), b, c, d, e, f] = .next [sc, .ow (.list L), .sh (.int n), .sh g, c, d, e, f] := by
        simp only [l3_law, leakE, leakL, leakPL, leakO, leakI, frz, frz1_sh, frz1_un, frz1_ow, frz1_succ, ob_some, ob_none, asB_bool, asI_int, asL_list, guard_tt, guard_ff, putV_nf, putV_int, putV_str, putV_bool, putV_none, putV_tup, putV_lst, putV_lsf, keepV_same, keepV_int, keepV_str, keepV_tup, keepV_lst, freshE, out_next, out_ret, out_exc, lenL, lenT, lenS, setTg_one, wipeR, notOw_sh, notOw_un, notOw_succ, cmp_eq_int, cmp_ne_int, cmp_eq_bool, cmp_ne_bool, cmp_eq_str, cmp_ne_str, cmp_lt_int, cmp_gt_int, cmp_le_int, cmp_ge_int, cmp_in, cmp_nin, cmp_is, cmp_isn, isD_bool, isD_none, bin_add, bin_sub, bin_adds, bin_addl, bin_addt, ix_list, ix_tup, ix_str, items_list, items_tup, items_str, isi_str, isi_tuple, isi_list, isi_bool, isi_int, isi_dict, List.getElem?_cons_zero, List.getElem?_cons_succ, List.set_cons_zero, List.set_cons_succ, List.append_nil, List.nil_append, List.cons_append, reduceIte, Bool.false_eq_true, Option.map_some, Option.map_none, Bool.false_and, Bool.true_and, Bool.and_false, Bool.and_true, Bool.or_false, Bool.or_true, Bool.false_or, Bool.true_or, Bool.not_true, Bool.not_false, List.all_cons, List.all_nil, List.length_cons, List.length_nil, execs_nil, execs_cons, kSeq_next, kSeq_ret, kSeq_exc, kSeq_brk, kSeq_cont, x_set, kSet_ok, kSet_exc, x_setT, kSetT_ok, kNx_ok, x_exp, kExp_ok, kExp_exc, x_app, kApp_ok, x_ext, kExt_ok, x_ret, kRet_ok, kRet_exc, x_retN, x_iff, kTst_ok, kTst_exc, kIf_tt, kIf_ff, x_for, kFor_ok, x_pass, x_brk, x_cont, x_whl, x_par, kPar1_ok, kPar2_ok, kLook_sh, kLook_ow, e_cst, e_glo, ev_var, ev_tup, ev_lst, kTup_ok, kLst_ok, ev_dic, ev_bin, kBin1_ok, kBin2_ok, ev_neg, kNeg_ok, ev_cmp, kCmp1_ok, kCmp2_ok, kBl_some, ev_chn, kCh1_ok, kCh2_ok, kCh3_tt, kCh3_ff, ev_and, ev_or, ev_not, ev_ife, kAnd_tt, kAnd_ff, kOr_tt, kOr_ff, kNot_ok, kIfe_tt, kIfe_ff, ev_call, kCall_ok, ev_bi, kBi_ok, ev_isi, kIsi_ok, ev_ix, kIx1_ok, kIx2_ok, ev_slc, kSl1_ok, kSl2_ok, kSl3_ok, eo_no, eo_so, kOi_ok, et_no, et_so, el_nil, el_cons, kL1_ok, kL2_ok, ep_nil, ep_cons, kP1_ok, ei_val, kIt_ok, ei_rng1, kR1_ok, ei_rng2, kR2_ok, kR3_ok, ei_zip, kZ1_ok, kZ2_ok, ev_lc, kLc_ok, kLe_ok, lcOne_1, kOne_tt, kOne_ff, kSm_ok, ev_rev, kRev_ok, ev_srt, kSrt_ok, kSr2_ok, szl0, szl1, szl2, szl3, szl4, szl5, szl6, szl7, szl8, szl9, szl10, szl11, szl12, szl13, szl14, szl15, szl16, Nat.reduceAdd, beq_self_eq_true, b_beq_true, b_beq_false, isOw_sh, isOw_un, frz1_no, notOw_no, forS_nil, forS_cons, kF1_ok, kF2_next, kF2_cont, kF2_brk, kF2_ret, kF2_exc, isOwL_0, isOwL_s, lk_x1_fact_key, e1, e2]
      simp only [List.map_cons, leakE, leakL, leakPL, leakO, leakI, frz, frz1_sh, frz1_un, frz1_ow, frz1_succ, ob_some, ob_none, asB_bool, asI_int, asL_list, guard_tt, guard_ff, putV_nf, putV_int, putV_str, putV_bool, putV_none, putV_tup, putV_lst, putV_lsf, keepV_same, keepV_int, keepV_str, keepV_tup, keepV_lst, freshE, out_next, out_ret, out_exc, lenL, lenT, lenS, setTg_one, wipeR, notOw_sh, notOw_un, notOw_succ, cmp_eq_int, cmp_ne_int, cmp_eq_bool, cmp_ne_bool, cmp_eq_str, cmp_ne_str, cmp_lt_int, cmp_gt_int, cmp_le_int, cmp_ge_int, cmp_in, cmp_nin, cmp_is, cmp_isn, isD_bool, isD_none, bin_add, bin_sub, bin_adds, bin_addl, bin_addt, ix_list, ix_tup, ix_str, items_list, items_tup, items_str, isi_str, isi_tuple, isi_list, isi_bool, isi_int, isi_dict, List.getElem?_cons_zero, List.getElem?_cons_succ, List.set_cons_zero, List.set_cons_succ, List.append_nil, List.nil_append, List.cons_append, reduceIte, Bool.false_eq_true, Option.map_some, Option.map_none, Bool.false_and, Bool.true_and, Bool.and_false, Bool.and_true, Bool.or_false, Bool.or_true, Bool.false_or, Bool.true_or, Bool.not_true, Bool.not_false, List.all_cons, List.all_nil, List.length_cons, List.length_nil, execs_nil, execs_cons, kSeq_next, kSeq_ret, kSeq_exc, kSeq_brk, kSeq_cont, x_set, kSet_ok, kSet_exc, x_setT, kSetT_ok, kNx_ok, x_exp, kExp_ok, kExp_exc, x_app, kApp_ok, x_ext, kExt_ok, x_ret, kRet_ok, kRet_exc, x_retN, x_iff, kTst_ok, kTst_exc, kIf_tt, kIf_ff, x_for, kFor_ok, x_pass, x_brk, x_cont, x_whl, x_par, kPar1_ok, kPar2_ok, kLook_sh, kLook_ow, e_cst, e_glo, ev_var, ev_tup, ev_lst, kTup_ok, kLst_ok, ev_dic, ev_bin, kBin1_ok, kBin2_ok, ev_neg, kNeg_ok, ev_cmp, kCmp1_ok, kCmp2_ok, kBl_some, ev_chn, kCh1_ok, kCh2_ok, kCh3_tt, kCh3_ff, ev_and, ev_or, ev_not, ev_ife, kAnd_tt, kAnd_ff, kOr_tt, kOr_ff, kNot_ok, kIfe_tt, kIfe_ff, ev_call, kCall_ok, ev_bi, kBi_ok, ev_isi, kIsi_ok, ev_ix, kIx1_ok, kIx2_ok, ev_slc, kSl1_ok, kSl2_ok, kSl3_ok, eo_no, eo_so, kOi_ok, et_no, et_so, el_nil, el_cons, kL1_ok, kL2_ok, ep_nil, ep_cons, kP1_ok, ei_val, kIt_ok, ei_rng1, kR1_ok, ei_rng2, kR2_ok, kR3_ok, ei_zip, kZ1_ok, kZ2_ok, ev_lc, kLc_ok, kLe_ok, lcOne_1, kOne_tt, kOne_ff, kSm_ok, ev_rev, kRev_ok, ev_srt, kSrt_ok, kSr2_ok, szl0, szl1, szl2, szl3, szl4, szl5, szl6, szl7, szl8, szl9, szl10, szl11, szl12, szl13, szl14, szl15, szl16, Nat.reduceAdd, beq_self_eq_true, b_beq_true, b_beq_false, isOw_sh, isOw_un, frz1_no, notOw_no, forS_nil, forS_cons, kF1_ok, kF2_next, kF2_cont, kF2_brk, kF2_ret, kF2_exc, isOwL_0, isOwL_s, lk_x1_fact_key, hbd, ih]
    | false =>
      have hni : g ∉ L := fun z => by have := hq.mpr z; cases this
      obtain ⟨L', a', b', ih, h1, h2, h3, h4, h5⟩ := l3_loop k sc c d e f ns (L ++ [g]) (.sh (.int n)) (.sh g) (fun x hx => by
        rcases List.mem_append.mp hx with hx | hx
        · exact hL x hx
        · rw [List.mem_singleton] at hx; subst hx; exact hg) (by
        rw [List.nodup_append]
        exact ⟨hn, by simp, fun x hx y hy => by rw [List.mem_singleton] at hy; subst hy; exact fun z => hni (z ▸ hx)⟩) (by rw [List.length_append, List.length_singleton]; omega) rfl rfl
      refine ⟨L', a', b', ?_, h1, h2, by rw [List.length_append, List.length_singleton] at h3; rw [List.length_cons]; omega, h4, h5⟩
      have hap : appV [sc, .ow (.list L), .sh (.int n), .sh g, c, d, e, f] 1 g = .next [sc, .ow (.list (L ++ [g])), .sh (.int n), .sh g, c, d, e, f] := appV_ok _ 1 g L rfl (by omega)
      have hbd : execs (callF TB (k + 3)) false l3_law [sc, .ow (.list L), .sh (.int n), b, c, d, e, f] = .next [sc, .ow (.list (L ++ [g])), .sh (.int n), .sh g, c, d, e, f] := by
        simp only [l3_law, leakE, leakL, leakPL, leakO, leakI, frz, frz1_sh, frz1_un, frz1_ow, frz1_succ, ob_some, ob_none, asB_bool, asI_int, asL_list, guard_tt, guard_ff, putV_nf, putV_int, putV_str, putV_bool, putV_none, putV_tup, putV_lst, putV_lsf, keepV_same, keepV_int, keepV_str, keepV_tup, keepV_lst, freshE, out_next, out_ret, out_exc, lenL, lenT, lenS, setTg_one, wipeR, notOw_sh, notOw_un, notOw_succ, cmp_eq_int, cmp_ne_int, cmp_eq_bool, cmp_ne_bool, cmp_eq_str, cmp_ne_str, cmp_lt_int, cmp_gt_int, cmp_le_int, cmp_ge_int, cmp_in, cmp_nin, cmp_is, cmp_isn, isD_bool, isD_none, bin_add, bin_sub, bin_adds, bin_addl, bin_addt, ix_list, ix_tup, ix_str, items_list, items_tup, items_str, isi_str, isi_tuple, isi_list, isi_bool, isi_int, isi_dict, List.getElem?_cons_zero, List.getElem?_cons_succ, List.set_cons_zero, List.set_cons_succ, List.append_nil, List.nil_append, List.cons_append, reduceIte, Bool.false_eq_true, Option.map_some, Option.map_none, Bool.false_and, Bool.true_and, Bool.and_false, Bool.and_true, Bool.or_false, Bool.or_true, Bool.false_or, Bool.true_or, Bool.not_true, Bool.not_false, List.all_cons, List.all_nil, List.length_cons, List.length_nil, execs_nil, execs_cons, kSeq_next, kSeq_ret, kSeq_exc, kSeq_brk, kSeq_cont, x_set, kSet_ok, kSet_exc, x_setT, kSetT_ok, kNx_ok, x_exp, kExp_ok, kExp_exc, x_app, kApp_ok, x_ext, kExt_ok, x_ret, kRet_ok, kRet_exc, x_retN, x_iff, kTst_ok, kTst_exc, kIf_tt, kIf_ff, x_for, kFor_ok, x_pass, x_brk, x_cont, x_whl, x_par, kPar1_ok, kPar2_ok, kLook_sh, kLook_ow, e_cst, e_glo, ev_var, ev_tup, ev_lst, kTup_ok, kLst_ok, ev_dic, ev_bin, kBin1_ok, kBin2_ok, ev_neg, kNeg_ok, ev_cmp, kCmp1_ok, kCmp2_ok, kBl_some, ev_chn, kCh1_ok, kCh2_ok, kCh3_tt, kCh3_ff, ev_and, ev_or, ev_not, ev_ife, kAnd_tt, kAnd_ff, kOr_tt, kOr_ff, kNot_ok, kIfe_tt, kIfe_ff, ev_call, kCall_ok, ev_bi, kBi_ok, ev_isi, kIsi_ok, ev_ix, kIx1_ok, kIx2_ok, ev_slc, kSl1_ok, kSl2_ok, kSl3_ok, eo_no, eo_so, kOi_ok, et_no, et_so, el_nil, el_cons, kL1_ok, kL2_ok, ep_nil, ep_cons, kP1_ok, ei_val, kIt_ok, ei_rng1, kR1_ok, ei_rng2, kR2_ok, kR3_ok, ei_zip, kZ1_ok, kZ2_ok, ev_lc, kLc_ok, kLe_ok, lcOne_1, kOne_tt, kOne_ff, kSm_ok, ev_rev, kRev_ok, ev_srt, kSrt_ok, kSr2_ok, szl0, szl1, szl2, szl3, szl4, szl5, szl6, szl7, szl8, szl9, szl10, szl11, szl12, szl13, szl14, szl15, szl16, Nat.reduceAdd, beq_self_eq_true, b_beq_true, b_beq_false, isOw_sh, isOw_un, frz1_no, notOw_no, forS_nil, forS_cons, kF1_ok, kF2_next, kF2_cont, kF2_brk, kF2_ret, kF2_exc, isOwL_0, isOwL_s, lk_x1_fact_key, isOwL_0, isOwL_s, e1, e2, hap]
      simp only [List.map_cons, leakE, leakL, leakPL, leakO, leakI, frz, frz1_sh, frz1_un, frz1_ow, frz1_succ, ob_some, ob_none, asB_bool, asI_int, asL_list, guard_tt, guard_ff, putV_nf, putV_int, putV_str, putV_bool, putV_none, putV_tup, putV_lst, putV_lsf, keepV_same, keepV_int, keepV_str, keepV_tup, keepV_lst, freshE, out_next, out_ret, out_exc, lenL, lenT, lenS, setTg_one, wipeR, notOw_sh, notOw_un, notOw_succ, cmp_eq_int, cmp_ne_int, cmp_eq_bool, cmp_ne_bool, cmp_eq_str, cmp_ne_str, cmp_lt_int, cmp_gt_int, cmp_le_int, cmp_ge_int, cmp_in, cmp_nin, cmp_is, cmp_isn, isD_bool, isD_none, bin_add, bin_sub, bin_adds, bin_addl, bin_addt, ix_list, ix_tup, ix_str, items_list, items_tup, items_str, isi_str, isi_tuple, isi_list, isi_bool, isi_int, isi_dict, List.getElem?_cons_zero, List.getElem?_cons_succ, List.set_cons_zero, List.set_cons_succ, List.append_nil, List.nil_append, List.cons_append, reduceIte, Bool.false_eq_true, Option.map_some, Option.map_none, Bool.false_and, Bool.true_and, Bool.and_false, Bool.and_true, Bool.or_false, Bool.or_true, Bool.false_or, Bool.true_or, Bool.not_true, Bool.not_false, List.all_cons, List.all_nil, List.length_cons, List.length_nil, execs_nil, execs_cons, kSeq_next, kSeq_ret, kSeq_exc, kSeq_brk, kSeq_cont, x_set, kSet_ok, kSet_exc, x_setT, kSetT_ok, kNx_ok, x_exp, kExp_ok, kExp_exc, x_app, kApp_ok, x_ext, kExt_ok, x_ret, kRet_ok, kRet_exc, x_retN, x_iff, kTst_ok, kTst_exc, kIf_tt, kIf_ff, x_for, kFor_ok, x_pass, x_brk, x_cont, x_whl, x_par, kPar1_ok, kPar2_ok, kLook_sh, kLook_ow, e_cst, e_glo, ev_var, ev_tup, ev_lst, kTup_ok, kLst_ok, ev_dic, ev_bin, kBin1_ok, kBin2_ok, ev_neg, kNeg_ok, ev_cmp, kCmp1_ok, kCmp2_ok, kBl_some, ev_chn, kCh1_ok, kCh2_ok, kCh3_tt, kCh3_ff, ev_and, ev_or, ev_not, ev_ife, kAnd_tt, kAnd_ff, kOr_tt, kOr_ff, kNot_ok, kIfe_tt, kIfe_ff, ev_call, kCall_ok, ev_bi, kBi_ok, ev_isi, kIsi_ok, ev_ix, kIx1_ok, kIx2_ok, ev_slc, kSl1_ok, kSl2_ok, kSl3_ok, eo_no, eo_so, kOi_ok, et_no, et_so, el_nil, el_cons, kL1_ok, kL2_ok, ep_nil, ep_cons, kP1_ok, ei_val, kIt_ok, ei_rng1, kR1_ok, ei_rng2, kR2_ok, kR3_ok, ei_zip, kZ1_ok, kZ2_ok, ev_lc, kLc_ok, kLe_ok, lcOne_1, kOne_tt, kOne_ff, kSm_ok, ev_rev, kRev_ok, ev_srt, kSrt_ok, kSr2_ok, szl0, szl1, szl2, szl3, szl4, szl5, szl6, szl7, szl8, szl9, szl10, szl11, szl12, szl13, szl14, szl15, szl16, Nat.reduceAdd, beq_self_eq_true, b_beq_true, b_beq_false, isOw_sh, isOw_un, frz1_no, notOw_no, forS_nil, forS_cons, kF1_ok, kF2_next, kF2_cont, kF2_brk, kF2_ret, kF2_exc, isOwL_0, isOwL_s, lk_x1_fact_key, hbd, ih]
theorem l2_loop (k : Nat) (a b c d e f : Sl) : ∀ (T : List D) (x y : Sl), (∀ f ∈ T, isF f) → T.Pairwise (fun a b => PySem.W.dataLt (fkD a) (fkD b) = true) →
    ∃ x' y', forS (setTg [6, 7] true) (execs (callF TB (k + 3)) false l2_law) (List.zipWith (fun p q => PyData.tuple [p, q]) T (T.drop 1)) [a, b, c, d, e, f, x, y] = .next [a, b, c, d, e, f, x', y']
  | [], x, y, _, _ => ⟨x, y, rfl⟩
  | [p], x, y, _, _ => ⟨x, y, rfl⟩
  | p :: q :: r, x, y, hT, hP => by
    obtain ⟨x', y', ih⟩ := l2_loop k a b c d e f (q :: r) (.sh p) (.sh q) (fun z hz => hT z (List.mem_cons_of_mem _ hz)) hP.tail
    refine ⟨x', y', ?_⟩
    have hp := hT p List.mem_cons_self
    have hq := hT q (List.mem_cons_of_mem _ List.mem_cons_self)
    have h1 : PySem.W.dataLt (fkD p) (fkD q) = true := (List.pairwise_cons.mp hP).1 q List.mem_cons_self
    have h2 := dlt_asy h1
    have hbd : execs (callF TB (k + 3)) false l2_law [a, b, c, d, e, f, .sh p, .sh q] = .next [a, b, c, d, e, f, .sh p, .sh q] := by
      simp only [l2_law, leakE, leakL, leakPL, leakO, leakI, frz, frz1_sh, frz1_un, frz1_ow, frz1_succ, ob_some, ob_none, asB_bool, asI_int, asL_list, guard_tt, guard_ff, putV_nf, putV_int, putV_str, putV_bool, putV_none, putV_tup, putV_lst, putV_lsf, keepV_same, keepV_int, keepV_str, keepV_tup, keepV_lst, freshE, out_next, out_ret, out_exc, lenL, lenT, lenS, setTg_one, wipeR, notOw_sh, notOw_un, notOw_succ, cmp_eq_int, cmp_ne_int, cmp_eq_bool, cmp_ne_bool, cmp_eq_str, cmp_ne_str, cmp_lt_int, cmp_gt_int, cmp_le_int, cmp_ge_int, cmp_in, cmp_nin, cmp_is, cmp_isn, isD_bool, isD_none, bin_add, bin_sub, bin_adds, bin_addl, bin_addt, ix_list, ix_tup, ix_str, items_list, items_tup, items_str, isi_str, isi_tuple, isi_list, isi_bool, isi_int, isi_dict, List.getElem?_cons_zero, List.getElem?_cons_succ, List.set_cons_zero, List.set_cons_succ, List.append_nil, List.nil_append, List.cons_append, reduceIte, Bool.false_eq_true, Option.map_some, Option.map_none, Bool.false_and, Bool.true_and, Bool.and_false, Bool.and_true, Bool.or_false, Bool.or_true, Bool.false_or, Bool.true_or, Bool.not_true, Bool.not_false, List.all_cons, List.all_nil, List.length_cons, List.length_nil, execs_nil, execs_cons, kSeq_next, kSeq_ret, kSeq_exc, kSeq_brk, kSeq_cont, x_set, kSet_ok, kSet_exc, x_setT, kSetT_ok, kNx_ok, x_exp, kExp_ok, kExp_exc, x_app, kApp_ok, x_ext, kExt_ok, x_ret, kRet_ok, kRet_exc, x_retN, x_iff, kTst_ok, kTst_exc, kIf_tt, kIf_ff, x_for, kFor_ok, x_pass, x_brk, x_cont, x_whl, x_par, kPar1_ok, kPar2_ok, kLook_sh, kLook_ow, e_cst, e_glo, ev_var, ev_tup, ev_lst, kTup_ok, kLst_ok, ev_dic, ev_bin, kBin1_ok, kBin2_ok, ev_neg, kNeg_ok, ev_cmp, kCmp1_ok, kCmp2_ok, kBl_some, ev_chn, kCh1_ok, kCh2_ok, kCh3_tt, kCh3_ff, ev_and, ev_or, ev_not, ev_ife, kAnd_tt, kAnd_ff, kOr_tt, kOr_ff, kNot_ok, kIfe_tt, kIfe_ff, ev_call, kCall_ok, ev_bi, kBi_ok, ev_isi, kIsi_ok, ev_ix, kIx1_ok, kIx2_ok, ev_slc, kSl1_ok, kSl2_ok, kSl3_ok, eo_no, eo_so, kOi_ok, et_no, et_so, el_nil, el_cons, kL1_ok, kL2_ok, ep_nil, ep_cons, kP1_ok, ei_val, kIt_ok, ei_rng1, kR1_ok, ei_rng2, kR2_ok, kR3_ok, ei_zip, kZ1_ok, kZ2_ok, ev_lc, kLc_ok, kLe_ok, lcOne_1, kOne_tt, kOne_ff, kSm_ok, ev_rev, kRev_ok, ev_srt, kSrt_ok, kSr2_ok, szl0, szl1, szl2, szl3, szl4, szl5, szl6, szl7, szl8, szl9, szl10, szl11, szl12, szl13, szl14, szl15, szl16, Nat.reduceAdd, beq_self_eq_true, b_beq_true, b_beq_false, isOw_sh, isOw_un, frz1_no, notOw_no, forS_nil, forS_cons, kF1_ok, kF2_next, kF2_cont, kF2_brk, kF2_ret, kF2_exc, isOwL_0, isOwL_s, lk_x1_fact_key, fact_less_ok (k + 1) hp hq, h1, places_told_ok k hp hq, fact_before_ok k hp hq, fact_before_ok k hq hp, h2]
    show forS (setTg [6, 7] true) (execs (callF TB (k + 3)) false l2_law) (.tuple [p, q] :: List.zipWith (fun p q => PyData.tuple [p, q]) (q :: r) ((q :: r).drop 1)) _ = _
    simp only [leakE, leakL, leakPL, leakO, leakI, frz, frz1_sh, frz1_un, frz1_ow, frz1_succ, ob_some, ob_none, asB_bool, asI_int, asL_list, guard_tt, guard_ff, putV_nf, putV_int, putV_str, putV_bool, putV_none, putV_tup, putV_lst, putV_lsf, keepV_same, keepV_int, keepV_str, keepV_tup, keepV_lst, freshE, out_next, out_ret, out_exc, lenL, lenT, lenS, setTg_one, wipeR, notOw_sh, notOw_un, notOw_succ, cmp_eq_int, cmp_ne_int, cmp_eq_bool, cmp_ne_bool, cmp_eq_str, cmp_ne_str, cmp_lt_int, cmp_gt_int, cmp_le_int, cmp_ge_int, cmp_in, cmp_nin, cmp_is, cmp_isn, isD_bool, isD_none, bin_add, bin_sub, bin_adds, bin_addl, bin_addt, ix_list, ix_tup, ix_str, items_list, items_tup, items_str, isi_str, isi_tuple, isi_list, isi_bool, isi_int, isi_dict, List.getElem?_cons_zero, List.getElem?_cons_succ, List.set_cons_zero, List.set_cons_succ, List.append_nil, List.nil_append, List.cons_append, reduceIte, Bool.false_eq_true, Option.map_some, Option.map_none, Bool.false_and, Bool.true_and, Bool.and_false, Bool.and_true, Bool.or_false, Bool.or_true, Bool.false_or, Bool.true_or, Bool.not_true, Bool.not_false, List.all_cons, List.all_nil, List.length_cons, List.length_nil, execs_nil, execs_cons, kSeq_next, kSeq_ret, kSeq_exc, kSeq_brk, kSeq_cont, x_set, kSet_ok, kSet_exc, x_setT, kSetT_ok, kNx_ok, x_exp, kExp_ok, kExp_exc, x_app, kApp_ok, x_ext, kExt_ok, x_ret, kRet_ok, kRet_exc, x_retN, x_iff, kTst_ok, kTst_exc, kIf_tt, kIf_ff, x_for, kFor_ok, x_pass, x_brk, x_cont, x_whl, x_par, kPar1_ok, kPar2_ok, kLook_sh, kLook_ow, e_cst, e_glo, ev_var, ev_tup, ev_lst, kTup_ok, kLst_ok, ev_dic, ev_bin, kBin1_ok, kBin2_ok, ev_neg, kNeg_ok, ev_cmp, kCmp1_ok, kCmp2_ok, kBl_some, ev_chn, kCh1_ok, kCh2_ok, kCh3_tt, kCh3_ff, ev_and, ev_or, ev_not, ev_ife, kAnd_tt, kAnd_ff, kOr_tt, kOr_ff, kNot_ok, kIfe_tt, kIfe_ff, ev_call, kCall_ok, ev_bi, kBi_ok, ev_isi, kIsi_ok, ev_ix, kIx1_ok, kIx2_ok, ev_slc, kSl1_ok, kSl2_ok, kSl3_ok, eo_no, eo_so, kOi_ok, et_no, et_so, el_nil, el_cons, kL1_ok, kL2_ok, ep_nil, ep_cons, kP1_ok, ei_val, kIt_ok, ei_rng1, kR1_ok, ei_rng2, kR2_ok, kR3_ok, ei_zip, kZ1_ok, kZ2_ok, ev_lc, kLc_ok, kLe_ok, lcOne_1, kOne_tt, kOne_ff, kSm_ok, ev_rev, kRev_ok, ev_srt, kSrt_ok, kSr2_ok, szl0, szl1, szl2, szl3, szl4, szl5, szl6, szl7, szl8, szl9, szl10, szl11, szl12, szl13, szl14, szl15, szl16, Nat.reduceAdd, beq_self_eq_true, b_beq_true, b_beq_false, isOw_sh, isOw_un, frz1_no, notOw_no, forS_nil, forS_cons, kF1_ok, kF2_next, kF2_cont, kF2_brk, kF2_ret, kF2_exc, isOwL_0, isOwL_s, lk_x1_fact_key, setTg_two, hbd, ih]
theorem l1_loop (k : Nat) (a b c d f g : Sl) (T : List D) (hT : ∀ f ∈ T, isF f) : ∀ (L : List D) (x : Sl), (∀ f ∈ L, isF f) → (∀ f ∈ L, f ∈ T) →
    ∃ x', forS (setTg [3] false) (execs (callF TB (k + 3)) false l1_law) L [a, b, c, x, d, .sh (.list T), f, g] = .next [a, b, c, x', d, .sh (.list T), f, g]
  | [], x, _, _ => ⟨x, rfl⟩
  | p :: L, x, hL, hm => by
    obtain ⟨x', ih⟩ := l1_loop k a b c d f g T hT L (.sh p) (fun z hz => hL z (List.mem_cons_of_mem _ hz)) fun z hz => hm z (List.mem_cons_of_mem _ hz)
    refine ⟨x', ?_⟩
    have hp := hL p List.mem_cons_self
    obtain ⟨q, e2, hq⟩ := in_facts hT hp
    have e3 := hq.mpr (hm p List.mem_cons_self)
    subst e3
    have hbd : execs (callF TB (k + 3)) false l1_law [a, b, c, .sh p, d, .sh (.list T), f, g] = .next [a, b, c, .sh p, d, .sh (.list T), f, g] := by
      simp only [l1_law, leakE, leakL, leakPL, leakO, leakI, frz, frz1_sh, frz1_un, frz1_ow, frz1_succ, ob_some, ob_none, asB_bool, asI_int, asL_list, guard_tt, guard_ff, putV_nf, putV_int, putV_str, putV_bool, putV_none, putV_tup, putV_lst, putV_lsf, keepV_same, keepV_int, keepV_str, keepV_tup, keepV_lst, freshE, out_next, out_ret, out_exc, lenL, lenT, lenS, setTg_one, wipeR, notOw_sh, notOw_un, notOw_succ, cmp_eq_int, cmp_ne_int, cmp_eq_bool, cmp_ne_bool, cmp_eq_str, cmp_ne_str, cmp_lt_int, cmp_gt_int, cmp_le_int, cmp_ge_int, cmp_in, cmp_nin, cmp_is, cmp_isn, isD_bool, isD_none, bin_add, bin_sub, bin_adds, bin_addl, bin_addt, ix_list, ix_tup, ix_str, items_list, items_tup, items_str, isi_str, isi_tuple, isi_list, isi_bool, isi_int, isi_dict, List.getElem?_cons_zero, List.getElem?_cons_succ, List.set_cons_zero, List.set_cons_succ, List.append_nil, List.nil_append, List.cons_append, reduceIte, Bool.false_eq_true, Option.map_some, Option.map_none, Bool.false_and, Bool.true_and, Bool.and_false, Bool.and_true, Bool.or_false, Bool.or_true, Bool.false_or, Bool.true_or, Bool.not_true, Bool.not_false, List.all_cons, List.all_nil, List.length_cons, List.length_nil, execs_nil, execs_cons, kSeq_next, kSeq_ret, kSeq_exc, kSeq_brk, kSeq_cont, x_set, kSet_ok, kSet_exc, x_setT, kSetT_ok, kNx_ok, x_exp, kExp_ok, kExp_exc, x_app, kApp_ok, x_ext, kExt_ok, x_ret, kRet_ok, kRet_exc, x_retN, x_iff, kTst_ok, kTst_exc, kIf_tt, kIf_ff, x_for, kFor_ok, x_pass, x_brk, x_cont, x_whl, x_par, kPar1_ok, kPar2_ok, kLook_sh, kLook_ow, e_cst, e_glo, ev_var, ev_tup, ev_lst, kTup_ok, kLst_ok, ev_dic, ev_bin, kBin1_ok, kBin2_ok, ev_neg, kNeg_ok, ev_cmp, kCmp1_ok, kCmp2_ok, kBl_some, ev_chn, kCh1_ok, kCh2_ok, kCh3_tt, kCh3_ff, ev_and, ev_or, ev_not, ev_ife, kAnd_tt, kAnd_ff, kOr_tt, kOr_ff, kNot_ok, kIfe_tt, kIfe_ff, ev_call, kCall_ok, ev_bi, kBi_ok, ev_isi, kIsi_ok, ev_ix, kIx1_ok, kIx2_ok, ev_slc, kSl1_ok, kSl2_ok, kSl3_ok, eo_no, eo_so, kOi_ok, et_no, et_so, el_nil, el_cons, kL1_ok, kL2_ok, ep_nil, ep_cons, kP1_ok, ei_val, kIt_ok, ei_rng1, kR1_ok, ei_rng2, kR2_ok, kR3_ok, ei_zip, kZ1_ok, kZ2_ok, ev_lc, kLc_ok, kLe_ok, lcOne_1, kOne_tt, kOne_ff, kSm_ok, ev_rev, kRev_ok, ev_srt, kSrt_ok, kSr2_ok, szl0, szl1, szl2, szl3, szl4, szl5, szl6, szl7, szl8, szl9, szl10, szl11, szl12, szl13, szl14, szl15, szl16, Nat.reduceAdd, beq_self_eq_true, b_beq_true, b_beq_false, isOw_sh, isOw_un, frz1_no, notOw_no, forS_nil, forS_cons, kF1_ok, kF2_next, kF2_cont, kF2_brk, kF2_ret, kF2_exc, isOwL_0, isOwL_s, lk_x1_fact_key, e2, fact_before_ok k hp hp, dlt_irr]
    simp only [leakE, leakL, leakPL, leakO, leakI, frz, frz1_sh, frz1_un, frz1_ow, frz1_succ, ob_some, ob_none, asB_bool, asI_int, asL_list, guard_tt, guard_ff, putV_nf, putV_int, putV_str, putV_bool, putV_none, putV_tup, putV_lst, putV_lsf, keepV_same, keepV_int, keepV_str, keepV_tup, keepV_lst, freshE, out_next, out_ret, out_exc, lenL, lenT, lenS, setTg_one, wipeR, notOw_sh, notOw_un, notOw_succ, cmp_eq_int, cmp_ne_int, cmp_eq_bool, cmp_ne_bool, cmp_eq_str, cmp_ne_str, cmp_lt_int, cmp_gt_int, cmp_le_int, cmp_ge_int, cmp_in, cmp_nin, cmp_is, cmp_isn, isD_bool, isD_none, bin_add, bin_sub, bin_adds, bin_addl, bin_addt, ix_list, ix_tup, ix_str, items_list, items_tup, items_str, isi_str, isi_tuple, isi_list, isi_bool, isi_int, isi_dict, List.getElem?_cons_zero, List.getElem?_cons_succ, List.set_cons_zero, List.set_cons_succ, List.append_nil, List.nil_append, List.cons_append, reduceIte, Bool.false_eq_true, Option.map_some, Option.map_none, Bool.false_and, Bool.true_and, Bool.and_false, Bool.and_true, Bool.or_false, Bool.or_true, Bool.false_or, Bool.true_or, Bool.not_true, Bool.not_false, List.all_cons, List.all_nil, List.length_cons, List.length_nil, execs_nil, execs_cons, kSeq_next, kSeq_ret, kSeq_exc, kSeq_brk, kSeq_cont, x_set, kSet_ok, kSet_exc, x_setT, kSetT_ok, kNx_ok, x_exp, kExp_ok, kExp_exc, x_app, kApp_ok, x_ext, kExt_ok, x_ret, kRet_ok, kRet_exc, x_retN, x_iff, kTst_ok, kTst_exc, kIf_tt, kIf_ff, x_for, kFor_ok, x_pass, x_brk, x_cont, x_whl, x_par, kPar1_ok, kPar2_ok, kLook_sh, kLook_ow, e_cst, e_glo, ev_var, ev_tup, ev_lst, kTup_ok, kLst_ok, ev_dic, ev_bin, kBin1_ok, kBin2_ok, ev_neg, kNeg_ok, ev_cmp, kCmp1_ok, kCmp2_ok, kBl_some, ev_chn, kCh1_ok, kCh2_ok, kCh3_tt, kCh3_ff, ev_and, ev_or, ev_not, ev_ife, kAnd_tt, kAnd_ff, kOr_tt, kOr_ff, kNot_ok, kIfe_tt, kIfe_ff, ev_call, kCall_ok, ev_bi, kBi_ok, ev_isi, kIsi_ok, ev_ix, kIx1_ok, kIx2_ok, ev_slc, kSl1_ok, kSl2_ok, kSl3_ok, eo_no, eo_so, kOi_ok, et_no, et_so, el_nil, el_cons, kL1_ok, kL2_ok, ep_nil, ep_cons, kP1_ok, ei_val, kIt_ok, ei_rng1, kR1_ok, ei_rng2, kR2_ok, kR3_ok, ei_zip, kZ1_ok, kZ2_ok, ev_lc, kLc_ok, kLe_ok, lcOne_1, kOne_tt, kOne_ff, kSm_ok, ev_rev, kRev_ok, ev_srt, kSrt_ok, kSr2_ok, szl0, szl1, szl2, szl3, szl4, szl5, szl6, szl7, szl8, szl9, szl10, szl11, szl12, szl13, szl14, szl15, szl16, Nat.reduceAdd, beq_self_eq_true, b_beq_true, b_beq_false, isOw_sh, isOw_un, frz1_no, notOw_no, forS_nil, forS_cons, kF1_ok, kF2_next, kF2_cont, kF2_brk, kF2_ret, kF2_exc, isOwL_0, isOwL_s, lk_x1_fact_key, hbd, ih]
theorem in_ints {ns : List Int} {lo hi : Option Int} : ∃ ms : List Int, cutD (ns.map PyData.int) lo hi = ms.map PyData.int ∧ ms.length ≤ ns.length := by
  refine ⟨(ns.drop (HT.sIx ns.length 0 lo)).take (HT.sIx ns.length ns.length hi - HT.sIx ns.length 0 lo), ?_, ?_⟩
  · unfold cutD
    rw [List.length_map, ← List.map_drop, ← List.map_take]
  · rw [List.length_take, List.length_drop]; omega
theorem cut_one (T : List D) : cutD T (some 1) none = T.drop 1 := by
  unfold cutD
  rw [show HT.sIx T.length 0 (some 1) = min 1 T.length from HT.sIx_nat T.length 0 1, HT.sIx_none]
  cases T with
  | nil => rfl
  | cons x r =>
    rw [show min 1 (x :: r).length = 1 by rw [List.length_cons]; omega]
    exact List.take_of_length_le (by rw [List.length_drop]; omega)
theorem law_gen (k : Nat) (ns : List Int) (hn : ns.length ≤ 63) : callF TB (k + 4) (Str.ofString "law") [.list (ns.map PyData.int)] = .ok (.bool true) := by
  rw [cl_law]
  obtain ⟨ms, e1, hl⟩ := in_ints (ns := ns) (lo := none) (hi := some 20)
  have hs : slcD (.list (ns.map PyData.int)) none (some 20) = some (.list (ms.map PyData.int)) := by rw [← e1]; rfl
  obtain ⟨L, a, b, q1, hL, hN, hz, oa, ob⟩ := l3_loop k (.sh (.list (ns.map PyData.int))) .un .un .un .un ms [] .un .un (fun f hf => by cases hf) (by simp) (by simp; omega) rfl rfl
  have hzl : L.length ≤ 1000 := by simp at hz; omega
  have bl : biD "list" [.list L] = some (.list L) := rfl
  have io := in_order_ok k hzl hL
  generalize hT : srtK L (L.map fkD) = T at io
  have pm : T.Perm L := by rw [← hT]; exact srt_perm L fkD
  have TF : ∀ f ∈ T, isF f := fun f hf => hL f (pm.mem_iff.mp hf)
  have TN : T.Nodup := pm.nodup_iff.mpr hN
  have TP : T.Pairwise (fun a b => PySem.W.dataLt (fkD a) (fkD b) = true) := by
    have h1 : T.Pairwise fun a b => PySem.W.dataLt (fkD b) (fkD a) = false := by rw [← hT]; exact srt_pair L fkD
    refine (h1.and TN).imp_of_mem fun {x y} hx hy ⟨h2, h3⟩ => ?_
    cases q : PySem.W.dataLt (fkD x) (fkD y) with
    | true => rfl
    | false => exact absurd (fl_tot (TF x hx) (TF y hy) q h2) h3
  have tl : T.length = L.length := pm.length_eq
  obtain ⟨v, v1, v2, v3⟩ := cmp_list hL hL
  have hv := v3.mpr rfl
  subst hv
  have s1 : slcD (.list T) (some 1) none = some (.list (T.drop 1)) := by rw [← cut_one]; rfl
  have z1 : zipD (.list T) (.list (T.drop 1)) = some (List.zipWith (fun p q => PyData.tuple [p, q]) T (T.drop 1)) := rfl
  obtain ⟨x', y', q2⟩ := l2_loop k (.sh (.list (ns.map PyData.int))) (.ow (.list L)) a b (.sh (.list L)) (.sh (.list T)) T .un .un TF TP
  obtain ⟨w', q3⟩ := l1_loop k (.sh (.list (ns.map PyData.int))) (.sh (.list L)) a (.sh (.list L)) x' y' T TF L b hL fun f hf => pm.mem_iff.mpr hf
  have rv := in_order_ok k (L := L.reverse) (by simpa using hzl) fun f hf => hL f (by simpa using hf)
  have re : srtK L.reverse (L.reverse.map fkD) = T := by
    rw [← hT]
    exact (srt_one fkD (List.reverse_perm L).symm fun x hx y hy h1 h2 => fl_tot (hL x hx) (hL y hy) h1 h2).symm
  rw [re] at rv
  obtain ⟨u, u1, u2, u3⟩ := cmp_list TF TF
  have hu := u3.mpr rfl
  subst hu
  have em := in_order_ok k (L := []) (by simp) fun f hf => by cases hf
  rw [show srtK [] (([] : List D).map fkD) = [] by unfold srtK; simp] at em
  obtain ⟨t, t1, t2, t3⟩ := cmp_list (L := []) (M := []) (fun f hf => by cases hf) fun f hf => by cases hf
  have ht := t3.mpr rfl
  subst ht
  simp only [b_law, leakE, leakL, leakPL, leakO, leakI, frz, frz1_sh, frz1_un, frz1_ow, frz1_succ, ob_some, ob_none, asB_bool, asI_int, asL_list, guard_tt, guard_ff, putV_nf, putV_int, putV_str, putV_bool, putV_none, putV_tup, putV_lst, putV_lsf, keepV_same, keepV_int, keepV_str, keepV_tup, keepV_lst, freshE, out_next, out_ret, out_exc, lenL, lenT, lenS, setTg_one, wipeR, notOw_sh, notOw_un, notOw_succ, cmp_eq_int, cmp_ne_int, cmp_eq_bool, cmp_ne_bool, cmp_eq_str, cmp_ne_str, cmp_lt_int, cmp_gt_int, cmp_le_int, cmp_ge_int, cmp_in, cmp_nin, cmp_is, cmp_isn, isD_bool, isD_none, bin_add, bin_sub, bin_adds, bin_addl, bin_addt, ix_list, ix_tup, ix_str, items_list, items_tup, items_str, isi_str, isi_tuple, isi_list, isi_bool, isi_int, isi_dict, List.getElem?_cons_zero, List.getElem?_cons_succ, List.set_cons_zero, List.set_cons_succ, List.append_nil, List.nil_append, List.cons_append, reduceIte, Bool.false_eq_true, Option.map_some, Option.map_none, Bool.false_and, Bool.true_and, Bool.and_false, Bool.and_true, Bool.or_false, Bool.or_true, Bool.false_or, Bool.true_or, Bool.not_true, Bool.not_false, List.all_cons, List.all_nil, List.length_cons, List.length_nil, execs_nil, execs_cons, kSeq_next, kSeq_ret, kSeq_exc, kSeq_brk, kSeq_cont, x_set, kSet_ok, kSet_exc, x_setT, kSetT_ok, kNx_ok, x_exp, kExp_ok, kExp_exc, x_app, kApp_ok, x_ext, kExt_ok, x_ret, kRet_ok, kRet_exc, x_retN, x_iff, kTst_ok, kTst_exc, kIf_tt, kIf_ff, x_for, kFor_ok, x_pass, x_brk, x_cont, x_whl, x_par, kPar1_ok, kPar2_ok, kLook_sh, kLook_ow, e_cst, e_glo, ev_var, ev_tup, ev_lst, kTup_ok, kLst_ok, ev_dic, ev_bin, kBin1_ok, kBin2_ok, ev_neg, kNeg_ok, ev_cmp, kCmp1_ok, kCmp2_ok, kBl_some, ev_chn, kCh1_ok, kCh2_ok, kCh3_tt, kCh3_ff, ev_and, ev_or, ev_not, ev_ife, kAnd_tt, kAnd_ff, kOr_tt, kOr_ff, kNot_ok, kIfe_tt, kIfe_ff, ev_call, kCall_ok, ev_bi, kBi_ok, ev_isi, kIsi_ok, ev_ix, kIx1_ok, kIx2_ok, ev_slc, kSl1_ok, kSl2_ok, kSl3_ok, eo_no, eo_so, kOi_ok, et_no, et_so, el_nil, el_cons, kL1_ok, kL2_ok, ep_nil, ep_cons, kP1_ok, ei_val, kIt_ok, ei_rng1, kR1_ok, ei_rng2, kR2_ok, kR3_ok, ei_zip, kZ1_ok, kZ2_ok, ev_lc, kLc_ok, kLe_ok, lcOne_1, kOne_tt, kOne_ff, kSm_ok, ev_rev, kRev_ok, ev_srt, kSrt_ok, kSr2_ok, szl0, szl1, szl2, szl3, szl4, szl5, szl6, szl7, szl8, szl9, szl10, szl11, szl12, szl13, szl14, szl15, szl16, Nat.reduceAdd, beq_self_eq_true, b_beq_true, b_beq_false, isOw_sh, isOw_un, frz1_no, notOw_no, forS_nil, forS_cons, kF1_ok, kF2_next, kF2_cont, kF2_brk, kF2_ret, kF2_exc, isOwL_0, isOwL_s, lk_x1_fact_key, hs, q1, bl, io, v2, isL, tl, decide_true, s1, z1, q2, q3, rv, u1, em, t1, oa, ob]
theorem law_true : ∀ ns : List Int, ns.length ≤ 63 → callF TB 16 (Str.ofString "law") [.list (ns.map PyData.int)] = .ok (.bool true) := fun ns hn => law_gen 12 ns hn
end DI
set_option Elab.async false
set_option linter.all false
set_option maxRecDepth 100000
set_option maxHeartbeats 4000000
/-! the end: what the top has written -/
namespace DI
open PySem PySem.Spec PyProof.Rows L2
theorem sc_constant_key : FnScope nn_constant_key ps_constant_key (defScope (topS 1)) := ⟨rfl, rfl, rfl, by decide +kernel, by decide +kernel, by decide +kernel, by decide +kernel⟩
theorem cb_constant_key : compSs (compS GIv nn_constant_key (defScope (topS 1)) false 100) (defBody (topS 1)) = some b_constant_key := by kernel_rfl
theorem sc_fact_key : FnScope nn_fact_key ps_fact_key (defScope (topS 2)) := ⟨rfl, rfl, rfl, by decide +kernel, by decide +kernel, by decide +kernel, by decide +kernel⟩
theorem cb_fact_key : compSs (compS GIv nn_fact_key (defScope (topS 2)) false 100) (defBody (topS 2)) = some b_fact_key := by kernel_rfl
theorem sc_constant_before : FnScope nn_constant_before ps_constant_before (defScope (topS 3)) := ⟨rfl, rfl, rfl, by decide +kernel, by decide +kernel, by decide +kernel, by decide +kernel⟩
theorem cb_constant_before : compSs (compS GIv nn_constant_before (defScope (topS 3)) false 100) (defBody (topS 3)) = some b_constant_before := by kernel_rfl
theorem sc_fact_before : FnScope nn_fact_before ps_fact_before (defScope (topS 4)) := ⟨rfl, rfl, rfl, by decide +kernel, by decide +kernel, by decide +kernel, by decide +kernel⟩
theorem cb_fact_before : compSs (compS GIv nn_fact_before (defScope (topS 4)) false 100) (defBody (topS 4)) = some b_fact_before := by kernel_rfl
theorem sc_in_order : FnScope nn_in_order ps_in_order (defScope (topS 5)) := ⟨rfl, rfl, rfl, by decide +kernel, by decide +kernel, by decide +kernel, by decide +kernel⟩
theorem cb_in_order : compSs (compS GIv nn_in_order (defScope (topS 5)) false 100) (defBody (topS 5)) = some b_in_order := by kernel_rfl
theorem sc__law_constant : FnScope nn__law_constant ps__law_constant (defScope (topS 8)) := ⟨rfl, rfl, rfl, by decide +kernel, by decide +kernel, by decide +kernel, by decide +kernel⟩
theorem cb__law_constant : compSs (compS GIv nn__law_constant (defScope (topS 8)) false 100) (defBody (topS 8)) = some b__law_constant := by kernel_rfl
theorem sc__law_fact : FnScope nn__law_fact ps__law_fact (defScope (topS 9)) := ⟨rfl, rfl, rfl, by decide +kernel, by decide +kernel, by decide +kernel, by decide +kernel⟩
theorem cb__law_fact : compSs (compS GIv nn__law_fact (defScope (topS 9)) false 100) (defBody (topS 9)) = some b__law_fact := by kernel_rfl
theorem sc__law_constant_less : FnScope nn__law_constant_less ps__law_constant_less (defScope (topS 10)) := ⟨rfl, rfl, rfl, by decide +kernel, by decide +kernel, by decide +kernel, by decide +kernel⟩
theorem cb__law_constant_less : compSs (compS GIv nn__law_constant_less (defScope (topS 10)) false 100) (defBody (topS 10)) = some b__law_constant_less := by kernel_rfl
theorem sc__law_fact_less : FnScope nn__law_fact_less ps__law_fact_less (defScope (topS 11)) := ⟨rfl, rfl, rfl, by decide +kernel, by decide +kernel, by decide +kernel, by decide +kernel⟩
theorem cb__law_fact_less : compSs (compS GIv nn__law_fact_less (defScope (topS 11)) false 100) (defBody (topS 11)) = some b__law_fact_less := by kernel_rfl
theorem sc__law_places_told : FnScope nn__law_places_told ps__law_places_told (defScope (topS 12)) := ⟨rfl, rfl, rfl, by decide +kernel, by decide +kernel, by decide +kernel, by decide +kernel⟩
theorem cb__law_places_told : compSs (compS GIv nn__law_places_told (defScope (topS 12)) false 100) (defBody (topS 12)) = some b__law_places_told := by kernel_rfl
theorem sc_law : FnScope nn_law ps_law (defScope (topS 13)) := ⟨rfl, rfl, rfl, by decide +kernel, by decide +kernel, by decide +kernel, by decide +kernel⟩
theorem cb_law : compSs (compS GIv nn_law (defScope (topS 13)) false 100) (defBody (topS 13)) = some b_law := by kernel_rfl
theorem fns_tb : ∀ x fr ar, GIv.fns.lookup x = some (fr, ar) → ∃ fd, TB.find? (fun fd => fd.nm == x) = some fd ∧ fd.fr = fr ∧ fd.ps.length = ar := by
  intro x fr ar h
  have h1 := lookup_mem h
  have key : ∀ p ∈ GIv.fns, (match TB.find? (fun fd => fd.nm == p.1) with | some fd => decide (fd.fr = p.2.1) && decide (fd.ps.length = p.2.2) | none => false) = true := by decide +kernel
  have k1 := key _ h1
  dsimp only at k1
  split at k1
  · rename_i fd e
    rw [Bool.and_eq_true, decide_eq_true_eq, decide_eq_true_eq] at k1
    exact ⟨fd, e, k1.1, k1.2⟩
  · cases k1
set_option maxHeartbeats 0 in
theorem mod_ok {K : PySem.W.Frag} {h : Heap} {mg : Str → Option Value} {w : World} (X : K.In h) (G : h.Ns mainGlobals mg)
  {f0 f1 f2 f3 f4 f5 f6 f7 f8 f9 f10 : Addr} {oc0 kV0 dc0 pm0 cd0 ct0 : Value} {od0 an0 : Option Addr} {sl0 : Array (Option Value)} {oc1 kV1 dc1 pm1 cd1 ct1 : Value} {od1 an1 : Option Addr} {sl1 : Array (Option Value)} {oc2 kV2 dc2 pm2 cd2 ct2 : Value} {od2 an2 : Option Addr} {sl2 : Array (Option Value)} {oc3 kV3 dc3 pm3 cd3 ct3 : Value} {od3 an3 : Option Addr} {sl3 : Array (Option Value)} {oc4 kV4 dc4 pm4 cd4 ct4 : Value} {od4 an4 : Option Addr} {sl4 : Array (Option Value)} {oc5 kV5 dc5 pm5 cd5 ct5 : Value} {od5 an5 : Option Addr} {sl5 : Array (Option Value)} {oc6 kV6 dc6 pm6 cd6 ct6 : Value} {od6 an6 : Option Addr} {sl6 : Array (Option Value)} {oc7 kV7 dc7 pm7 cd7 ct7 : Value} {od7 an7 : Option Addr} {sl7 : Array (Option Value)} {oc8 kV8 dc8 pm8 cd8 ct8 : Value} {od8 an8 : Option Addr} {sl8 : Array (Option Value)} {oc9 kV9 dc9 pm9 cd9 ct9 : Value} {od9 an9 : Option Addr} {sl9 : Array (Option Value)} {oc10 kV10 dc10 pm10 cd10 ct10 : Value} {od10 an10 : Option Addr} {sl10 : Array (Option Value)} 
  (a0 : PySem.W.nsIn K mainGlobals (Str.ofString "constant_key") = some (some (.ref f0))) (l0 : K.lookup f0 = some ⟨oc0, od0, .func (PySem.W.fnOf (Str.ofString "constant_key") (Str.ofString "constant_key") (defArgs (topS 1)) (defBody (topS 1)) (defScope (topS 1)) .none kV0 dc0 pm0 an0 cd0 ct0), sl0⟩) (c0 : PySem.W.codeIn K cd0 (Str.ofString "constant_key") = true) (k0 : PySem.W.keepIn K (.ref f0) = true)
  (a1 : PySem.W.nsIn K mainGlobals (Str.ofString "fact_key") = some (some (.ref f1))) (l1 : K.lookup f1 = some ⟨oc1, od1, .func (PySem.W.fnOf (Str.ofString "fact_key") (Str.ofString "fact_key") (defArgs (topS 2)) (defBody (topS 2)) (defScope (topS 2)) .none kV1 dc1 pm1 an1 cd1 ct1), sl1⟩) (c1 : PySem.W.codeIn K cd1 (Str.ofString "fact_key") = true) (k1 : PySem.W.keepIn K (.ref f1) = true)
  (a2 : PySem.W.nsIn K mainGlobals (Str.ofString "constant_before") = some (some (.ref f2))) (l2 : K.lookup f2 = some ⟨oc2, od2, .func (PySem.W.fnOf (Str.ofString "constant_before") (Str.ofString "constant_before") (defArgs (topS 3)) (defBody (topS 3)) (defScope (topS 3)) .none kV2 dc2 pm2 an2 cd2 ct2), sl2⟩) (c2 : PySem.W.codeIn K cd2 (Str.ofString "constant_before") = true) (k2 : PySem.W.keepIn K (.ref f2) = true)
  (a3 : PySem.W.nsIn K mainGlobals (Str.ofString "fact_before") = some (some (.ref f3))) (l3 : K.lookup f3 = some ⟨oc3, od3, .func (PySem.W.fnOf (Str.ofString "fact_before") (Str.ofString "fact_before") (defArgs (topS 4)) (defBody (topS 4)) (defScope (topS 4)) .none kV3 dc3 pm3 an3 cd3 ct3), sl3⟩) (c3 : PySem.W.codeIn K cd3 (Str.ofString "fact_before") = true) (k3 : PySem.W.keepIn K (.ref f3) = true)
  (a4 : PySem.W.nsIn K mainGlobals (Str.ofString "in_order") = some (some (.ref f4))) (l4 : K.lookup f4 = some ⟨oc4, od4, .func (PySem.W.fnOf (Str.ofString "in_order") (Str.ofString "in_order") (defArgs (topS 5)) (defBody (topS 5)) (defScope (topS 5)) .none kV4 dc4 pm4 an4 cd4 ct4), sl4⟩) (c4 : PySem.W.codeIn K cd4 (Str.ofString "in_order") = true) (k4 : PySem.W.keepIn K (.ref f4) = true)
  (a5 : PySem.W.nsIn K mainGlobals (Str.ofString "_law_constant") = some (some (.ref f5))) (l5 : K.lookup f5 = some ⟨oc5, od5, .func (PySem.W.fnOf (Str.ofString "_law_constant") (Str.ofString "_law_constant") (defArgs (topS 8)) (defBody (topS 8)) (defScope (topS 8)) .none kV5 dc5 pm5 an5 cd5 ct5), sl5⟩) (c5 : PySem.W.codeIn K cd5 (Str.ofString "_law_constant") = true) (k5 : PySem.W.keepIn K (.ref f5) = true)
  (a6 : PySem.W.nsIn K mainGlobals (Str.ofString "_law_fact") = some (some (.ref f6))) (l6 : K.lookup f6 = some ⟨oc6, od6, .func (PySem.W.fnOf (Str.ofString "_law_fact") (Str.ofString "_law_fact") (defArgs (topS 9)) (defBody (topS 9)) (defScope (topS 9)) .none kV6 dc6 pm6 an6 cd6 ct6), sl6⟩) (c6 : PySem.W.codeIn K cd6 (Str.ofString "_law_fact") = true) (k6 : PySem.W.keepIn K (.ref f6) = true)
  (a7 : PySem.W.nsIn K mainGlobals (Str.ofString "_law_constant_less") = some (some (.ref f7))) (l7 : K.lookup f7 = some ⟨oc7, od7, .func (PySem.W.fnOf (Str.ofString "_law_constant_less") (Str.ofString "_law_constant_less") (defArgs (topS 10)) (defBody (topS 10)) (defScope (topS 10)) .none kV7 dc7 pm7 an7 cd7 ct7), sl7⟩) (c7 : PySem.W.codeIn K cd7 (Str.ofString "_law_constant_less") = true) (k7 : PySem.W.keepIn K (.ref f7) = true)
  (a8 : PySem.W.nsIn K mainGlobals (Str.ofString "_law_fact_less") = some (some (.ref f8))) (l8 : K.lookup f8 = some ⟨oc8, od8, .func (PySem.W.fnOf (Str.ofString "_law_fact_less") (Str.ofString "_law_fact_less") (defArgs (topS 11)) (defBody (topS 11)) (defScope (topS 11)) .none kV8 dc8 pm8 an8 cd8 ct8), sl8⟩) (c8 : PySem.W.codeIn K cd8 (Str.ofString "_law_fact_less") = true) (k8 : PySem.W.keepIn K (.ref f8) = true)
  (a9 : PySem.W.nsIn K mainGlobals (Str.ofString "_law_places_told") = some (some (.ref f9))) (l9 : K.lookup f9 = some ⟨oc9, od9, .func (PySem.W.fnOf (Str.ofString "_law_places_told") (Str.ofString "_law_places_told") (defArgs (topS 12)) (defBody (topS 12)) (defScope (topS 12)) .none kV9 dc9 pm9 an9 cd9 ct9), sl9⟩) (c9 : PySem.W.codeIn K cd9 (Str.ofString "_law_places_told") = true) (k9 : PySem.W.keepIn K (.ref f9) = true)
  (a10 : PySem.W.nsIn K mainGlobals (Str.ofString "law") = some (some (.ref f10))) (l10 : K.lookup f10 = some ⟨oc10, od10, .func (PySem.W.fnOf (Str.ofString "law") (Str.ofString "law") (defArgs (topS 13)) (defBody (topS 13)) (defScope (topS 13)) .none kV10 dc10 pm10 an10 cd10 ct10), sl10⟩) (c10 : PySem.W.codeIn K cd10 (Str.ofString "law") = true) (k10 : PySem.W.keepIn K (.ref f10) = true)
  (z0 : PySem.W.nsIn K mainGlobals (Str.ofString "len") = some none)
  (z1 : PySem.W.nsIn K mainGlobals (Str.ofString "list") = some none)
  (z2 : PySem.W.nsIn K mainGlobals (Str.ofString "str") = some none)
  (z3 : PySem.W.nsIn K mainGlobals (Str.ofString "bool") = some none)
  (z4 : PySem.W.nsIn K mainGlobals (Str.ofString "isinstance") = some none)
  (z5 : PySem.W.nsIn K mainGlobals (Str.ofString "range") = some none)
  (z6 : PySem.W.nsIn K mainGlobals (Str.ofString "zip") = some none)
  (z7 : PySem.W.nsIn K mainGlobals (Str.ofString "sorted") = some none) : ModOk K w mg TB GIv := by
  refine ⟨fun x d hx => ?_, fun t ht => ?_, fun x fr ar hx => ?_, fun fd hfd => ?_⟩
  · have := lookup_mem hx
    simp only [GIv, List.mem_cons, List.not_mem_nil, or_false, Prod.mk.injEq] at this
    
  · simp only [GIv, List.mem_cons, List.not_mem_nil, or_false] at ht
    rcases ht with rfl | rfl | rfl | rfl | rfl | rfl | rfl | rfl
    · exact PySem.W.mg_none_of X G z0
    · exact PySem.W.mg_none_of X G z1
    · exact PySem.W.mg_none_of X G z2
    · exact PySem.W.mg_none_of X G z3
    · exact PySem.W.mg_none_of X G z4
    · exact PySem.W.mg_none_of X G z5
    · exact PySem.W.mg_none_of X G z6
    · exact PySem.W.mg_none_of X G z7
  · exact fns_tb x fr ar hx
  · simp only [TB, List.mem_cons, List.not_mem_nil, or_false] at hfd
    rcases hfd with rfl | rfl | rfl | rfl | rfl | rfl | rfl | rfl | rfl | rfl | rfl
    · exact ⟨⟨_, _, topS 1, Str.ofString "constant_key", PySem.W.mg_of X G a0, fun_mk (st := topS 1) l0 c0 k0, sc_constant_key, fun us hl => (match us, hl with | [_], _ => rfl), cb_constant_key⟩, by decide +kernel⟩
    · exact ⟨⟨_, _, topS 2, Str.ofString "fact_key", PySem.W.mg_of X G a1, fun_mk (st := topS 2) l1 c1 k1, sc_fact_key, fun us hl => (match us, hl with | [_], _ => rfl), cb_fact_key⟩, by decide +kernel⟩
    · exact ⟨⟨_, _, topS 3, Str.ofString "constant_before", PySem.W.mg_of X G a2, fun_mk (st := topS 3) l2 c2 k2, sc_constant_before, fun us hl => (match us, hl with | [_, _], _ => rfl), cb_constant_before⟩, by decide +kernel⟩
    · exact ⟨⟨_, _, topS 4, Str.ofString "fact_before", PySem.W.mg_of X G a3, fun_mk (st := topS 4) l3 c3 k3, sc_fact_before, fun us hl => (match us, hl with | [_, _], _ => rfl), cb_fact_before⟩, by decide +kernel⟩
    · exact ⟨⟨_, _, topS 5, Str.ofString "in_order", PySem.W.mg_of X G a4, fun_mk (st := topS 5) l4 c4 k4, sc_in_order, fun us hl => (match us, hl with | [_], _ => rfl), cb_in_order⟩, by decide +kernel⟩
    · exact ⟨⟨_, _, topS 8, Str.ofString "_law_constant", PySem.W.mg_of X G a5, fun_mk (st := topS 8) l5 c5 k5, sc__law_constant, fun us hl => (match us, hl with | [_], _ => rfl), cb__law_constant⟩, by decide +kernel⟩
    · exact ⟨⟨_, _, topS 9, Str.ofString "_law_fact", PySem.W.mg_of X G a6, fun_mk (st := topS 9) l6 c6 k6, sc__law_fact, fun us hl => (match us, hl with | [_], _ => rfl), cb__law_fact⟩, by decide +kernel⟩
    · exact ⟨⟨_, _, topS 10, Str.ofString "_law_constant_less", PySem.W.mg_of X G a7, fun_mk (st := topS 10) l7 c7 k7, sc__law_constant_less, fun us hl => (match us, hl with | [_, _], _ => rfl), cb__law_constant_less⟩, by decide +kernel⟩
    · exact ⟨⟨_, _, topS 11, Str.ofString "_law_fact_less", PySem.W.mg_of X G a8, fun_mk (st := topS 11) l8 c8 k8, sc__law_fact_less, fun us hl => (match us, hl with | [_, _], _ => rfl), cb__law_fact_less⟩, by decide +kernel⟩
    · exact ⟨⟨_, _, topS 12, Str.ofString "_law_places_told", PySem.W.mg_of X G a9, fun_mk (st := topS 12) l9 c9 k9, sc__law_places_told, fun us hl => (match us, hl with | [_, _], _ => rfl), cb__law_places_told⟩, by decide +kernel⟩
    · exact ⟨⟨_, _, topS 13, Str.ofString "law", PySem.W.mg_of X G a10, fun_mk (st := topS 13) l10 c10 k10, sc_law, fun us hl => (match us, hl with | [_], _ => rfl), cb_law⟩, by decide +kernel⟩
theorem find_law : TB.find? (fun fd => fd.nm == Str.ofString "law") = some f_law := by kernel_rfl
end DI
open PySem PySem.W PyProof.Rows
set_option maxHeartbeats 0 in
theorem PySem.Challenge.cw_reason_k02_facts_in_order_holds : PySem.Challenge.rw_reason_k02_facts_in_order.Holds := by
  w_on; o_law; k_head; (case hw => w_witness2)
  k_fill
  refine L2.walk_of (l := PySem.Challenge.rw_reason_k02_facts_in_order) (n := 63) (k := 2 * 16) (x := Str.ofString "_law_script") (CX := fun w => L2.CX (PySem.Challenge.rw_reason_k02_facts_in_order).prog w) (sp := fun w => DI.spL _) rfl (by decide) rfl ⟨rfl, by decide, by decide⟩ (fun w h Y => PySem.W.kIn_of Y) ?F (fun _ _ a ns hl _ hS => ⟨a, ns, rfl, hS, hl, fun _ => rfl⟩) (fun w H s e s' q => DI.cx_no q)
  case F =>
    intro w mg fa h KX G hmg
    refine DI.end_ok (T := DI.TB) (G := DI.GIv) (fd := DI.f_law) (k := 16) ?modok KX G hmg DI.find_law rfl DI.law_true
    refine' DI.mod_ok KX G ?a0 ?l0 ?c0 ?k0 ?a1 ?l1 ?c1 ?k1 ?a2 ?l2 ?c2 ?k2 ?a3 ?l3 ?c3 ?k3 ?a4 ?l4 ?c4 ?k4 ?a5 ?l5 ?c5 ?k5 ?a6 ?l6 ?c6 ?k6 ?a7 ?l7 ?c7 ?k7 ?a8 ?l8 ?c8 ?k8 ?a9 ?l9 ?c9 ?k9 ?a10 ?l10 ?c10 ?k10 ?z0 ?z1 ?z2 ?z3 ?z4 ?z5 ?z6 ?z7
    (case a0 => k_is); (case l0 => k_is); (case c0 => k_is); (case k0 => k_is); (case a1 => k_is); (case l1 => k_is); (case c1 => k_is); (case k1 => k_is); (case a2 => k_is); (case l2 => k_is); (case c2 => k_is); (case k2 => k_is); (case a3 => k_is); (case l3 => k_is); (case c3 => k_is); (case k3 => k_is); (case a4 => k_is); (case l4 => k_is); (case c4 => k_is); (case k4 => k_is); (case a5 => k_is); (case l5 => k_is); (case c5 => k_is); (case k5 => k_is); (case a6 => k_is); (case l6 => k_is); (case c6 => k_is); (case k6 => k_is); (case a7 => k_is); (case l7 => k_is); (case c7 => k_is); (case k7 => k_is); (case a8 => k_is); (case l8 => k_is); (case c8 => k_is); (case k8 => k_is); (case a9 => k_is); (case l9 => k_is); (case c9 => k_is); (case k9 => k_is); (case a10 => k_is); (case l10 => k_is); (case c10 => k_is); (case k10 => k_is); (case z0 => k_is); (case z1 => k_is); (case z2 => k_is); (case z3 => k_is); (case z4 => k_is); (case z5 => k_is); (case z6 => k_is); (case z7 => k_is)
