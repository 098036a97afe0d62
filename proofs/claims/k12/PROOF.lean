import PyProof.Rows.All
import HandS.ForMost
import HandS.IsInst
import HandS.Wide
import HandS.Deep
import HandS.Flow
import HandS.Exc
import HandS.TryOnly
import HandS.ExcOwn
import HandS.WordsExc
import KE.KDictKeyed
import KE.LtData
import HandS.SortKw
import KE.SortData
import KE.SortKeyHeap
import KE.DataFind
import KE.DataMinMax
import KE.DataAny
import KE.DataCmp
import HandS.TupAny
import HandS.Style
import KE.KEqNest
import HandS.Zip
import PyProof.AutoSeq1
import PySem.Challenge.RW_reason_k12_holds
set_option Elab.async false
set_option linter.all false
set_option maxRecDepth 100000
set_option maxHeartbeats 4000000
/-! data, and how it stands in the heap -/
namespace DI
open PySem PySem.Spec PyProof.Rows L2
abbrev D := PyData
abbrev WS := Addr → Prop
def KT (K : PySem.W.Frag) (a : Addr) (xs : List V) : Prop :=
  ∃ (o : Obj) (its : Array Value) (n : Nat), K.lookup a = some o ∧ o.cls = .type "tuple" ∧ o.data = .seq its n ∧ its.size ≤ sizeLine ∧ Vals xs its.toList
def KL (K : PySem.W.Frag) (a : Addr) (xs : List V) : Prop :=
  ∃ (o : Obj) (its : Array Value) (n : Nat), K.lookup a = some o ∧ o.cls = .type "list" ∧ o.dict = none ∧ o.data = .seq its n ∧ its.size ≤ sizeLine ∧ Vals xs its.toList
/-- a tuple, a list that may be read at a; it is not among the owned ones -/
def TupAt (K : PySem.W.Frag) (H : Hp) (W : WS) (a : Addr) (xs : List V) : Prop := (Rd H a (.tup xs) ∧ ¬ W a) ∨ KT K a xs
def LstAt (K : PySem.W.Frag) (H : Hp) (W : WS) (a : Addr) (xs : List V) : Prop := (Rd H a (.lst xs) ∧ ¬ W a) ∨ KL K a xs
theorem TupAt.sq {K : PySem.W.Frag} {H : Hp} {W : WS} {a : Addr} {xs : List V} (h : TupAt K H W a xs) : SqT K H a xs := h.elim (fun h => .inl h.1) .inr
theorem LstAt.sq {K : PySem.W.Frag} {H : Hp} {W : WS} {a : Addr} {xs : List V} (h : LstAt K H W a xs) : SqL K H a xs := h.elim (fun h => .inl h.1) .inr
mutual
def nkOf : D → NestedKey
  | .int i => .num i
  | .str x => .text x
  | .tuple ds => .tup (nksOf ds)
  | _ => .none
def nksOf : List D → List NestedKey
  | [] => []
  | d :: ds => nkOf d :: nksOf ds
end
def keyS : D → Option L2.Key
  | .int i => some (.inl i)
  | .str x => some (.inr x)
  | _ => none
mutual
def nkOk : D → Bool
  | .int _ => true
  | .str _ => true
  | .tuple ds => nkOks ds
  | _ => false
def nkOks : List D → Bool
  | [] => true
  | d :: ds => nkOk d && nkOks ds
end
def isKT : D → Bool
  | .tuple ds => nkOks ds && decide ((nkOf (.tuple ds)).depth ≤ 8)
  | _ => false
def kdS (kvs : List (D × D)) : Bool := kvs.all fun p => (keyS p.1).isSome
def kdT (kvs : List (D × D)) : Bool := kvs.all fun p => isKT p.1
def nks (kvs : List (D × D)) : List NestedKey := kvs.map fun p => nkOf p.1
def dOk (kvs : List (D × D)) : Bool := (kdS kvs || kdT kvs) && (decide (nks kvs).Nodup && decide (kvs.length ≤ 16777216))
mutual
def R (K : PySem.W.Frag × World) (H : Hp) (W : WS) : D → V → Prop
  | .none, v => v = .non
  | .bool b, v => v = .bl b
  | .int i, v => v = .int i
  | .str x, v => v = .str x
  | .tuple ds, v => ∃ a xs, v = .ref a ∧ TupAt K.1 H W a xs ∧ Rs K H W ds xs
  | .list ds, v => ∃ a xs, v = .ref a ∧ LstAt K.1 H W a xs ∧ Rs K H W ds xs
  | .dict kvs, v => ∃ a o es ep, v = .ref a ∧ H a = some (.ext fun h => h.get? a = some o) ∧ ¬ W a ∧ (a == sysModules) = false ∧ o.ExactDict ∧ o.data = .dict es ep ∧ Re K H W kvs es.toList ∧ dOk kvs = true
def Rs (K : PySem.W.Frag × World) (H : Hp) (W : WS) : List D → List V → Prop
  | [], xs => xs = []
  | d :: ds, xs => ∃ x r, xs = x :: r ∧ R K H W d x ∧ Rs K H W ds r
def Re (K : PySem.W.Frag × World) (H : Hp) (W : WS) : List (D × D) → List DictEntry → Prop
  | [], es => es = []
  | (k, d) :: kvs, es => ∃ e r x y, es = e :: r ∧ RelV x e.key ∧ R K H W k x ∧ e.hash = (nkOf k).hash K.2 ∧ RelV y e.val ∧ R K H W d y ∧ Re K H W kvs r
end
/-- all that is tracked and not owned stays as it is, and not owned; what is owned then was owned or is new -/
structure Stp (H : Hp) (W : WS) (H' : Hp) (W' : WS) : Prop where
  keep : ∀ a o, H a = some o → ¬ W a → H' a = some o ∧ ¬ W' a
  new : ∀ a, W' a → W a ∨ H a = none
theorem Stp.refl (H : Hp) (W : WS) : Stp H W H W := ⟨fun a o h n => ⟨h, n⟩, fun a h => .inl h⟩
theorem Stp.trans {H H1 H2 : Hp} {W W1 W2 : WS} (a : Stp H W H1 W1) (b : Stp H1 W1 H2 W2) : Stp H W H2 W2 := by
  refine ⟨fun x o h n => ?_, fun x h => ?_⟩
  · obtain ⟨h1, n1⟩ := a.keep x o h n
    exact b.keep x o h1 n1
  · rcases b.new x h with h1 | h1
    · exact a.new x h1
    · cases e : H x with
      | none => exact .inr rfl
      | some o =>
        by_cases hw : W x
        · exact .inl hw
        · obtain ⟨h2, _⟩ := a.keep x o e hw
          rw [h2] at h1; cases h1
theorem Stp.of_same {H H' : Hp} {W : WS} (h : Same H H') : Stp H W H' W := ⟨fun a o e n => ⟨h a o e, n⟩, fun a h => .inl h⟩
/-- fewer are owned -/
theorem Stp.less {H : Hp} {W W' : WS} (h : ∀ a, W' a → W a) : Stp H W H W' := ⟨fun a o e n => ⟨e, fun q => n (h a q)⟩, fun a q => .inl (h a q)⟩
theorem rd_stp {H H' : Hp} {W W' : WS} {a : Addr} {o : HO} (s : Stp H W H' W') (h : Rd H a o) (n : ¬ W a) : Rd H' a o ∧ ¬ W' a := by
  rcases h with h | ⟨u, h⟩
  · obtain ⟨h1, n1⟩ := s.keep _ _ h n
    exact ⟨.inl h1, n1⟩
  · obtain ⟨h1, n1⟩ := s.keep _ _ h n
    exact ⟨.inr ⟨u, h1⟩, n1⟩
section
variable {H H' : Hp} {W W' : WS}
section
variable {K : PySem.W.Frag}
theorem TupAt.stp {a : Addr} {xs : List V} (s : Stp H W H' W') (h : TupAt K H W a xs) : TupAt K H' W' a xs := h.elim (fun h => .inl (rd_stp s h.1 h.2)) .inr
theorem LstAt.stp {a : Addr} {xs : List V} (s : Stp H W H' W') (h : LstAt K H W a xs) : LstAt K H' W' a xs := h.elim (fun h => .inl (rd_stp s h.1 h.2)) .inr
end
variable {K : PySem.W.Frag × World}
mutual
theorem R.stp (s : Stp H W H' W') : ∀ (d : D) (v : V), R K H W d v → R K H' W' d v
  | .none, v, h => by simpa only [R] using h
  | .bool b, v, h => by simpa only [R] using h
  | .int i, v, h => by simpa only [R] using h
  | .str x, v, h => by simpa only [R] using h
  | .tuple ds, v, h => by
    simp only [R] at h ⊢
    obtain ⟨a, xs, e, t, r⟩ := h
    exact ⟨a, xs, e, t.stp s, Rs.stp s ds xs r⟩
  | .list ds, v, h => by
    simp only [R] at h ⊢
    obtain ⟨a, xs, e, t, r⟩ := h
    exact ⟨a, xs, e, t.stp s, Rs.stp s ds xs r⟩
  | .dict kvs, v, h => by
    simp only [R] at h ⊢
    obtain ⟨a, o, es, ep, e, h1, n, h2, h3, h4, r, hk⟩ := h
    obtain ⟨h1', n'⟩ := s.keep _ _ h1 n
    exact ⟨a, o, es, ep, e, h1', n', h2, h3, h4, Re.stp s kvs es.toList r, hk⟩
theorem Rs.stp (s : Stp H W H' W') : ∀ (ds : List D) (xs : List V), Rs K H W ds xs → Rs K H' W' ds xs
  | [], xs, h => by simpa only [Rs] using h
  | d :: ds, xs, h => by
    simp only [Rs] at h ⊢
    obtain ⟨x, r, e, h1, h2⟩ := h
    exact ⟨x, r, e, R.stp s d x h1, Rs.stp s ds r h2⟩
theorem Re.stp (s : Stp H W H' W') : ∀ (kvs : List (D × D)) (es : List DictEntry), Re K H W kvs es → Re K H' W' kvs es
  | [], es, h => by simpa only [Re] using h
  | (k, d) :: kvs, es, h => by
    simp only [Re] at h ⊢
    obtain ⟨e, r, x, y, h0, h1, h2, h3, h4, h5, h6⟩ := h
    exact ⟨e, r, x, y, h0, h1, R.stp s k x h2, h3, h4, R.stp s d y h5, Re.stp s kvs r h6⟩
end
theorem Rs.length : ∀ {ds : List D} {xs : List V}, Rs K H W ds xs → xs.length = ds.length
  | [], xs, h => by simp only [Rs] at h; subst h; rfl
  | d :: ds, xs, h => by
    simp only [Rs] at h
    obtain ⟨x, r, e, _, h2⟩ := h
    rw [e, List.length_cons, List.length_cons, Rs.length h2]
theorem Rs.get : ∀ {ds : List D} {xs : List V} {i : Nat} {d : D}, Rs K H W ds xs → ds[i]? = some d → ∃ x, xs[i]? = some x ∧ R K H W d x
  | [], xs, i, d, h, e => by simp at e
  | d :: ds, xs, 0, d', h, e => by
    simp only [Rs] at h
    obtain ⟨x, r, rfl, h1, h2⟩ := h
    simp at e; subst e
    exact ⟨x, rfl, h1⟩
  | d :: ds, xs, i + 1, d', h, e => by
    simp only [Rs] at h
    obtain ⟨x, r, rfl, h1, h2⟩ := h
    obtain ⟨y, e1, e2⟩ := Rs.get (i := i) h2 (by simpa using e)
    exact ⟨y, by simpa using e1, e2⟩
theorem Rs.append : ∀ {ds es : List D} {xs ys : List V}, Rs K H W ds xs → Rs K H W es ys → Rs K H W (ds ++ es) (xs ++ ys)
  | [], es, xs, ys, h, h' => by simp only [Rs] at h; subst h; exact h'
  | d :: ds, es, xs, ys, h, h' => by
    simp only [Rs] at h
    obtain ⟨x, r, rfl, h1, h2⟩ := h
    simp only [List.cons_append, Rs]
    exact ⟨x, _, rfl, h1, Rs.append h2 h'⟩
theorem Rs.one {d : D} {x : V} (h : R K H W d x) : Rs K H W [d] [x] := by simp only [Rs]; exact ⟨x, [], rfl, h, rfl⟩
theorem Rs.take : ∀ (n : Nat) {ds : List D} {xs : List V}, Rs K H W ds xs → Rs K H W (ds.take n) (xs.take n)
  | 0, ds, xs, h => by simp [Rs]
  | n + 1, [], xs, h => by simp only [Rs] at h; subst h; simp [Rs]
  | n + 1, d :: ds, xs, h => by
    simp only [Rs] at h
    obtain ⟨x, r, rfl, h1, h2⟩ := h
    simp only [List.take_succ_cons, Rs]
    exact ⟨x, _, rfl, h1, Rs.take n h2⟩
theorem Rs.drop : ∀ (n : Nat) {ds : List D} {xs : List V}, Rs K H W ds xs → Rs K H W (ds.drop n) (xs.drop n)
  | 0, ds, xs, h => h
  | n + 1, [], xs, h => by simp only [Rs] at h; subst h; simp [Rs]
  | n + 1, d :: ds, xs, h => by
    simp only [Rs] at h
    obtain ⟨x, r, rfl, h1, h2⟩ := h
    simp only [List.drop_succ_cons]
    exact Rs.drop n h2
theorem Rs.set : ∀ (n : Nat) {ds : List D} {xs : List V} {d : D} {x : V}, Rs K H W ds xs → R K H W d x → Rs K H W (ds.set n d) (xs.set n x)
  | _, [], xs, d, x, h, h' => by simp only [Rs] at h; subst h; simp [Rs]
  | 0, d :: ds, xs, _, _, h, h' => by
    simp only [Rs] at h
    obtain ⟨x, r, rfl, h1, h2⟩ := h
    simp only [List.set_cons_zero, Rs]
    exact ⟨_, _, rfl, h', h2⟩
  | n + 1, d :: ds, xs, _, _, h, h' => by
    simp only [Rs] at h
    obtain ⟨x, r, rfl, h1, h2⟩ := h
    simp only [List.set_cons_succ, Rs]
    exact ⟨_, _, rfl, h1, Rs.set n h2 h'⟩
theorem Rs.eraseIdx : ∀ (n : Nat) {ds : List D} {xs : List V}, Rs K H W ds xs → Rs K H W (ds.eraseIdx n) (xs.eraseIdx n)
  | _, [], xs, h => by simp only [Rs] at h; subst h; simp [Rs]
  | 0, d :: ds, xs, h => by
    simp only [Rs] at h
    obtain ⟨x, r, rfl, h1, h2⟩ := h
    simpa only [List.eraseIdx_cons_zero] using h2
  | n + 1, d :: ds, xs, h => by
    simp only [Rs] at h
    obtain ⟨x, r, rfl, h1, h2⟩ := h
    simp only [List.eraseIdx_cons_succ, Rs]
    exact ⟨_, _, rfl, h1, Rs.eraseIdx n h2⟩
theorem Rs.reverse {ds : List D} {xs : List V} (h : Rs K H W ds xs) : Rs K H W ds.reverse xs.reverse := by
  induction ds generalizing xs with
  | nil => simp only [Rs] at h; subst h; simp [Rs]
  | cons d ds ih =>
    simp only [Rs] at h
    obtain ⟨x, r, rfl, h1, h2⟩ := h
    rw [List.reverse_cons, List.reverse_cons]
    exact (ih h2).append (Rs.one h1)
theorem Rs.ints : ∀ {ns : List Int}, Rs K H W (ns.map PyData.int) (ns.map V.int)
  | [] => by simp [Rs]
  | n :: ns => by simp only [List.map_cons, Rs, R]; exact ⟨_, _, rfl, rfl, Rs.ints⟩
theorem Rs.of_ints : ∀ {ns : List Int} {xs : List V}, Rs K H W (ns.map PyData.int) xs → xs = ns.map V.int
  | [], xs, h => by simpa [Rs] using h
  | n :: ns, xs, h => by
    simp only [List.map_cons, Rs, R] at h ⊢
    obtain ⟨x, r, rfl, rfl, h2⟩ := h
    rw [Rs.of_ints h2]
theorem Rs.of_bls : ∀ {ns : List Bool} {xs : List V}, Rs K H W (ns.map PyData.bool) xs → xs = ns.map V.bl
  | [], xs, h => by simpa [Rs] using h
  | n :: ns, xs, h => by
    simp only [List.map_cons, Rs, R] at h ⊢
    obtain ⟨x, r, rfl, rfl, h2⟩ := h
    rw [Rs.of_bls h2]
/-- what is no list, dict, tuple -/
def flat : D → Bool
  | .none | .bool _ | .int _ | .str _ => true
  | _ => false
theorem R.flat {d : D} {v : V} (f : flat d = true) (h : R K H W d v) : R K H' W' d v := by
  cases d <;> simp [DI.flat] at f <;> simpa [R] using h
end
end DI
set_option Elab.async false
set_option linter.all false
set_option maxRecDepth 100000
set_option maxHeartbeats 4000000
/-! the small language: resolved syntax, answers, evaluation -/
namespace DI
open PySem PySem.Spec PyProof.Rows L2
inductive Out (α : Type) where
  | ok (a : α) | exc (c : Str) (p : List D) | bad
def Out.bind {α β : Type} (o : Out α) (f : α → Out β) : Out β := match o with
  | .ok a => f a
  | .exc c p => .exc c p
  | .bad => .bad
instance : Monad Out where
  pure := .ok
  bind := Out.bind
@[simp] theorem bind_ok {α β : Type} (a : α) (f : α → Out β) : Out.bind (.ok a) f = f a := rfl
@[simp] theorem bind_exc {α β : Type} (c : Str) (p : List D) (f : α → Out β) : Out.bind (.exc c p : Out α) f = .exc c p := rfl
@[simp] theorem bind_bad {α β : Type} (f : α → Out β) : Out.bind (.bad : Out α) f = .bad := rfl
/-- a slot: nothing; shared data; owned data; owned by the caller, handed in; to be read alone (a parameter); locked while it is walked; an owned dict of owned lists or dicts; one of these, by its key -/
inductive Sl where
  | un | sh (d : D) | ow (d : D) | io (d : D) | pk (d : D) | lk (d : D) | od (kvs : List (D × D)) | bo (i : Nat) (k : D)
abbrev Rho := List Sl
mutual
inductive CE where
  | cst (d : D) | gl (d : D) | var (i : Nat)
  | tup (es : CL) | lst (es : CL) | dic0
  | bin (op : Operator) (a b : CE) | neg (a : CE)
  | cmp (op : CmpOp) (a b : CE) | chn (o1 o2 : CmpOp) (a b c : CE)
  | and_ (a b : CE) | or_ (a b : CE) | not_ (a : CE) | ife (c a b : CE)
  | call (f : Str) (fr : Bool) (es : CL) | callF (f : Str) (fr : Bool) (e : CE) (es : CL) | srt (f : Str) (e : CE) | bi (f : String) (es : CL) | isi (a : CE) (t : String)
  | rev (a : CE) | joi (a b : CE) | mget (a : CE) (es : CL) | ix (a b : CE) | slc (a : CE) (lo hi : CO)
  | lc (own : List Nat) (tg : List Nat) (isT : Bool) (it : CI) (ifs : CO) (elt : CE)
  | pop0 (i : Nat) | pop1 (i : Nat) (e : CE) | setd (i : Nat) (a b : CE)
inductive CO where
  | no | so (e : CE)
inductive CL where
  | nil | cons (e : CE) (es : CL) | io (i : Nat) (es : CL) | pk (i : Nat) (es : CL)
inductive CI where
  | val (e : CE) | rng1 (a : CE) | rng2 (a b : CE) | zip (a b : CE) | enm (a : CE)
end
/-- an answer and the slots behind it -/
inductive EO (α : Type) where
  | ok (a : α) (ρ : Rho) | exc (c : Str) (p : List D) (ρ : Rho) | bad
def EO.bind {α β : Type} (o : EO α) (f : α → Rho → EO β) : EO β := match o with
  | .ok a ρ => f a ρ
  | .exc c p ρ => .exc c p ρ
  | .bad => .bad
@[simp] theorem ebind_ok {α β : Type} (a : α) (ρ : Rho) (f : α → Rho → EO β) : EO.bind (.ok a ρ) f = f a ρ := rfl
@[simp] theorem ebind_exc {α β : Type} (c : Str) (p : List D) (ρ : Rho) (f : α → Rho → EO β) : EO.bind (.exc c p ρ : EO α) f = .exc c p ρ := rfl
@[simp] theorem ebind_bad {α β : Type} (f : α → Rho → EO β) : EO.bind (.bad : EO α) f = .bad := rfl
/-! ### operations on data -/
def szOk (n : Nat) : Bool := decide (n ≤ 16777216)
def mulOk (i j : Int) : Bool := (decide (-(2 ^ 64) < i) && decide (i < 2 ^ 64)) || (decide (-(2 ^ 64) < j) && decide (j < 2 ^ 64)) || decide (i.natAbs.log2 + j.natAbs.log2 < 1000000)
def guardP {α : Type} (b : Bool) (o : Option α) : Option α := if b = true then o else none
def binD : Operator → D → D → Option D
  | .Add, .int i, .int j => some (.int (i + j))
  | .Add, .str x, .str y => guardP (szOk (x.length + y.length)) (some (.str (x ++ y)))
  | .Add, .list xs, .list ys => guardP (szOk (xs.length + ys.length)) (some (.list (xs ++ ys)))
  | .Add, .tuple xs, .tuple ys => guardP (szOk (xs.length + ys.length)) (some (.tuple (xs ++ ys)))
  | .Sub, .int i, .int j => some (.int (i - j))
  | .Mult, .int i, .int j => guardP (mulOk i j) (some (.int (i * j)))
  | .FloorDiv, .int i, .int j => guardP (decide (0 < j) && decide (j.natAbs.log2 < 9000)) (some (.int (i / j)))
  | .Mod, .int i, .int j => guardP (decide (0 < j)) (some (.int (i % j)))
  | .Pow, .int i, .int j => guardP (decide (0 ≤ j) && decide (j ≤ 1000000) && decide (i.natAbs < 2 ^ 64)) (some (.int (i ^ j.toNat)))
  | .LShift, .int i, .int j => guardP (decide (0 ≤ j) && decide (j ≤ 1000000) && decide (i.natAbs < 2 ^ 64)) (some (.int (i * 2 ^ j.toNat)))
  | .RShift, .int i, .int j => guardP (decide (0 ≤ j)) (some (.int (i / 2 ^ j.toNat)))
  | .BitAnd, .int i, .int j => some (.int (Builtin.bitAnd i j))
  | .BitOr, .int i, .int j => some (.int (Builtin.bitOr i j))
  | _, _, _ => none
def shp (d : D) : Bool := d.plain && decide (d.depth ≤ 60)
def getN (kvs : List (D × D)) (k : NestedKey) : Option D := (kvs.find? fun p => decide (nkOf p.1 = k)).map (·.2)
def putN (kvs : List (D × D)) (k : D) (v : D) : List (D × D) := if (kvs.any fun p => decide (nkOf p.1 = nkOf k)) = true then kvs.map fun p => if nkOf p.1 = nkOf k then (p.1, v) else p else kvs ++ [(k, v)]
def dropN (kvs : List (D × D)) (k : D) : List (D × D) := kvs.filter fun p => decide (nkOf p.1 ≠ nkOf k)
/-- the key is of the kind of the dict's keys -/
def keyFit (kvs : List (D × D)) (x : D) : Bool := ((keyS x).isSome && kdS kvs) || (isKT x && kdT kvs)
def inD (x : D) : D → Option Bool
  | .dict kvs => guardP (keyFit kvs x) (some (getN kvs (nkOf x)).isSome)
  | .list ds => guardP (shp x && shp (.list ds)) (some (ds.any fun z => PyData.eqv z x))
  | .tuple ds => guardP (shp x && shp (.tuple ds)) (some (ds.any fun z => PyData.eqv z x))
  | .str y => match x with
    | .str z => some (!(Builtin.Str.occurrences y z 0 y.length 1).isEmpty)
    | _ => none
  | _ => none
def isNonD : D → Bool
  | .none => true
  | _ => false
def isD : D → D → Option Bool
  | x, .none => some (isNonD x)
  | .bool a, .bool b => some (a == b)
  | _, _ => none
def ltD : D → D → Option Bool
  | .int i, .int j => some (decide (i < j))
  | .str x, .str y => some (decide (x.cps.toList < y.cps.toList))
  | .tuple xs, .tuple ys => guardP (shp (.tuple xs) && (shp (.tuple ys) && PySem.W.alike (.tuple xs) (.tuple ys))) (some (PySem.W.dataLt (.tuple xs) (.tuple ys)))
  | .list xs, .list ys => guardP (shp (.list xs) && (shp (.list ys) && PySem.W.alike (.list xs) (.list ys))) (some (PySem.W.dataLt (.list xs) (.list ys)))
  | _, _ => none
/-- two dicts: as many entries, each key's values alike -/
def eqDc (a b : List (D × D)) : Bool := (a.length == b.length) && a.all fun p => match getN b (nkOf p.1) with
  | some v => PyData.eqv p.2 v
  | none => false
def allO : List (Option Bool) → Option Bool
  | [] => some true
  | some b :: r => (allO r).map (b && ·)
  | none :: _ => none
/-- nested data with dicts within, at most so deep -/
def eqN : Nat → D → D → Option Bool
  | 0, x, y => guardP (shp x && shp y) (some (PyData.eqv x y))
  | n + 1, x, y => if (shp x && shp y) = true then some (PyData.eqv x y) else match x, y with
    | .list xs, .list ys => if xs.length = ys.length then allO (List.zipWith (eqN n) xs ys) else some false
    | .dict a, .dict b => if (kdS a && kdS b) = true then (allO (a.map fun p => match getN b (nkOf p.1) with | some v => eqN n p.2 v | none => some false)).map fun r => (a.length == b.length) && r else none
    | _, _ => none
def eqD : D → D → Option Bool
  | .list xs, .list ys => if (shp (.list xs) && shp (.list ys)) = true then some (PyData.eqv (.list xs) (.list ys)) else if xs.length = ys.length then allO (List.zipWith (eqN 6) xs ys) else some false
  | .dict a, .dict b => guardP ((kdS a && kdS b) && ((a.all fun p => flat p.2) && (b.all fun p => flat p.2))) (some (eqDc a b))
  | x, y => guardP (shp x && shp y) (some (PyData.eqv x y))
def cmpD : CmpOp → D → D → Option Bool
  | .Eq, x, y => eqD x y
  | .NotEq, x, y => (eqD x y).map (!·)
  | .Lt, x, y => ltD x y
  | .Gt, .int i, .int j => some (decide (j < i))
  | .LtE, .int i, .int j => some (decide (i ≤ j))
  | .GtE, .int i, .int j => some (decide (j ≤ i))
  | .Gt, .str x, .str y => some (decide (y.cps.toList < x.cps.toList))
  | .LtE, .str x, .str y => some (!decide (y.cps.toList < x.cps.toList))
  | .GtE, .str x, .str y => some (!decide (x.cps.toList < y.cps.toList))
  | .In, x, y => inD x y
  | .NotIn, x, y => (inD x y).map (!·)
  | .Is, x, y => isD x y
  | .IsNot, x, y => (isD x y).map (!·)
  | _, _, _ => none
def ixD : D → D → Option D
  | .list xs, .int i => atI xs i
  | .tuple xs, .int i => atI xs i
  | .dict kvs, k => guardP (keyFit kvs k) (getN kvs (nkOf k))
  | .str z, .int i => guardP (szOk z.length) ((atI z.cps.toList i).map fun c => .str ⟨#[c]⟩)
  | _, _ => none
def ob {α : Type} : Option α → Out α
  | some a => .ok a
  | none => .bad
def cutD (xs : List D) (lo hi : Option Int) : List D := (xs.drop (HT.sIx xs.length 0 lo)).take (HT.sIx xs.length xs.length hi - HT.sIx xs.length 0 lo)
def slcD : D → Option Int → Option Int → Option D
  | .list xs, lo, hi => some (.list (cutD xs lo hi))
  | .tuple xs, lo, hi => some (.tuple (cutD xs lo hi))
  | _, _, _ => none
def asB : D → Option Bool
  | .bool b => some b
  | _ => none
def asI : D → Option Int
  | .int i => some i
  | _ => none
def boolsOf : List D → Option (List Bool)
  | [] => some []
  | .bool b :: r => (boolsOf r).map (b :: ·)
  | _ :: _ => none
def intsOf : List D → Option (List Int)
  | [] => some []
  | .int b :: r => (intsOf r).map (b :: ·)
  | _ :: _ => none
/-- they can be sorted by these -/
def tupNE : D → Bool
  | .tuple (_ :: _) => true
  | _ => false
def notNT : D → Bool
  | .none => false
  | .tuple _ => false
  | _ => true
def srtOk (ks : List D) : Bool := (ks.all shp && (ks.all fun x => ks.all fun y => PySem.W.alike x y)) && ((ks.all tupNE || ks.all notNT) && szOk ks.length)
/-- sorted by keys -/
def srtK (xs ks : List D) : List D := ((xs.zip ks).mergeSort (PySem.W.dataLe false Prod.snd)).map Prod.fst
def asSq : D → Option (List D)
  | .list ds => some ds
  | _ => none
def asDc : D → Option (List (D × D))
  | .dict kvs => some kvs
  | _ => none
def asS : D → Option Str
  | .str s => some s
  | _ => none
def strsOf : List D → Option (List Str)
  | [] => some []
  | .str b :: r => (strsOf r).map (b :: ·)
  | _ :: _ => none
def joinS (s : Str) (o : Option (List Str)) : Option D := o.bind fun ys => guardP (decide ((ys.map (·.length)).sum + ys.length * s.length ≤ 16777216)) (some (.str (Txt.join s ys)))
/-- s.join(xs) -/
def joiD (s : Str) : D → Option D
  | .list ds => joinS s (strsOf ds)
  | .tuple ds => joinS s (strsOf ds)
  | _ => none
/-- d.get(k), d.get(k, x) -/
def getM (kvs : List (D × D)) : List D → Option D
  | [k] => guardP (keyFit kvs k) (some ((getN kvs (nkOf k)).getD .none))
  | [k, x] => guardP (keyFit kvs k) (some ((getN kvs (nkOf k)).getD x))
  | _ => none
/-- built-in functions -/
def biD : String → List D → Option D
  | "len", [.list xs] => some (.int xs.length)
  | "len", [.tuple xs] => some (.int xs.length)
  | "len", [.str x] => guardP (szOk x.length) (some (.int x.length))
  | "list", [.list xs] => some (.list xs)
  | "list", [.tuple xs] => some (.list xs)
  | "dict", [.dict kvs] => guardP (kdS kvs) (some (.dict kvs))
  | "tuple", [.list xs] => some (.tuple xs)
  | "tuple", [.tuple xs] => some (.tuple xs)
  | "int", [.int i] => some (.int i)
  | "int", [.bool b] => some (.int (if b then 1 else 0))
  | "all", [.list xs] => (boolsOf xs).map fun bs => .bool (bs.all id)
  | "any", [.list xs] => (boolsOf xs).map fun bs => .bool (bs.any id)
  | "sorted", [.list xs] => guardP (srtOk xs) (some (.list (srtK xs xs)))
  | "sum", [.list xs] => (intsOf xs).map fun ns => .int ns.sum
  | "min", [.int i, .int j] => some (.int (if j < i then j else i))
  | "max", [.int i, .int j] => some (.int (if j > i then j else i))
  | _, _ => none
def tyD : D → String
  | .none => "NoneType"
  | .bool _ => "bool"
  | .int _ => "int"
  | .str _ => "str"
  | .list _ => "list"
  | .tuple _ => "tuple"
  | .dict _ => "dict"
/-- isinstance of a built-in type -/
def isiD (d : D) (t : String) : Option D :=
  if t = "str" ∨ t = "int" ∨ t = "bool" ∨ t = "tuple" ∨ t = "list" ∨ t = "dict" then some (.bool (decide (tyD d = t) || (decide (tyD d = "bool") && decide (t = "int")))) else none
/-- what is walked -/
def itemsD : D → Option (List D)
  | .list xs => some xs
  | .tuple xs => some xs
  | .str x => some (x.cps.toList.map fun c => .str ⟨#[c]⟩)
  | .dict kvs => some (kvs.map Prod.fst)
  | _ => none
def rngD (i j : Int) : Option (List D) := guardP (decide (-(2 ^ 62) ≤ i) && decide (i < 2 ^ 62) && decide (-(2 ^ 62) ≤ j) && decide (j < 2 ^ 62)) (some ((List.range (j - i).toNat).map fun (k : Nat) => .int (i + k)))
def zipD : D → D → Option (List D)
  | .list xs, .list ys => some (List.zipWith (fun x y => .tuple [x, y]) xs ys)
  | .tuple xs, .tuple ys => some (List.zipWith (fun x y => .tuple [x, y]) xs ys)
  | _, _ => none
def enmD : D → Option (List D)
  | .list xs => some ((List.range xs.length).zipWith (fun (k : Nat) x => .tuple [.int k, x]) xs)
  | _ => none
/-! ### slots -/
/-- the lists, dicts within are frozen -/
def unbo (i : Nat) (kvs : List (D × D)) (ρ : Rho) : Rho := ρ.map fun sl => match sl with
  | .bo j k => if j = i then .sh ((getN kvs (nkOf k)).getD .none) else .bo j k
  | sl => sl
def killbo (i : Nat) (ρ : Rho) : Rho := ρ.map fun sl => match sl with
  | .bo j k => if j = i then .un else .bo j k
  | sl => sl
def thaw (i : Nat) (ρ : Rho) : Rho := match ρ[i]? with
  | some (.od kvs) => (unbo i kvs ρ).set i (.ow (.dict kvs))
  | _ => ρ
def prep (i : Nat) (ρ : Rho) : Rho := match ρ[i]? with
  | some (.od _) => thaw i ρ
  | some (.bo j _) => thaw j ρ
  | _ => ρ
def frz1 (i : Nat) (ρ : Rho) : Rho := match ρ[i]? with
  | some (.ow d) => ρ.set i (.sh d)
  | _ => ρ
def isBox : D → Bool
  | .list _ | .dict _ => true
  | _ => false
def look0 (pk : Bool) (i : Nat) (ρ : Rho) : EO D := match ρ[i]? with
  | some (.sh d) => .ok d ρ
  | some (.ow d) => if pk = true then .ok d ρ else .ok d (ρ.set i (.sh d))
  | some (.io d) => if pk = true then .ok d ρ else .bad
  | some (.lk d) => if pk = true then .ok d ρ else .bad
  | some (.pk d) => if (pk || !isBox d) = true then .ok d ρ else .bad
  | _ => .bad
def look (pk : Bool) (i : Nat) (ρ : Rho) : EO D := look0 pk i (prep i ρ)
/-- a slot given something else -/
def setS (i : Nat) (sl : Sl) (ρ : Rho) : Option Rho := match ρ[i]? with
  | some (.io _) => none
  | some (.pk _) => none
  | some (.lk _) => none
  | some (.od _) => some ((killbo i ρ).set i sl)
  | _ => some (ρ.set i sl)
/-- a target given what is walked -/
def setAll : List Nat → List D → Rho → Option Rho
  | i :: is, d :: ds, ρ => (setS i (.sh d) ρ).bind (setAll is ds)
  | _, _, ρ => some ρ
def setTg (tg : List Nat) (isT : Bool) (d : D) (ρ : Rho) : Option Rho :=
  if isT = true then match d with
    | .tuple ds => if ds.length = tg.length then setAll tg ds ρ else none
    | _ => none
  else match tg with
    | [i] => setS i (.sh d) ρ
    | _ => none
/-- slots of a comprehension's own names -/
def wipeR : Rho → List Nat → Rho
  | ρ, [] => ρ
  | ρ, i :: is => (wipeR ρ is).set i .un
def backR (ρ0 : Rho) : Rho → List Nat → Rho
  | ρ, [] => ρ
  | ρ, i :: is => match ρ0[i]? with
    | some sl => (backR ρ0 ρ is).set i sl
    | none => backR ρ0 ρ is
/-- nothing that is owned -/
def plainS : Sl → Bool
  | .un => true
  | .sh _ => true
  | _ => false
def notOw (ρ : Rho) (i : Nat) : Bool := match ρ[i]? with | some sl => plainS sl | none => true
def mapD (f : List D → Out D) : List D → Out (List D)
  | [] => .ok []
  | d :: ds => match f [d] with
    | .ok x => (mapD f ds).bind fun r => .ok (x :: r)
    | _ => .bad
def lcLoop (f : D → Rho → EO (Option D)) : List D → Rho → EO (List D)
  | [], ρ => .ok [] ρ
  | d :: ds, ρ => match f d ρ with
    | .ok (some x) ρ1 => (lcLoop f ds ρ1).bind fun r ρ2 => .ok (x :: r) ρ2
    | .ok none ρ1 => lcLoop f ds ρ1
    | _ => .bad
/-- a list that is owned -/
def owL (sl : Option Sl) : Option (List D) := match sl with
  | some (.ow (.list ds)) => some ds
  | some (.io (.list ds)) => some ds
  | _ => none
def owD (sl : Option Sl) : Option (List (D × D)) := match sl with
  | some (.ow (.dict kvs)) => some kvs
  | some (.io (.dict kvs)) => some kvs
  | _ => none
/-- the same slot with other data -/
def withD (sl : Option Sl) (d : D) : Sl := match sl with
  | some (.io _) => .io d
  | _ => .ow d
def popV (i : Nat) (j : Int) (ρ : Rho) : EO D := match owL ρ[i]? with
  | some ds => (match ixN ds.length j with
    | some n => (match ds[n]? with
      | some d => .ok d (ρ.set i (withD ρ[i]? (.list (ds.eraseIdx n))))
      | none => .bad)
    | none => .bad)
  | none => .bad
/-- d.setdefault(k, v) -/
def setdV (i : Nat) (k v : D) (ρ : Rho) : EO D := match owD ρ[i]? with
  | some kvs => if keyFit kvs k = true then (match getN kvs (nkOf k) with
    | some x => .ok x ρ
    | none => if dOk (putN kvs k v) = true then .ok v (ρ.set i (withD ρ[i]? (.dict (putN kvs k v)))) else .bad) else .bad
  | none => .bad
/-- what a call tells: the answer, and what the handed ones are then (by their places; for a function that takes none, nothing) -/
inductive CR where
  | ok (d : D) (os : List D) | exc (c : Str) (p : List D) (os : List D) | bad
/-- an argument: a value; a slot's list or dict, handed over; a slot's, to be read -/
inductive AK where
  | a | s (i : Nat) | p (i : Nat)
  deriving DecidableEq
def ioOf : CL → List AK
  | .nil => []
  | .cons _ es => .a :: ioOf es
  | .io i es => .s i :: ioOf es
  | .pk i es => .p i :: ioOf es
def slotsK : List AK → List Nat
  | [] => []
  | .s i :: is => i :: slotsK is
  | _ :: is => slotsK is
def slotD (sl : Option Sl) : Option D := match sl with
  | some (.ow d) => some d
  | some (.io d) => some d
  | _ => none
def slotP (sl : Option Sl) : Option D := match sl with
  | some (.sh d) => some d
  | some (.ow d) => some d
  | some (.io d) => some d
  | some (.pk d) => some d
  | some (.lk d) => some d
  | _ => none
def fillIo (ρ : Rho) : List AK → List D → Option (List D)
  | [], [] => some []
  | .s i :: is, _ :: ds => (slotD ρ[i]?).bind fun d => (fillIo ρ is ds).map (d :: ·)
  | .p i :: is, _ :: ds => (slotP ρ[i]?).bind fun d => (fillIo ρ is ds).map (d :: ·)
  | .a :: is, d :: ds => (fillIo ρ is ds).map (d :: ·)
  | _, _ => none
def pkOff (ks : List Nat) : List AK → Bool
  | [] => true
  | .p i :: is => !ks.contains i && pkOff ks is
  | _ :: is => pkOff ks is
def putIo : List AK → List D → Rho → Rho
  | .s i :: is, d :: ds, ρ => putIo is ds (ρ.set i (withD ρ[i]? d))
  | _ :: is, _ :: ds, ρ => putIo is ds ρ
  | _, _, ρ => ρ
def callV (f : Str) (cf : Str → List D → CR) (is : List AK) (ds : List D) (ρ : Rho) : EO D := if (decide (slotsK is).Nodup && pkOff (slotsK is) is) = true then (match fillIo ρ is ds with
  | some es => (match cf f es with
    | .ok d os => .ok d (putIo is os ρ)
    | .exc c p os => .exc c p (putIo is os ρ)
    | .bad => .bad)
  | none => .bad) else .bad
/-- a call whose first argument is new, and handed over -/
def callVF (f : Str) (cf : Str → List D → CR) (is : List AK) (x : D) (ds : List D) (ρ : Rho) : EO D := if (decide (slotsK is).Nodup && pkOff (slotsK is) is) = true then (match fillIo ρ is ds with
  | some es => (match cf f (x :: es) with
    | .ok d os => .ok d (putIo is os.tail ρ)
    | .exc c p os => .exc c p (putIo is os.tail ρ)
    | .bad => .bad)
  | none => .bad) else .bad
/-! nothing is changed by it -/
mutual
def pureE : CE → Bool
  | .cst _ => true
  | .gl _ => true
  | .var _ => true
  | .tup es => pureL es
  | .lst es => pureL es
  | .dic0 => true
  | .bin _ a b => pureE a && pureE b
  | .neg a => pureE a
  | .cmp _ a b => pureE a && pureE b
  | .chn _ _ a b c => pureE a && (pureE b && pureE c)
  | .and_ a b => pureE a && pureE b
  | .or_ a b => pureE a && pureE b
  | .not_ a => pureE a
  | .ife c a b => pureE c && (pureE a && pureE b)
  | .call _ _ es => pureL es
  | .callF _ _ _ _ => false
  | .srt _ e => pureE e
  | .bi _ es => pureL es
  | .isi a _ => pureE a
  | .rev a => pureE a
  | .joi a b => pureE a && pureE b
  | .mget a es => pureE a && pureL es
  | .ix a b => pureE a && pureE b
  | .slc a lo hi => pureE a && (pureO lo && pureO hi)
  | .lc _ _ _ it ifs elt => pureI it && (pureO ifs && pureE elt)
  | .pop0 _ => false
  | .pop1 _ _ => false
  | .setd _ _ _ => false
def pureO : CO → Bool
  | .no => true
  | .so e => pureE e
def pureL : CL → Bool
  | .nil => true
  | .cons e es => pureE e && pureL es
  | .io _ _ => false
  | .pk _ es => pureL es
def pureI : CI → Bool
  | .val e => pureE e
  | .rng1 a => pureE a
  | .rng2 a b => pureE a && pureE b
  | .zip a b => pureE a && pureE b
  | .enm a => pureE a
end
def eob {α : Type} (o : Option α) (ρ : Rho) : EO α := match o with
  | some a => .ok a ρ
  | none => .bad
/-- a list, a dict that comes of it is new -/
def freshE : CE → Bool
  | .lst _ | .dic0 | .bin _ _ _ | .slc _ _ _ | .lc _ _ _ _ _ _ | .bi _ _ | .srt _ _ | .rev _ => true
  | .call _ fr _ => fr
  | .callF _ fr _ _ => fr
  | _ => false
/-! ### evaluation -/
section
variable (cf : Str → List D → CR)
def cf1 (f : Str) (ds : List D) : Out D := match cf f ds with
  | .ok d [] => .ok d
  | _ => .bad
mutual
def evalE : Bool → CE → Rho → EO D
  | _, .cst d, ρ => .ok d ρ
  | _, .gl d, ρ => .ok d ρ
  | pk, .var i, ρ => look pk i ρ
  | _, .tup es, ρ => (evalL es ρ).bind fun ds ρ => eob (guardP (szOk ds.length) (some (.tuple ds))) ρ
  | _, .lst es, ρ => (evalL es ρ).bind fun ds ρ => eob (guardP (szOk ds.length) (some (.list ds))) ρ
  | _, .dic0, ρ => .ok (.dict []) ρ
  | _, .bin op a b, ρ => (evalE (pureE b) a ρ).bind fun x ρ => (evalE true b ρ).bind fun y ρ => eob (binD op x y) ρ
  | _, .neg a, ρ => (evalE true a ρ).bind fun x ρ => (eob (asI x) ρ).bind fun i ρ => .ok (.int (-i)) ρ
  | _, .cmp op a b, ρ => (evalE (pureE b) a ρ).bind fun x ρ => (evalE true b ρ).bind fun y ρ => (eob (cmpD op x y) ρ).bind fun c ρ => .ok (.bool c) ρ
  | _, .chn o1 o2 a b c, ρ => (evalE (pureE b) a ρ).bind fun x ρ => (evalE (pureE c) b ρ).bind fun y ρ => (eob (cmpD o1 x y) ρ).bind fun k ρ => if k = true then (evalE true c ρ).bind fun z ρ => (eob (cmpD o2 y z) ρ).bind fun c ρ => .ok (.bool c) ρ else .ok (.bool false) ρ
  | _, .and_ a b, ρ => (evalE false a ρ).bind fun x ρ => (eob (asB x) ρ).bind fun k ρ => if k = true then evalE false b ρ else .ok (.bool false) ρ
  | _, .or_ a b, ρ => (evalE false a ρ).bind fun x ρ => (eob (asB x) ρ).bind fun k ρ => if k = true then .ok (.bool true) ρ else evalE false b ρ
  | _, .not_ a, ρ => (evalE false a ρ).bind fun x ρ => (eob (asB x) ρ).bind fun k ρ => .ok (.bool (!k)) ρ
  | _, .ife c a b, ρ => (evalE false c ρ).bind fun x ρ => (eob (asB x) ρ).bind fun k ρ => if k = true then evalE false a ρ else evalE false b ρ
  | _, .call f _ es, ρ => (evalL es ρ).bind fun ds ρ => callV f cf (ioOf es) ds ρ
  | _, .callF f _ e es, ρ => (evalE false e ρ).bind fun x ρ => if (freshE e && isBox x) = true then (evalL es ρ).bind fun ds ρ => callVF f cf (ioOf es) x ds ρ else .bad
  | _, .srt f e, ρ => (evalE true e ρ).bind fun x ρ => (eob (asSq x) ρ).bind fun xs ρ => match mapD (cf1 cf f) xs with
    | .ok ks => eob (guardP (srtOk ks) (some (.list (srtK xs ks)))) ρ
    | _ => .bad
  | _, .bi f es, ρ => (evalPL es ρ).bind fun ds ρ => eob (biD f ds) ρ
  | _, .isi a t, ρ => (evalE true a ρ).bind fun x ρ => eob (isiD x t) ρ
  | _, .rev a, ρ => (evalE true a ρ).bind fun x ρ => (eob (asSq x) ρ).bind fun xs ρ => .ok (.list xs.reverse) ρ
  | _, .joi a b, ρ => (evalE true a ρ).bind fun x ρ => (eob (asS x) ρ).bind fun s ρ => (evalE true b ρ).bind fun y ρ => eob (joiD s y) ρ
  | _, .mget a es, ρ => (evalE (pureL es) a ρ).bind fun x ρ => (eob (asDc x) ρ).bind fun kvs ρ => (evalL es ρ).bind fun ds ρ => eob (getM kvs ds) ρ
  | _, .ix a b, ρ => (evalE (pureE b) a ρ).bind fun x ρ => (evalE true b ρ).bind fun y ρ => eob (ixD x y) ρ
  | _, .slc a lo hi, ρ => (evalE (pureO lo && pureO hi) a ρ).bind fun x ρ => (evalO lo ρ).bind fun l ρ => (evalO hi ρ).bind fun h ρ => eob (slcD x l h) ρ
  | _, .lc own tg isT it ifs elt, ρ => (evalI (pureO ifs && pureE elt) it ρ).bind fun ds ρ1 =>
      (lcLoop (fun d ρ => if (own.all (notOw ρ)) = true then (eob (setTg tg isT d (wipeR ρ own)) ρ).bind fun ρ' _ => (evalT ifs ρ').bind fun k ρ' => if k = true then (evalE false elt ρ').bind fun x ρ' => .ok (some x) ρ' else .ok none ρ' else .bad) ds ρ1).bind fun r ρ2 =>
        if (own.all (notOw ρ1) && own.all (notOw ρ2)) = true then eob (guardP (szOk ds.length) (some (.list r))) (backR ρ1 ρ2 own) else .bad
  | _, .pop0 i, ρ => popV i (-1) ρ
  | _, .pop1 i e, ρ => if (owL ρ[i]?).isSome = true then (evalE true e ρ).bind fun x ρ => (eob (asI x) ρ).bind fun j ρ => popV i j ρ else .bad
  | _, .setd i a b, ρ => if (owD ρ[i]?).isSome = true then (evalE false a ρ).bind fun x ρ => (evalE false b ρ).bind fun y ρ => setdV i x y ρ else .bad
def evalO : CO → Rho → EO (Option Int)
  | .no, ρ => .ok none ρ
  | .so e, ρ => (evalE false e ρ).bind fun x ρ => (eob (asI x) ρ).bind fun i ρ => .ok (some i) ρ
def evalT : CO → Rho → EO Bool
  | .no, ρ => .ok true ρ
  | .so e, ρ => (evalE false e ρ).bind fun x ρ => eob (asB x) ρ
def evalL : CL → Rho → EO (List D)
  | .nil, ρ => .ok [] ρ
  | .cons e es, ρ => (evalE false e ρ).bind fun x ρ => (evalL es ρ).bind fun xs ρ => .ok (x :: xs) ρ
  | .io i es, ρ => if (slotD ρ[i]?).isSome = true then (evalL es ρ).bind fun xs ρ => .ok (.none :: xs) ρ else .bad
  | .pk i es, ρ => if (slotP ρ[i]?).isSome = true then (evalL es ρ).bind fun xs ρ => .ok (.none :: xs) ρ else .bad
def evalPL : CL → Rho → EO (List D)
  | .nil, ρ => .ok [] ρ
  | .cons e es, ρ => (evalE (pureL es) e ρ).bind fun x ρ => (evalPL es ρ).bind fun xs ρ => .ok (x :: xs) ρ
  | .io _ _, _ => .bad
  | .pk _ _, _ => .bad
def evalI : Bool → CI → Rho → EO (List D)
  | pk, .val e, ρ => (evalE pk e ρ).bind fun x ρ => eob (itemsD x) ρ
  | _, .rng1 a, ρ => (evalE false a ρ).bind fun x ρ => (eob (asI x) ρ).bind fun i ρ => eob (rngD 0 i) ρ
  | _, .rng2 a b, ρ => (evalE false a ρ).bind fun x ρ => (evalE false b ρ).bind fun y ρ => (eob (asI x) ρ).bind fun i ρ => (eob (asI y) ρ).bind fun j ρ => eob (rngD i j) ρ
  | _, .zip a b, ρ => (evalE false a ρ).bind fun x ρ => (evalE false b ρ).bind fun y ρ => eob (zipD x y) ρ
  | _, .enm a, ρ => (evalE false a ρ).bind fun x ρ => eob (enmD x) ρ
end
end
def compLs (f : Expr → Option CE) : List Expr → Option CL
  | [] => some .nil
  | e :: es => (f e).bind fun c => (compLs f es).bind fun cl => some (.cons c cl)
def compB (op : BoolOp) (f : Expr → Option CE) : List Expr → Option CE
  | [] => none
  | [e] => f e
  | e :: e2 :: es => (f e).bind fun c => (compB op f (e2 :: es)).bind fun c' => some (match op with | .And => .and_ c c' | .Or => .or_ c c')
end DI
set_option Elab.async false
set_option linter.all false
set_option maxRecDepth 100000
set_option maxHeartbeats 4000000
/-! what evaluation answers is what the model does: expressions -/
namespace DI
open PySem PySem.Spec PyProof.Rows L2
def OwnAt (K : PySem.W.Frag × World) (H : Hp) (W : WS) (a : Addr) : D → Prop
  | .list ds => ∃ xs, H a = some (.lst xs) ∧ Rs K H W ds xs
  | .dict kvs => ∃ o es ep, H a = some (.ext fun h => h.get? a = some o) ∧ (a == sysModules) = false ∧ o.ExactDict ∧ o.data = .dict es ep ∧ Re K H W kvs es.toList ∧ dOk kvs = true
  | _ => False
theorem OwnAt.trk {K : PySem.W.Frag × World} {H : Hp} {W : WS} {a : Addr} {d : D} (h : OwnAt K H W a d) : H a ≠ none := by
  cases d <;> simp only [OwnAt] at h
  · obtain ⟨xs, h1, _⟩ := h; rw [h1]; simp
  · obtain ⟨o, es, ep, h1, _⟩ := h; rw [h1]; simp
section
variable {K : PySem.W.Frag × World} {W0 W W' : WS} {σ : L2.St} {H H' : Hp} {ρ : Rho}
theorem OwnAt.stp {a : Addr} {d : D} (s : Stp H W H' W') (ha : ∀ o, H a = some o → H' a = some o) (h : OwnAt K H W a d) : OwnAt K H' W' a d := by
  cases d <;> simp only [OwnAt] at h ⊢
  · obtain ⟨xs, h1, h2⟩ := h; exact ⟨xs, ha _ h1, Rs.stp s _ _ h2⟩
  · obtain ⟨o, es, ep, h1, h2, h3, h4, h5, h6⟩ := h; exact ⟨o, es, ep, ha _ h1, h2, h3, h4, Re.stp s _ _ h5, h6⟩
theorem OwnAt.less {a : Addr} {d : D} (h : OwnAt K H W a d) (hw : ∀ b, W' b → W b) : OwnAt K H W' a d := h.stp (Stp.less hw) fun o q => q
/-- what is read: perhaps an owned one -/
def RP (K : PySem.W.Frag × World) (H : Hp) (W : WS) (d : D) (v : V) : Prop := R K H W d v ∨ ∃ a, v = .ref a ∧ OwnAt K H W a d
theorem RP.same {d : D} {v : V} (s : Same H H') (h : RP K H W d v) : RP K H' W d v := h.elim (fun h => .inl (R.stp (Stp.of_same s) d v h)) fun ⟨a, e, h⟩ => .inr ⟨a, e, h.stp (Stp.of_same s) fun o => s a o⟩
theorem R.same {d : D} {v : V} (s : Same H H') (h : R K H W d v) : R K H' W d v := R.stp (Stp.of_same s) d v h
theorem Rs.same {d : List D} {v : List V} (s : Same H H') (h : Rs K H W d v) : Rs K H' W d v := Rs.stp (Stp.of_same s) d v h
theorem RP.list {ds : List D} {v : V} (h : RP K H W (.list ds) v) : ∃ a xs, v = .ref a ∧ SqL K.1 H a xs ∧ Rs K H W ds xs := by
  rcases h with h | ⟨a, e, h⟩
  · simp only [R] at h
    obtain ⟨a, xs, e, h1, h2⟩ := h
    exact ⟨a, xs, e, h1.sq, h2⟩
  · simp only [OwnAt] at h
    obtain ⟨xs, h1, h2⟩ := h
    exact ⟨a, xs, e, .of h1, h2⟩
theorem RP.tuple {ds : List D} {v : V} (h : RP K H W (.tuple ds) v) : ∃ a xs, v = .ref a ∧ TupAt K.1 H W a xs ∧ Rs K H W ds xs := by
  rcases h with h | ⟨a, e, h⟩
  · simpa only [R] using h
  · simp only [OwnAt] at h
theorem RP.int {i : Int} {v : V} (h : RP K H W (.int i) v) : v = .int i := by
  rcases h with h | ⟨a, e, h⟩
  · simpa only [R] using h
  · simp only [OwnAt] at h
theorem RP.str {i : Str} {v : V} (h : RP K H W (.str i) v) : v = .str i := by
  rcases h with h | ⟨a, e, h⟩
  · simpa only [R] using h
  · simp only [OwnAt] at h
theorem RP.bool {i : Bool} {v : V} (h : RP K H W (.bool i) v) : v = .bl i := by
  rcases h with h | ⟨a, e, h⟩
  · simpa only [R] using h
  · simp only [OwnAt] at h
theorem RP.none {v : V} (h : RP K H W .none v) : v = .non := by
  rcases h with h | ⟨a, e, h⟩
  · simpa only [R] using h
  · simp only [OwnAt] at h
/-- a new tuple, a new list -/
theorem R.newTup {ds : List D} {xs : List V} {p : Addr} (hW : ∀ a, W a → H a ≠ Option.none) (hp : H p = Option.none) (h : Rs K H W ds xs) : R K (upd H p (.tup xs)) W (.tuple ds) (.ref p) := by
  simp only [R]
  exact ⟨p, xs, rfl, .inl ⟨.of upd_same, fun q => hW p q hp⟩, Rs.same (fun b o e => by rw [upd_ne (ne_of_none e hp)]; exact e) h⟩
theorem R.newLst {ds : List D} {xs : List V} {p : Addr} (hW : ∀ a, W a → H a ≠ Option.none) (hp : H p = Option.none) (h : Rs K H W ds xs) : R K (upd H p (.lst xs)) W (.list ds) (.ref p) := by
  simp only [R]
  exact ⟨p, xs, rfl, .inl ⟨.of upd_same, fun q => hW p q hp⟩, Rs.same (fun b o e => by rw [upd_ne (ne_of_none e hp)]; exact e) h⟩
/-- it may be read; a list, a dict is new since H -/
def RN (K : PySem.W.Frag × World) (H H' : Hp) (W : WS) (d : D) (v : V) : Prop := R K H' W d v ∧ (isBox d = true → ∃ a, v = .ref a ∧ H a = Option.none ∧ OwnAt K H' (fun b => W b ∨ b = a) a d)
theorem RN.of {d : D} {v : V} (h : R K H' W d v) (b : isBox d = false) : RN K H H' W d v := ⟨h, fun q => by rw [b] at q; cases q⟩
theorem RN.newLst {ds : List D} {xs : List V} {p : Addr} (hW : ∀ a, W a → H a ≠ Option.none) (hp : H p = Option.none) (h : Rs K H W ds xs) : RN K H (upd H p (.lst xs)) W (.list ds) (.ref p) := by
  refine ⟨R.newLst hW hp h, fun _ => ⟨p, rfl, hp, ?_⟩⟩
  simp only [OwnAt]
  refine ⟨xs, upd_same, Rs.stp ⟨fun a o e n => ⟨by rw [upd_ne (ne_of_none e hp)]; exact e, fun q => q.elim n (ne_of_none e hp)⟩, fun a q => q.elim .inl (fun z => .inr (z ▸ hp))⟩ _ _ h⟩
theorem RN.start {H1 : Hp} {d : D} {v : V} (s : ∀ a, H1 a = Option.none → H a = Option.none) (h : RN K H1 H' W d v) : RN K H H' W d v := ⟨h.1, fun q => let ⟨a, e, n, o⟩ := h.2 q; ⟨a, e, s a n, o⟩⟩
theorem same_new {p : Addr} {o : HO} (hp : H p = Option.none) : Same H (upd H p o) := fun b u e => by rw [upd_ne (ne_of_none e hp)]; exact e
end
section
variable {K : PySem.W.Frag × World} {W W' : WS} {H : Hp}
theorem OwnAt.toR {a : Addr} {d : D} (h : OwnAt K H W a d) (hw : ∀ b, W' b → W b) (hn : ¬ W' a) : R K H W' d (.ref a) := by
  cases d <;> simp only [OwnAt] at h
  · obtain ⟨xs, h1, h2⟩ := h
    simp only [R]
    exact ⟨a, xs, rfl, .inl ⟨.of h1, hn⟩, Rs.stp (Stp.less hw) _ _ h2⟩
  · obtain ⟨o, es, ep, h1, h2, h3, h4, h5, h6⟩ := h
    simp only [R]
    exact ⟨a, o, es, ep, rfl, h1, hn, h2, h3, h4, Re.stp (Stp.less hw) _ _ h5, h6⟩
end
/-! ### slots and the heap -/
/-- what is fixed through a call: what others own; the places that were handed in -/
structure Fr where
  w0 : WS
  lw : WS
  ap : WS
  pin : List (Nat × Addr)
def Fr.r0 (Φ : Fr) : WS := fun a => Φ.w0 a ∨ Φ.lw a
def Fr.all (Φ : Fr) : WS := fun a => Φ.r0 a ∨ Φ.ap a
/-- one more is set apart -/
def Fr.plus (Φ : Fr) : Option Addr → Fr
  | some a => ⟨Φ.w0, Φ.lw, fun b => Φ.ap b ∨ b = a, Φ.pin⟩
  | none => Φ
def WU (Φ : Fr) (U : WS) : WS := fun a => Φ.all a ∨ U a
/-- from one state to a later one: what is tracked and not owned stays -/
structure SX (H : Hp) (U : WS) (H' : Hp) (U' : WS) : Prop where
  keep : ∀ a o, H a = some o → ¬ U a → H' a = some o ∧ ¬ U' a
  new : ∀ a, U' a → U a ∨ H a = none
  trk : ∀ a, H' a = none → H a = none
theorem SX.refl (H : Hp) (U : WS) : SX H U H U := ⟨fun a o h n => ⟨h, n⟩, fun a h => .inl h, fun a h => h⟩
theorem SX.trans {H H1 H2 : Hp} {U U1 U2 : WS} (a : SX H U H1 U1) (b : SX H1 U1 H2 U2) : SX H U H2 U2 := by
  refine ⟨fun x o h n => ?_, fun x h => ?_, fun x h => a.trk x (b.trk x h)⟩
  · obtain ⟨h1, n1⟩ := a.keep x o h n
    exact b.keep x o h1 n1
  · rcases b.new x h with h1 | h1
    · exact a.new x h1
    · exact .inr (a.trk x h1)
theorem SX.less {H H' : Hp} {U U' : WS} (s : Same H H') (h : ∀ a, U' a → U a) : SX H U H' U' := ⟨fun a o e n => ⟨s a o e, fun q => n (h a q)⟩, fun a q => .inl (h a q), fun a q => by
  cases e : H a with
  | none => rfl
  | some o => rw [s a o e] at q; cases q⟩
theorem SX.of_same {H H' : Hp} {U : WS} (s : Same H H') : SX H U H' U := SX.less s fun a q => q
theorem SX.stp {Φ : Fr} {H H' : Hp} {U U' : WS} (s : SX H U H' U') : Stp H (WU Φ U) H' (WU Φ U') := by
  refine ⟨fun a o e n => ?_, fun a q => ?_⟩
  · obtain ⟨h1, h2⟩ := s.keep a o e fun z => n (.inr z)
    exact ⟨h1, fun z => z.elim (fun z => n (.inl z)) h2⟩
  · rcases q with q | q
    · exact .inl (.inl q)
    · exact (s.new a q).elim (fun z => .inl (.inr z)) .inr
/-- an owned dict of owned lists, dicts -/
def DeepAt (K : PySem.W.Frag × World) (H : Hp) (W : WS) (a : Addr) (kvs : List (D × D)) (bs : List Addr) : Prop := ∃ (o : Obj) (es : Array DictEntry) (ep : Nat), H a = some (.ext fun h => h.get? a = some o) ∧ (a == sysModules) = false ∧ o.ExactDict ∧ o.data = .dict es ep ∧ dOk kvs = true ∧ es.size = kvs.length ∧ bs.length = kvs.length ∧
  ∀ (n : Nat) (k d : D), kvs[n]? = some (k, d) → ∃ e x b, es[n]? = some e ∧ bs[n]? = some b ∧ RelV x e.key ∧ R K H W k x ∧ e.hash = (nkOf k).hash K.2 ∧ e.val = .ref b ∧ OwnAt K H W b d
/-- a slot, by what stands in it, and by the addresses that it owns -/
def SlotOk (K : PySem.W.Frag × World) (H : Hp) (Φ : Fr) (U : WS) (s : Option (Option V)) (f : List Addr) : Sl → Prop
  | .un => f = []
  | .sh d => f = [] ∧ ∃ u, s = some (some u) ∧ R K H (WU Φ U) d u
  | .ow d => ∃ a, f = [a] ∧ s = some (some (.ref a)) ∧ OwnAt K H (WU Φ U) a d
  | .io d => ∃ a, f = [a] ∧ s = some (some (.ref a)) ∧ OwnAt K H (WU Φ U) a d
  | .pk d => f = [] ∧ ∃ u, s = some (some u) ∧ (R K H (WU Φ U) d u ∨ ∃ a, u = .ref a ∧ OwnAt K H (WU Φ U) a d ∧ Φ.w0 a)
  | .lk d => f = [] ∧ ∃ a, s = some (some (.ref a)) ∧ OwnAt K H (WU Φ U) a d ∧ Φ.lw a
  | .od kvs => ∃ a bs, f = a :: bs ∧ s = some (some (.ref a)) ∧ DeepAt K H (WU Φ U) a kvs bs
  | .bo _ _ => f = []
/-- it may not be given something else -/
def isPin : Sl → Bool
  | .io _ | .lk _ => true
  | _ => false
def BoOk (σ : L2.St) (ρ : Rho) (F : Nat → List Addr) (i j : Nat) (k : D) : Prop := ∃ (a : Addr) (bs : List Addr) (kvs : List (D × D)) (n : Nat) (k' d : D) (b : Addr), ρ[j]? = some (.od kvs) ∧ F j = a :: bs ∧ bs[n]? = some b ∧ kvs[n]? = some (k', d) ∧ nkOf k' = nkOf k ∧ σ[i]? = some (some (.ref b))
structure RepF (K : PySem.W.Frag × World) (Φ : Fr) (U : WS) (σ : L2.St) (H : Hp) (ρ : Rho) (F : Nat → List Addr) : Prop where
  len : ρ.length = σ.length
  out : ∀ i, ρ.length ≤ i → F i = []
  ok : ∀ i sl, ρ[i]? = some sl → SlotOk K H Φ U σ[i]? (F i) sl
  bo : ∀ i j k, ρ[i]? = some (.bo j k) → BoOk σ ρ F i j k
  nd : ∀ i, (F i).Nodup
  sep : ∀ i j a, a ∈ F i → a ∈ F j → i = j
  mem : ∀ a, U a ↔ ∃ i, a ∈ F i
  own : ∀ a, U a → ¬ Φ.all a
  trk : ∀ a, Φ.all a → H a ≠ none
  pin : ∀ i a, (i, a) ∈ Φ.pin → σ[i]? = some (some (.ref a)) ∧ ∃ sl, ρ[i]? = some sl ∧ isPin sl = true
  lkp : ∀ i d, ρ[i]? = some (.lk d) → ∃ a, (i, a) ∈ Φ.pin
def Rep (K : PySem.W.Frag × World) (Φ : Fr) (U : WS) (σ : L2.St) (H : Hp) (ρ : Rho) : Prop := ∃ F, RepF K Φ U σ H ρ F
section
variable {K : PySem.W.Frag × World} {Φ : Fr} {U U' W W' : WS} {σ : L2.St} {H H' : Hp} {ρ ρ' : Rho} {F : Nat → List Addr}
theorem DeepAt.stp {a : Addr} {kvs : List (D × D)} {bs : List Addr} (s : Stp H W H' W') (ha : ∀ b, b = a ∨ b ∈ bs → ∀ o, H b = some o → H' b = some o) (h : DeepAt K H W a kvs bs) : DeepAt K H' W' a kvs bs := by
  obtain ⟨o, es, ep, h1, h2, h3, h4, h5, h6, h7, h8⟩ := h
  refine ⟨o, es, ep, ha a (.inl rfl) _ h1, h2, h3, h4, h5, h6, h7, fun n k d e => ?_⟩
  obtain ⟨e1, x, b, g1, g2, g3, g4, g5, g6, g7⟩ := h8 n k d e
  exact ⟨e1, x, b, g1, g2, g3, R.stp s k x g4, g5, g6, g7.stp s (ha b (.inr (List.mem_of_getElem? g2)))⟩
theorem SlotOk.stp {s : Option (Option V)} {f : List Addr} {sl : Sl} {Φ' : Fr} (st : Stp H (WU Φ U) H' (WU Φ' U')) (ha : ∀ b, b ∈ f ∨ Φ.r0 b → ∀ o, H b = some o → H' b = some o) (hw : ∀ a, Φ.w0 a → Φ'.w0 a) (hl : ∀ a, Φ.lw a → Φ'.lw a) (h : SlotOk K H Φ U s f sl) : SlotOk K H' Φ' U' s f sl := by
  cases sl with
  | un => exact h
  | sh d => obtain ⟨h1, u, h2, h3⟩ := h; exact ⟨h1, u, h2, R.stp st d u h3⟩
  | ow d => obtain ⟨a, h1, h2, h3⟩ := h; exact ⟨a, h1, h2, h3.stp st (ha a (.inl (by rw [h1]; simp)))⟩
  | io d => obtain ⟨a, h1, h2, h3⟩ := h; exact ⟨a, h1, h2, h3.stp st (ha a (.inl (by rw [h1]; simp)))⟩
  | pk d => obtain ⟨h1, u, h2, h3⟩ := h; exact ⟨h1, u, h2, h3.imp (R.stp st d u) fun ⟨a, e, h4, h5⟩ => ⟨a, e, h4.stp st (ha a (.inr (.inl h5))), hw a h5⟩⟩
  | lk d => obtain ⟨h1, a, h2, h3, h4⟩ := h; exact ⟨h1, a, h2, h3.stp st (ha a (.inr (.inr h4))), hl a h4⟩
  | od kvs => obtain ⟨a, bs, h1, h2, h3⟩ := h; exact ⟨a, bs, h1, h2, h3.stp st fun b hb => ha b (.inl (by rw [h1]; simpa using hb))⟩
  | bo j k => exact h
theorem DeepAt.trk {a : Addr} {kvs : List (D × D)} {bs : List Addr} (h : DeepAt K H W a kvs bs) : ∀ b, b = a ∨ b ∈ bs → H b ≠ none := fun b hb => by
  obtain ⟨o, es, ep, h1, h2, h3, h4, h5, h6, h7, h8⟩ := h
  rcases hb with hb | hb
  · rw [hb, h1]; simp
  · obtain ⟨n, hn⟩ := List.mem_iff_getElem?.mp hb
    have hl : n < kvs.length := by rw [← h7]; exact (List.getElem?_eq_some_iff.mp hn).1
    obtain ⟨e1, x, b', g1, g2, g3, g4, g5, g6, g7⟩ := h8 n kvs[n].1 kvs[n].2 (by rw [List.getElem?_eq_getElem hl])
    rw [hn] at g2
    cases g2
    exact g7.trk
theorem SlotOk.trk {s : Option (Option V)} {f : List Addr} {sl : Sl} (h : SlotOk K H Φ U s f sl) : ∀ b ∈ f, H b ≠ none := fun b hb => by
  cases sl with
  | un => rw [show f = [] from h] at hb; cases hb
  | sh d => rw [h.1] at hb; cases hb
  | ow d => obtain ⟨a, h1, h2, h3⟩ := h; rw [h1, List.mem_singleton] at hb; rw [hb]; exact h3.trk
  | io d => obtain ⟨a, h1, h2, h3⟩ := h; rw [h1, List.mem_singleton] at hb; rw [hb]; exact h3.trk
  | pk d => rw [h.1] at hb; cases hb
  | lk d => rw [h.1] at hb; cases hb
  | od kvs => obtain ⟨a, bs, h1, h2, h3⟩ := h; rw [h1] at hb; exact h3.trk b (by simpa using hb)
  | bo j k => rw [show f = [] from h] at hb; cases hb
theorem RepF.utrk (r : RepF K Φ U σ H ρ F) : ∀ a, U a → H a ≠ none := fun a h => by
  obtain ⟨i, hi⟩ := (r.mem a).mp h
  by_cases hl : i < ρ.length
  · exact (r.ok i _ (List.getElem?_eq_getElem hl)).trk a hi
  · rw [r.out i (by omega)] at hi; cases hi
theorem Rep.wtrk (r : Rep K Φ U σ H ρ) : ∀ a, WU Φ U a → H a ≠ none := fun a h => by
  obtain ⟨F, r⟩ := r
  exact h.elim (r.trk a) (r.utrk a)
theorem RepF.same (r : RepF K Φ U σ H ρ F) (s : Same H H') : RepF K Φ U σ H' ρ F :=
  ⟨r.len, r.out, fun i sl e => (r.ok i sl e).stp (Stp.of_same s) (fun b _ o => s b o) (fun a h => h) fun a h => h, r.bo, r.nd, r.sep, r.mem, r.own, fun a h => by
    cases e : H a with
    | none => exact absurd e (r.trk a h)
    | some o => rw [s a o e]; simp, r.pin, r.lkp⟩
theorem Rep.same (r : Rep K Φ U σ H ρ) (s : Same H H') : Rep K Φ U σ H' ρ := let ⟨F, r⟩ := r; ⟨F, r.same s⟩
theorem Rep.len (r : Rep K Φ U σ H ρ) : ρ.length = σ.length := let ⟨F, r⟩ := r; r.len
end
/-! ### answers as readings -/
/-- how an exception stands -/
def ExcR (X : Cx) (c : Str) (p : List D) (cls : Value) (dd : Option Addr) (H : Hp) : Prop := ∃ C, X.mg c = some (.ref C) ∧ cls = .ref C ∧ p = [] ∧ dd = none
/-- of the state, the heap ahead, the heap now, an answer and what stands for it -/
abbrev Rel (α β : Type) := L2.St → Fr → Rho → WS → Hp → Hp → α → β → Prop
/-- from an earlier heap it is the same -/
def Mono {α β : Type} (rel : Rel α β) : Prop := ∀ σ Φ ρ U H H1 H' a v, (∀ b, H1 b = none → H b = none) → rel σ Φ ρ U H1 H' a v → rel σ Φ ρ U H H' a v
def AnW {α β : Type} (X : Cx) (Wx : WX) (Φ : Fr) (U : WS) (pu : Bool) (ρ : Rho) (o : EO α) (rel : Rel α β) (σ : L2.St) (H : Hp) (Q : β → Hp → Prop) : Prop :=
  Rep (X.K, X.w) Φ U σ H ρ ∧ match o with
    | .ok d ρ' => ∀ v H' U', Rep (X.K, X.w) Φ U' σ H' ρ' → SX H U H' U' → (∀ a, U' a → U a) → (pu = true → Same H H') → rel σ Φ ρ' U' H H' d v → Q v H'
    | .exc c p ρ' => ∀ cls dd H' U', Rep (X.K, X.w) Φ U' σ H' ρ' → SX H U H' U' → (∀ a, U' a → U a) → ExcR X c p cls dd H' → Wx cls dd σ H'
    | .bad => False
def An {α β : Type} (X : Cx) (Wx : WX) (pu : Bool) (ρ : Rho) (o : EO α) (rel : Rel α β) : L2.St → Hp → (β → Hp → Prop) → Prop := fun σ H Q => ∃ Φ U, AnW X Wx Φ U pu ρ o rel σ H Q
section
variable {X : Cx} {Wx : WX} {Φ : Fr} {U : WS} {ρ : Rho} {σ : L2.St} {H : Hp} {pu p1 p2 : Bool}
theorem AnW.bind {α β γ δ : Type} {o : EO α} {f : α → Rho → EO γ} {rel1 : Rel α β} {rel2 : Rel γ δ} {Q : δ → Hp → Prop} {P : β → Hp → Prop} (h : AnW X Wx Φ U pu ρ (o.bind f) rel2 σ H Q) (m : Mono rel2) (hp : pu = true → p1 = true ∧ p2 = true)
    (k : ∀ a ρ1 v H1 U1, (∀ b, U1 b → U b) → SX H U H1 U1 → (p1 = true → Same H H1) → rel1 σ Φ ρ1 U1 H H1 a v → AnW X Wx Φ U1 p2 ρ1 (f a ρ1) rel2 σ H1 Q → P v H1) : AnW X Wx Φ U p1 ρ o rel1 σ H P := by
  obtain ⟨rep, h⟩ := h
  cases o with
  | ok a ρ1 =>
    refine ⟨rep, fun v H1 U1 rep1 s1 l1 e1 r => k a ρ1 v H1 U1 l1 s1 e1 r ⟨rep1, ?_⟩⟩
    simp only [ebind_ok] at h
    revert h
    cases f a ρ1 with
    | ok d ρ2 => exact fun h v H' U' rep' s' l' e' r' => h v H' U' rep' (s1.trans s') (fun a q => l1 a (l' a q)) (fun z => (e1 (hp z).1).trans (e' (hp z).2)) (m _ _ _ _ _ _ _ _ _ s1.trk r')
    | exc c p ρ2 => exact fun h cls dd H' U' rep' s' l' r' => h cls dd H' U' rep' (s1.trans s') (fun a q => l1 a (l' a q)) r'
    | bad => exact id
  | exc c p ρ1 => exact ⟨rep, h⟩
  | bad => exact ⟨rep, h⟩
/-- the answer is known, the slots stay -/
theorem AnW.ok {α β : Type} {a : α} {rel : Rel α β} {Q : β → Hp → Prop} (h : AnW X Wx Φ U pu ρ (.ok a ρ) rel σ H Q) {v : β} {H' : Hp} (s : Same H H') (r : rel σ Φ ρ U H H' a v) : Q v H' := h.2 v H' U (h.1.same s) (SX.of_same s) (fun a z => z) (fun _ => s) r
theorem AnW.ob {α β : Type} {o : Option α} {rel : Rel α β} {Q : β → Hp → Prop} (h : AnW X Wx Φ U pu ρ (DI.eob o ρ) rel σ H Q) : ∃ a, o = some a ∧ AnW X Wx Φ U pu ρ (.ok a ρ) rel σ H Q := by
  cases o with
  | some a => exact ⟨a, rfl, h⟩
  | none => exact h.2.elim
theorem AnW.obb {α β γ : Type} {o : Option α} {f : α → Rho → EO γ} {rel : Rel γ β} {Q : β → Hp → Prop} (h : AnW X Wx Φ U pu ρ ((DI.eob o ρ).bind f) rel σ H Q) : ∃ a, o = some a ∧ AnW X Wx Φ U pu ρ (f a ρ) rel σ H Q := by
  cases o with
  | some a => exact ⟨a, rfl, h⟩
  | none => exact h.2.elim
theorem AnW.bad {α β : Type} {rel : Rel α β} {Q : β → Hp → Prop} (h : AnW X Wx Φ U pu ρ (.bad : EO α) rel σ H Q) : False := h.2
theorem AnW.trk {α β : Type} {o : EO α} {rel : Rel α β} {Q : β → Hp → Prop} (h : AnW X Wx Φ U pu ρ o rel σ H Q) : ∀ a, WU Φ U a → H a ≠ none := h.1.wtrk
/-- what is promised of the heap's staying may be less -/
theorem AnW.mp {α β : Type} {o : EO α} {rel : Rel α β} {Q : β → Hp → Prop} {pu' : Bool} (h : AnW X Wx Φ U pu ρ o rel σ H Q) (hp : pu = true → pu' = true) : AnW X Wx Φ U pu' ρ o rel σ H Q := by
  obtain ⟨rep, h⟩ := h
  refine ⟨rep, ?_⟩
  revert h
  cases o with
  | ok a ρ1 => exact fun h v H' U' r s l e q => h v H' U' r s l (fun z => e (hp z)) q
  | exc c p ρ1 => exact id
  | bad => exact id
theorem AnW.weak {α β : Type} {o : EO α} {rel rel' : Rel α β} {Q : β → Hp → Prop} (h : AnW X Wx Φ U pu ρ o rel σ H Q) (i : ∀ ρ' H' U' a v, rel' σ Φ ρ' U' H H' a v → rel σ Φ ρ' U' H H' a v) : AnW X Wx Φ U pu ρ o rel' σ H Q := by
  obtain ⟨rep, h⟩ := h
  refine ⟨rep, ?_⟩
  revert h
  cases o with
  | ok a ρ1 => exact fun h v H' U' r s l e q => h v H' U' r s l e (i ρ1 H' U' a v q)
  | exc c p ρ1 => exact id
  | bad => exact id
theorem PE.imp {e : Expr} {t t' : TE} (h : PE X e t) (i : ∀ σ H Q, t' σ H Q → t σ H Q) : PE X e t' := ⟨fun pins s σ H Q I q => h.run pins s σ H Q I (i σ H Q q)⟩
theorem PT.imp {e : Expr} {t t' : TT} (h : PT X e t) (i : ∀ σ H Q, t' σ H Q → t σ H Q) : PT X e t' := ⟨fun pins s σ H Q I q => h.run pins s σ H Q I (i σ H Q q)⟩
theorem PTs.imp {e : List Expr} {t t' : TT} (h : PTs X e t) (i : ∀ σ H Q, t' σ H Q → t σ H Q) : PTs X e t' := ⟨fun pins s σ H Q I q => h.run pins s σ H Q I (i σ H Q q)⟩
theorem PW.imp {e : Expr} {t t' : TT} (h : PW X e t) (i : ∀ σ H Q, t' σ H Q → t σ H Q) : PW X e t' := ⟨fun wh pins s σ H Q I q => h.run wh pins s σ H Q I (i σ H Q q)⟩
theorem PS.imp {e : Stmt} {t t' : TS} (h : PS X e t) (i : ∀ D σ H, t' D σ H → t D σ H) : PS X e t' := ⟨fun pins s σ H D I q => h.run pins s σ H D I (i D σ H q)⟩
theorem PSs.imp {e : List Stmt} {t t' : TS} (h : PSs X e t) (i : ∀ D σ H, t' D σ H → t D σ H) : PSs X e t' := ⟨fun pins s σ H D I q => h.run pins s σ H D I (i D σ H q)⟩
theorem PA.imp {e : List Expr} {t t' : TA} (h : PA X e t) (i : ∀ σ H Q, t' σ H Q → t σ H Q) : PA X e t' := ⟨fun pos pins s σ H Q I q => h.run pos pins s σ H Q I (i σ H Q q)⟩
theorem PI.imp {tg e : Expr} {t t' : TI} (h : PI X tg e t) (i : ∀ σ H Q, t' σ H Q → t σ H Q) : PI X tg e t' := ⟨fun pins s σ H Q I q => h.run pins s σ H Q I (i σ H Q q)⟩
theorem PO.imp {e : Option Expr} {t t' : TO} (h : PO X e t) (i : ∀ σ H Q, t' σ H Q → t σ H Q) : PO X e t' := ⟨fun pins s σ H Q I q => h.run pins s σ H Q I (i σ H Q q)⟩
end
/-- what a value is to be: to be read; to be read, perhaps an owned one; new, where it is a list or a dict -/
inductive Md where
  | val | pk | fr
  deriving DecidableEq
/-- the address of a list, a dict -/
def apF (d : D) (v : V) : Option Addr := if isBox d = true then (match v with | .ref a => some a | _ => none) else none
def RM (K : PySem.W.Frag × World) : Md → Rel D V
  | .val => fun _ Φ _ U _ H' d v => R K H' (WU Φ U) d v
  | .pk => fun _ Φ _ U _ H' d v => RP K H' (WU Φ U) d v
  | .fr => fun σ Φ ρ U H H' d v => RN K H H' (WU Φ U) d v ∧ Rep K (Φ.plus (apF d v)) U σ H' ρ
theorem RM.mono {K : PySem.W.Frag × World} (m : Md) : Mono (RM K m) := fun σ Φ ρ U H H1 H' a v s h => by
  cases m
  · exact h
  · exact h
  · exact ⟨h.1.start s, h.2⟩
abbrev tE (X : Cx) (Wx : WX) (pu : Bool) (m : Md) (ρ : Rho) (o : EO D) : TE := An X Wx pu ρ o (RM (X.K, X.w) m)
def rEq {α : Type} : Rel α α := fun _ _ _ _ _ _ d v => d = v
abbrev tB (X : Cx) (Wx : WX) (pu : Bool) (ρ : Rho) (o : EO Bool) : TT := An X Wx pu ρ o rEq
abbrev tOI (X : Cx) (Wx : WX) (pu : Bool) (ρ : Rho) (o : EO (Option Int)) : TO := An X Wx pu ρ o rEq
theorem monoC {α β : Type} {rel : L2.St → Fr → Rho → WS → Hp → α → β → Prop} : Mono (fun σ Φ ρ U _ H' a v => rel σ Φ ρ U H' a v) := fun _ _ _ _ _ _ _ _ _ _ h => h
theorem RP.stp {K : PySem.W.Frag × World} {H H' : Hp} {W W' : WS} {d : D} {v : V} (s : Same H H') (hw : ∀ a, W' a → W a) (h : RP K H W d v) : RP K H' W' d v := h.elim (fun h => .inl (R.stp ((Stp.of_same s).trans (Stp.less hw)) d v h)) fun ⟨a, e, h⟩ => .inr ⟨a, e, h.stp ((Stp.of_same s).trans (Stp.less hw)) fun o => s a o⟩
section
variable {K : PySem.W.Frag × World} {Φ : Fr} {U W : WS} {ρ : Rho} {σ : L2.St} {H H' : Hp} {F : Nat → List Addr}
/-- one that was not tracked is set apart -/
theorem RepF.plusF (r : RepF K Φ U σ H ρ F) (s : Same H H') {a : Addr} (hn : H a = none) (ht : H' a ≠ none) : RepF K (Φ.plus (some a)) U σ H' ρ F := by
  have hall : ∀ b, (Φ.plus (some a)).all b → Φ.all b ∨ b = a := fun b h => h.elim (fun z => .inl (.inl z)) fun z => z.elim (fun w => .inl (.inr w)) .inr
  have st : Stp H (WU Φ U) H' (WU (Φ.plus (some a)) U) := ⟨fun b o e n => ⟨s b o e, fun q => q.elim (fun z => (hall b z).elim (fun w => n (.inl w)) fun w => by rw [w, hn] at e; cases e) fun z => n (.inr z)⟩, fun b q => q.elim (fun z => (hall b z).elim (fun w => .inl (.inl w)) fun w => .inr (w ▸ hn)) fun z => .inl (.inr z)⟩
  refine ⟨r.len, r.out, fun i sl e => (r.ok i sl e).stp st (fun b _ o => s b o) (fun b h => h) fun b h => h, r.bo, r.nd, r.sep, r.mem, fun b h q => ?_, fun b q => ?_, r.pin, r.lkp⟩
  · rcases hall b q with z | z
    · exact r.own b h z
    · exact r.utrk b h (z ▸ hn)
  · rcases hall b q with z | z
    · cases e : H b with
      | none => exact absurd e (r.trk b z)
      | some o => rw [s b o e]; simp
    · rw [z]; exact ht
theorem Rep.plusA (r : Rep K Φ U σ H ρ) (s : Same H H') {d : D} {v : V} (hn : RN K H H' W d v) : Rep K (Φ.plus (apF d v)) U σ H' ρ := by
  obtain ⟨F, r⟩ := r
  unfold apF
  split
  · rename_i hb
    obtain ⟨a, e, h1, h2⟩ := hn.2 hb
    subst e
    exact ⟨F, r.plusF s h1 h2.trk⟩
  · exact ⟨F, r.same s⟩
end
/-- what is new is fit for all -/
theorem AnW.okN {X : Cx} {Wx : WX} {Φ : Fr} {U : WS} {ρ : Rho} {σ : L2.St} {H : Hp} {pu : Bool} {d : D} {m : Md} {Q : V → Hp → Prop} (h : AnW X Wx Φ U pu ρ (.ok d ρ) (RM (X.K, X.w) m) σ H Q) {v : V} {H' : Hp} (s : Same H H') (r : RN (X.K, X.w) H H' (WU Φ U) d v) : Q v H' := by
  cases m
  · exact h.ok s r.1
  · exact h.ok s (.inl r.1)
  · exact h.ok s ⟨r, h.1.plusA s r⟩
theorem AnW.okR {X : Cx} {Wx : WX} {Φ : Fr} {U : WS} {ρ : Rho} {σ : L2.St} {H : Hp} {pu : Bool} {d : D} {m : Md} {Q : V → Hp → Prop} (hm : m ≠ .fr) (h : AnW X Wx Φ U pu ρ (.ok d ρ) (RM (X.K, X.w) m) σ H Q) {v : V} {H' : Hp} (s : Same H H') (r : R (X.K, X.w) H' (WU Φ U) d v) : Q v H' := by
  cases m
  · exact h.ok s r
  · exact h.ok s (.inl r)
  · exact absurd rfl hm
end DI
set_option Elab.async false
set_option linter.all false
set_option maxRecDepth 100000
set_option maxHeartbeats 4000000
/-! operators -/
namespace DI
open PySem PySem.Spec PyProof.Rows L2
theorem guardP_some {α : Type} {b : Bool} {o : Option α} {a : α} (h : guardP b o = some a) : b = true ∧ o = some a := by
  cases b with
  | true => exact ⟨rfl, h⟩
  | false => cases h
theorem szOk_le {n : Nat} (h : szOk n = true) : n ≤ sizeLine := by
  have := of_decide_eq_true h
  rw [sizeLine_eq]
  exact this
section
variable {X : Cx} {pins : List (Addr × Obj)} {σ : L2.St} {H H' : Hp} {W W' : WS} {s : Shared}
mutual
theorem R.reads (I : Inv X pins σ H s) : ∀ (d : D) (v : V) (u : Value), d.plain = true → R (X.K, X.w) H W d v → RelV v u → ∃ as, Reads s.heap u d as
  | .none, _, _, _, h, r => by
    simp only [R] at h; subst h
    cases r
    exact ⟨_, Reads.none⟩
  | .bool b, _, _, _, h, r => by
    simp only [R] at h; subst h
    cases r
    exact ⟨_, Reads.bool b⟩
  | .int i, _, _, _, h, r => by
    simp only [R] at h; subst h
    obtain ⟨t, rfl⟩ := r
    exact ⟨_, Reads.int i t⟩
  | .str x, _, _, _, h, r => by
    simp only [R] at h; subst h
    obtain ⟨t, rfl⟩ := r
    exact ⟨_, Reads.str x t⟩
  | .list ds, _, _, p, h, r => by
    simp only [R] at h
    obtain ⟨a, xs, rfl, hs, ha⟩ := h
    cases r
    obtain ⟨its, rv, ⟨o, n, ho, hc, _, hd⟩, _⟩ := I.list hs.sq
    obtain ⟨as, hr⟩ := Rs.reads I ds _ its (by simpa only [PyData.plain] using p) ha rv
    exact ⟨_, Reads.list ho hc hd hr⟩
  | .tuple ds, _, _, p, h, r => by
    simp only [R] at h
    obtain ⟨a, xs, rfl, hs, ha⟩ := h
    cases r
    obtain ⟨its, rv, ⟨o, ho, hc, n, hd⟩, _⟩ := I.tuple hs.sq
    obtain ⟨as, hr⟩ := Rs.reads I ds _ its (by simpa only [PyData.plain] using p) ha rv
    exact ⟨_, Reads.tuple ho hc hd hr⟩
  | .dict _, _, _, p, _, _ => by simp [PyData.plain] at p
theorem Rs.reads (I : Inv X pins σ H s) : ∀ (ds : List D) (vs : List V) (us : List Value), PyData.plainAll ds = true → Rs (X.K, X.w) H W ds vs → Vals vs us → ∃ as, ReadsAll s.heap us ds as
  | [], _, _, _, h, r => by
    simp only [Rs] at h; subst h
    cases r
    exact ⟨_, ReadsAll.nil⟩
  | d :: ds, _, _, p, h, r => by
    simp only [Rs] at h
    obtain ⟨x, xs, rfl, h1, h2⟩ := h
    simp only [PyData.plainAll, Bool.and_eq_true] at p
    cases r with
    | cons r1 r2 =>
      obtain ⟨as, q1⟩ := R.reads I d _ _ p.1 h1 r1
      obtain ⟨bs, q2⟩ := Rs.reads I ds _ _ p.2 h2 r2
      exact ⟨_, ReadsAll.cons q1 q2⟩
end
theorem RP.reads (I : Inv X pins σ H s) {d : D} {v : V} {u : Value} (p : d.plain = true) (h : RP (X.K, X.w) H W d v) (r : RelV v u) : ∃ as, Reads s.heap u d as := by
  rcases h with h | ⟨a, rfl, h⟩
  · exact R.reads I d v u p h r
  · cases d <;> simp only [OwnAt] at h
    · rename_i ds
      obtain ⟨xs, h1, h2⟩ := h
      cases r
      obtain ⟨its, rv, ⟨o, n, ho, hc, _, hd⟩, _⟩ := I.list (.of h1)
      obtain ⟨as, hr⟩ := Rs.reads I ds _ its (by simpa only [PyData.plain] using p) h2 rv
      exact ⟨_, Reads.list ho hc hd hr⟩
    · simp [PyData.plain] at p
theorem shp_plain {d : D} (h : shp d = true) : d.plain = true := (Bool.and_eq_true_iff.mp h).1
theorem shp_depth {d : D} (h : shp d = true) : d.depth ≤ 60 := of_decide_eq_true (Bool.and_eq_true_iff.mp h).2
theorem shp_list {ds : List D} (h : shp (.list ds) = true) : PyData.plainAll ds = true := by have := shp_plain h; simpa only [PyData.plain] using this
theorem shp_tuple {ds : List D} (h : shp (.tuple ds) = true) : PyData.plainAll ds = true := by have := shp_plain h; simpa only [PyData.plain] using this
theorem shp_lists {ds : List D} (h : shp (.list ds) = true) : shp (.tuple ds) = true := by
  have h1 := shp_plain h
  have h2 := shp_depth h
  unfold shp
  rw [Bool.and_eq_true]
  refine ⟨?_, decide_eq_true ?_⟩
  · simp only [PyData.plain] at h1 ⊢; exact h1
  · simp only [PyData.depth] at h2 ⊢; exact h2
/-- a reading by data: of two values -/
def rD (X : Cx) (f : D → D → Option D) : R2 := fun x y H Q => ∃ W dx dy d, (∀ a, W a → H a ≠ none) ∧ RP (X.K, X.w) H W dx x ∧ RP (X.K, X.w) H W dy y ∧ f dx dy = some d ∧ ∀ v H', Same H H' → RN (X.K, X.w) H H' W d v → Q v H'
theorem opr_weak {f : Value → Value → Sem Value} {r r' : R2} (h : OpR X f r) (i : ∀ x y H Q, r' x y H Q → r x y H Q) : OpR X f r' := fun pins s σ H x y v u Q I rx ry q => h pins s σ H x y v u Q I rx ry (i x y H Q q)
theorem opr_none {f : Value → Value → Sem Value} {r' : R2} (i : ∀ x y H Q, r' x y H Q → False) : OpR X f r' := fun pins s σ H x y v u Q I rx ry q => (i x y H Q q).elim
theorem mulOk_or {i j : Int} (h : mulOk i j = true) : CMul i j ∨ CMulW i j := by
  unfold mulOk at h
  simp only [Bool.or_eq_true, Bool.and_eq_true, decide_eq_true_eq] at h
  rcases h with (h | h) | h
  · exact .inl (.inl h)
  · exact .inl (.inr h)
  · exact .inr h
/-- xs + ys of lists that are read -/
theorem op_catL : OpR X (binaryOp .Add) (fun x y H Q => ∃ l b xs zs, x = .ref l ∧ y = .ref b ∧ SqL X.K H l xs ∧ SqL X.K H b zs ∧ xs.length + zs.length ≤ sizeLine ∧ ∀ p, H p = none → Q (.ref p) (upd H p (.lst (xs ++ zs)))) := by
  intro pins s σ H x y v u Q I rx ry h
  obtain ⟨l, b, xs, zs, rfl, rfl, hH, hB, hz, q⟩ := h
  cases rx
  cases ry
  obtain ⟨its, r, ⟨⟨c1, d1, da1, s1⟩, n, ho, hc, hdn, hd⟩, z⟩ := I.list hH
  obtain ⟨its2, r2, ⟨⟨c2, d2, da2, s2⟩, n2, ho2, hc2, hdn2, hd2⟩, z2⟩ := I.list hB
  simp only at hc hdn hd hc2 hdn2 hd2
  subst hc hdn hd hc2 hdn2 hd2
  have hl := r.length
  have hl2 := r2.length
  have ea : its.toArray ++ its2.toArray = (its ++ its2).toArray := by simp
  refine concat_meets ⟨_, ho, rfl⟩ ⟨_, ho2, rfl⟩ noFill_list_add seq_list_add PySem.F.slot_list_add PySem.F.entry_list_add (PySem.F.args_list_add_2 _ _) (list_addW l b its.toArray its2.toArray n n2 none none s1 s2 (by simp; omega)) ⟨ho, ho2, ?_⟩
  rw [ea]
  exact ⟨.ref _, _, I.lnew (t' := s.toks) (r.append r2) (by rw [List.length_append]; omega), rfl, q _ I.fresh⟩
theorem binD_ok (op : Operator) : OpR X (binaryOp op) (rD X (binD op)) := by
  have none' : ∀ op', (∀ x y, binD op' x y = none) → OpR X (binaryOp op') (rD X (binD op')) := fun op' h => opr_none fun x y H Q ⟨W, dx, dy, d, _, _, _, e, _⟩ => by rw [h] at e; cases e
  cases op with
  | Add =>
    refine opr_weak (OpR.or op_add (OpR.or op_add_str (OpR.or op_catL op_catA))) fun x y H Q h => ?_
    obtain ⟨W, dx, dy, d, hW, h1, h2, e, q⟩ := h
    cases dx <;> cases dy <;> simp only [binD] at e <;> first | cases e | skip
    · refine .inl ⟨_, _, h1.int, h2.int, q _ H (Same.refl H) (RN.of (by simp only [R]) rfl)⟩
    · obtain ⟨g, e⟩ := guardP_some e
      cases e
      exact .inr (.inl ⟨_, _, h1.str, h2.str, szOk_le g, q _ H (Same.refl H) (RN.of (by simp only [R]) rfl)⟩)
    · obtain ⟨g, e⟩ := guardP_some e
      cases e
      obtain ⟨a, xs, rfl, s1, r1⟩ := h1.list
      obtain ⟨b, ys, rfl, s2, r2⟩ := h2.list
      refine .inr (.inr (.inl ⟨a, b, xs, ys, rfl, rfl, s1, s2, by rw [r1.length, r2.length]; exact szOk_le g, fun p hp => q _ _ (same_new hp) (RN.newLst hW hp (r1.append r2))⟩))
    · obtain ⟨g, e⟩ := guardP_some e
      cases e
      obtain ⟨a, xs, rfl, s1, r1⟩ := h1.tuple
      obtain ⟨b, ys, rfl, s2, r2⟩ := h2.tuple
      rename_i ds es
      refine .inr (.inr (.inr ⟨a, b, xs, ys, rfl, rfl, s1.sq, s2.sq, by rw [r1.length, r2.length]; exact szOk_le g, fun hx => ?_, fun _ hy => ?_, fun _ _ p hp => q _ _ (same_new hp) (RN.of (R.newTup hW hp (r1.append r2)) rfl)⟩))
      · subst hx
        refine q _ H (Same.refl H) (RN.of ?_ rfl)
        have : ds = [] := List.length_eq_zero_iff.mp (by rw [← r1.length]; rfl)
        subst this
        simp only [R, List.nil_append]
        exact ⟨b, ys, rfl, s2, r2⟩
      · subst hy
        refine q _ H (Same.refl H) (RN.of ?_ rfl)
        have : es = [] := List.length_eq_zero_iff.mp (by rw [← r2.length]; rfl)
        subst this
        simp only [R, List.append_nil]
        exact ⟨a, xs, rfl, s1, r1⟩
  | Sub =>
    refine opr_weak op_sub fun x y H Q h => ?_
    obtain ⟨W, dx, dy, d, hW, h1, h2, e, q⟩ := h
    cases dx <;> cases dy <;> simp only [binD] at e <;> first | cases e | skip
    exact ⟨_, _, h1.int, h2.int, q _ H (Same.refl H) (RN.of (by simp only [R]) rfl)⟩
  | Mult =>
    refine opr_weak (OpR.or op_mul op_mulW) fun x y H Q h => ?_
    obtain ⟨W, dx, dy, d, hW, h1, h2, e, q⟩ := h
    cases dx <;> cases dy <;> simp only [binD] at e <;> first | cases e | skip
    obtain ⟨g, e⟩ := guardP_some e
    cases e
    rcases mulOk_or g with g | g
    · exact .inl ⟨_, _, h1.int, h2.int, g, q _ H (Same.refl H) (RN.of (by simp only [R]) rfl)⟩
    · exact .inr ⟨_, _, h1.int, h2.int, g, q _ H (Same.refl H) (RN.of (by simp only [R]) rfl)⟩
  | FloorDiv =>
    refine opr_weak op_fdivW fun x y H Q h => ?_
    obtain ⟨W, dx, dy, d, hW, h1, h2, e, q⟩ := h
    cases dx <;> cases dy <;> simp only [binD] at e <;> first | cases e | skip
    obtain ⟨g, e⟩ := guardP_some e
    cases e
    simp only [Bool.and_eq_true, decide_eq_true_eq] at g
    exact ⟨_, _, h1.int, h2.int, g, q _ H (Same.refl H) (RN.of (by simp only [R]) rfl)⟩
  | Mod =>
    refine opr_weak op_mod fun x y H Q h => ?_
    obtain ⟨W, dx, dy, d, hW, h1, h2, e, q⟩ := h
    cases dx <;> cases dy <;> simp only [binD] at e <;> first | cases e | skip
    obtain ⟨g, e⟩ := guardP_some e
    cases e
    simp only [decide_eq_true_eq] at g
    exact ⟨_, _, h1.int, h2.int, g, q _ H (Same.refl H) (RN.of (by simp only [R]) rfl)⟩
  | Pow =>
    refine opr_weak op_pow fun x y H Q h => ?_
    obtain ⟨W, dx, dy, d, hW, h1, h2, e, q⟩ := h
    cases dx <;> cases dy <;> simp only [binD] at e <;> first | cases e | skip
    obtain ⟨g, e⟩ := guardP_some e
    cases e
    simp only [Bool.and_eq_true, decide_eq_true_eq] at g
    exact ⟨_, _, h1.int, h2.int, ⟨g.1.1, g.1.2, g.2⟩, q _ H (Same.refl H) (RN.of (by simp only [R]) rfl)⟩
  | LShift =>
    refine opr_weak op_shl fun x y H Q h => ?_
    obtain ⟨W, dx, dy, d, hW, h1, h2, e, q⟩ := h
    cases dx <;> cases dy <;> simp only [binD] at e <;> first | cases e | skip
    obtain ⟨g, e⟩ := guardP_some e
    cases e
    simp only [Bool.and_eq_true, decide_eq_true_eq] at g
    exact ⟨_, _, h1.int, h2.int, ⟨g.1.1, g.1.2, g.2⟩, q _ H (Same.refl H) (RN.of (by simp only [R]) rfl)⟩
  | RShift =>
    refine opr_weak op_shr fun x y H Q h => ?_
    obtain ⟨W, dx, dy, d, hW, h1, h2, e, q⟩ := h
    cases dx <;> cases dy <;> simp only [binD] at e <;> first | cases e | skip
    obtain ⟨g, e⟩ := guardP_some e
    cases e
    simp only [decide_eq_true_eq] at g
    exact ⟨_, _, h1.int, h2.int, g, q _ H (Same.refl H) (RN.of (by simp only [R]) rfl)⟩
  | BitAnd =>
    refine opr_weak op_and fun x y H Q h => ?_
    obtain ⟨W, dx, dy, d, hW, h1, h2, e, q⟩ := h
    cases dx <;> cases dy <;> simp only [binD] at e <;> first | cases e | skip
    exact ⟨_, _, h1.int, h2.int, q _ H (Same.refl H) (RN.of (by simp only [R]) rfl)⟩
  | BitOr =>
    refine opr_weak op_or fun x y H Q h => ?_
    obtain ⟨W, dx, dy, d, hW, h1, h2, e, q⟩ := h
    cases dx <;> cases dy <;> simp only [binD] at e <;> first | cases e | skip
    exact ⟨_, _, h1.int, h2.int, q _ H (Same.refl H) (RN.of (by simp only [R]) rfl)⟩
  | BitXor => exact none' _ fun x y => by cases x <;> cases y <;> rfl
  | MatMult => exact none' _ fun x y => by cases x <;> cases y <;> rfl
  | Div => exact none' _ fun x y => by cases x <;> cases y <;> rfl
end
end DI
set_option Elab.async false
set_option linter.all false
set_option maxRecDepth 100000
set_option maxHeartbeats 4000000
/-! dicts: keys, entries -/
namespace DI
open PySem PySem.Spec PyProof.Rows L2
def nkK : L2.Key → NestedKey
  | .inl i => .num i
  | .inr x => .text x
theorem nkK_inj {a b : L2.Key} (h : nkK a = nkK b) : a = b := by
  cases a <;> cases b <;> simp [nkK] at h <;> rw [h]
theorem keyS_nk {d : D} {k : L2.Key} (h : keyS d = some k) : nkOf d = nkK k := by
  cases d <;> simp [keyS] at h <;> subst h <;> rfl
section
variable {X : Cx} {pins : List (Addr × Obj)} {σ : L2.St} {H H' : Hp} {W W' : WS} {s : Shared} {k : Nat} {K : PySem.W.Frag × World}
mutual
theorem nested_of (I : Inv X pins σ H s) : ∀ (d : D) (v : V) (u : Value), nkOk d = true → R (X.K, X.w) H W d v → RelV v u → NestedIs s.heap (nkOf d) u
  | .int i, v, u, _, h, r => by
    simp only [R] at h; subst h
    obtain ⟨t, rfl⟩ := r
    simp only [nkOf]
    exact .int i t
  | .str x, v, u, _, h, r => by
    simp only [R] at h; subst h
    obtain ⟨t, rfl⟩ := r
    simp only [nkOf]
    exact .text x t
  | .tuple ds, v, u, p, h, r => by
    simp only [R] at h
    obtain ⟨a, xs, rfl, hs, ha⟩ := h
    cases r
    obtain ⟨its, rv, ⟨o, ho, hc, n, hd⟩, _⟩ := I.tuple hs.sq
    have hr := nested_ofs I ds xs its (by simpa only [nkOk] using p) ha rv
    simp only [nkOf]
    exact .tup ho hc hd (by simpa using hr)
  | .none, _, _, p, _, _ => by simp [nkOk] at p
  | .bool _, _, _, p, _, _ => by simp [nkOk] at p
  | .list _, _, _, p, _, _ => by simp [nkOk] at p
  | .dict _, _, _, p, _, _ => by simp [nkOk] at p
theorem nested_ofs (I : Inv X pins σ H s) : ∀ (ds : List D) (vs : List V) (us : List Value), nkOks ds = true → Rs (X.K, X.w) H W ds vs → Vals vs us → NestedAll s.heap (nksOf ds) us
  | [], vs, us, _, h, r => by
    simp only [Rs] at h; subst h
    cases r
    simp only [nksOf]
    exact .nil
  | d :: ds, vs, us, p, h, r => by
    simp only [Rs] at h
    obtain ⟨x, xr, rfl, h1, h2⟩ := h
    simp only [nkOks, Bool.and_eq_true] at p
    cases r with
    | cons r1 r2 =>
      simp only [nksOf]
      exact .cons (nested_of I d _ _ p.1 h1 r1) (nested_ofs I ds _ _ p.2 h2 r2)
end
theorem isKT_is (I : Inv X pins σ H s) {d : D} {v : V} {u : Value} (h : isKT d = true) (r : R (X.K, X.w) H W d v) (rv : RelV v u) : ∃ a, u = .ref a ∧ v = .ref a ∧ (nestedKind X.prog X.w).is s.heap (nkOf d) a := by
  cases d <;> simp only [isKT] at h <;> first | cases h | skip
  rename_i ds
  rw [Bool.and_eq_true] at h
  have n := nested_of I (.tuple ds) v u (by simpa only [nkOk] using h.1) r rv
  simp only [R] at r
  obtain ⟨a, xs, rfl, _⟩ := r
  cases rv
  exact ⟨a, rfl, rfl, n, by simpa using h.2⟩
theorem keyS_is {d : D} {k : L2.Key} {v : V} {u : Value} (h : keyS d = some k) (r : R K H W d v) (rv : RelV v u) : keyIs k u = true ∧ keyH K.2 k = (nkOf d).hash K.2 := by
  cases d <;> simp [keyS] at h <;> subst h <;> simp only [R] at r <;> subst r
  · obtain ⟨t, rfl⟩ := rv
    exact ⟨keyIs_int _ _, by simp [keyH, nkOf, NestedKey.hash]⟩
  · obtain ⟨t, rfl⟩ := rv
    exact ⟨keyIs_str _ _, by simp [keyH, nkOf, NestedKey.hash]⟩
/-- entries with keys by value -/
theorem re_scal {P : Program} : ∀ {kvs : List (D × D)} {es : List DictEntry}, Re K H W kvs es → kdS kvs = true → ∃ vs : List (L2.Key × Value), Pairs (mixKind P K.2) es vs ∧ (∀ e ∈ es, ∃ k, keyIs k e.key = true ∧ e.hash = keyH K.2 k) ∧ vs.map (fun p => nkK p.1) = nks kvs ∧
    Paired (fun (p : D × D) (q : L2.Key × Value) => nkOf p.1 = nkK q.1 ∧ ∃ y, RelV y q.2 ∧ R K H W p.2 y) kvs vs
  | [], es, h, _ => by
    simp only [Re] at h
    subst h
    exact ⟨[], .nil, fun e he => (List.not_mem_nil he).elim, rfl, .nil⟩
  | (kd, d) :: kvs, es, h, hs => by
    simp only [Re] at h
    obtain ⟨e, r, x, y, rfl, h1, h2, h3, h4, h5, h6⟩ := h
    simp only [kdS, List.all_cons, Bool.and_eq_true] at hs
    obtain ⟨k, hk⟩ := Option.isSome_iff_exists.mp hs.1
    obtain ⟨vs, q1, q2, q3, q4⟩ := re_scal (P := P) h6 hs.2
    obtain ⟨k1, k2⟩ := keyS_is hk h2 h1
    refine ⟨(k, e.val) :: vs, .cons k1 rfl q1, fun e' he => ?_, ?_, .cons ⟨keyS_nk hk, y, h4, h5⟩ q4⟩
    · rcases List.mem_cons.mp he with rfl | he
      · exact ⟨k, k1, h3.trans k2.symm⟩
      · exact q2 e' he
    · rw [List.map_cons, q3, keyS_nk hk |>.symm]
      rfl
theorem dict_scal {a : Addr} {o : Obj} {es : Array DictEntry} {ep : Nat} {kvs : List (D × D)} (ho : s.heap.get? a = some o) (hx : o.ExactDict) (hd : o.data = .dict es ep) (r : Re (X.K, X.w) H W kvs es.toList) (hs : kdS kvs = true) (hn : (nks kvs).Nodup) :
    ∃ vs : List (L2.Key × Value), s.heap.DictOf (mixKind X.prog X.w) a vs ∧ Paired (fun (p : D × D) (q : L2.Key × Value) => nkOf p.1 = nkK q.1 ∧ ∃ y, RelV y q.2 ∧ R (X.K, X.w) H W p.2 y) kvs vs := by
  obtain ⟨vs, q1, q2, q3, q4⟩ := re_scal (P := X.prog) r hs
  refine ⟨vs, ⟨o, es, ep, ho, hx, hd, fun e he => q2 e (by simpa using he), q1, ?_⟩, q4⟩
  have h2 : (vs.map fun p => nkK p.1).Nodup := by rw [q3]; exact hn
  exact List.Pairwise.of_map nkK (fun a b h e => h (by rw [e])) (show List.Pairwise (· ≠ ·) ((vs.map (·.1)).map nkK) by rw [List.map_map]; exact h2)
/-- entries whose keys are rows -/
theorem re_tup (I : Inv X pins σ H s) : ∀ {kvs : List (D × D)} {es : List DictEntry}, Re (X.K, X.w) H W kvs es → kdT kvs = true → ∃ xs : List (NestedKey × Addr × Value), es = xs.map (entryOfKey (nestedKind X.prog X.w)) ∧ (∀ x ∈ xs, (nestedKind X.prog X.w).is s.heap x.1 x.2.1) ∧ xs.map (·.1) = nks kvs ∧
    Paired (fun (p : D × D) (q : NestedKey × Addr × Value) => nkOf p.1 = q.1 ∧ R (X.K, X.w) H W p.1 (.ref q.2.1) ∧ ∃ y, RelV y q.2.2 ∧ R (X.K, X.w) H W p.2 y) kvs xs
  | [], es, h, _ => by
    simp only [Re] at h
    subst h
    exact ⟨[], rfl, fun x hx => (List.not_mem_nil hx).elim, rfl, .nil⟩
  | (kd, d) :: kvs, es, h, hs => by
    simp only [Re] at h
    obtain ⟨e, r, x, y, rfl, h1, h2, h3, h4, h5, h6⟩ := h
    simp only [kdT, List.all_cons, Bool.and_eq_true] at hs
    obtain ⟨xs, q1, q2, q3, q4⟩ := re_tup I h6 hs.2
    obtain ⟨a, ea, ex, hk⟩ := isKT_is I hs.1 h2 h1
    subst ex
    refine ⟨(nkOf kd, a, e.val) :: xs, ?_, fun z hz => ?_, by rw [List.map_cons, q3]; rfl, .cons ⟨rfl, h2, y, h4, h5⟩ q4⟩
    · rw [List.map_cons, ← q1]
      have : e = entryOfKey (nestedKind X.prog X.w) (nkOf kd, a, e.val) := by
        cases e
        simp only at ea h3
        subst ea h3
        rfl
      rw [← this]
    · rcases List.mem_cons.mp hz with rfl | hz
      · exact hk
      · exact q2 z hz
theorem dict_tup (I : Inv X pins σ H s) {a : Addr} {o : Obj} {es : Array DictEntry} {ep : Nat} {kvs : List (D × D)} (ho : s.heap.get? a = some o) (hx : o.ExactDict) (hd : o.data = .dict es ep) (r : Re (X.K, X.w) H W kvs es.toList) (hs : kdT kvs = true) (hn : (nks kvs).Nodup) :
    ∃ xs : List (NestedKey × Addr × Value), s.heap.DictOfH (nestedKind X.prog X.w) a xs ∧ Paired (fun (p : D × D) (q : NestedKey × Addr × Value) => nkOf p.1 = q.1 ∧ R (X.K, X.w) H W p.1 (.ref q.2.1) ∧ ∃ y, RelV y q.2.2 ∧ R (X.K, X.w) H W p.2 y) kvs xs := by
  obtain ⟨xs, q1, q2, q3, q4⟩ := re_tup I r hs
  exact ⟨xs, ⟨o, es, ep, ho, hx, hd, q1, q2, by rw [q3]; exact hn⟩, q4⟩
/-! what a key leads to -/
def RelD (K : PySem.W.Frag × World) (H : Hp) (W : WS) : Option D → Option Value → Prop
  | some d, some u => ∃ y, RelV y u ∧ R K H W d y
  | none, none => True
  | _, _ => False
theorem find_scal : ∀ {kvs : List (D × D)} {vs : List (L2.Key × Value)}, Paired (fun (p : D × D) (q : L2.Key × Value) => nkOf p.1 = nkK q.1 ∧ ∃ y, RelV y q.2 ∧ R K H W p.2 y) kvs vs → ∀ k : L2.Key, RelD K H W (getN kvs (nkK k)) (valueAt vs k)
  | [], [], .nil, k => trivial
  | p :: kvs, q :: vs, .cons h t, k => by
    unfold getN valueAt
    rw [List.find?_cons, List.find?_cons, h.1]
    by_cases e : q.1 = k
    · rw [e]
      simp only [decide_true, Option.map_some]
      exact h.2
    · have e2 : ¬ nkK q.1 = nkK k := fun z => e (nkK_inj z)
      simp only [e, e2, decide_false]
      exact find_scal t k
theorem find_tup : ∀ {kvs : List (D × D)} {xs : List (NestedKey × Addr × Value)}, Paired (fun (p : D × D) (q : NestedKey × Addr × Value) => nkOf p.1 = q.1 ∧ R K H W p.1 (.ref q.2.1) ∧ ∃ y, RelV y q.2.2 ∧ R K H W p.2 y) kvs xs → ∀ k : NestedKey, RelD K H W (getN kvs k) ((atKey xs k).map (·.2))
  | [], [], .nil, k => trivial
  | p :: kvs, q :: xs, .cons h t, k => by
    unfold getN atKey
    rw [List.find?_cons, List.find?_cons, h.1]
    by_cases e : q.1 = k
    · rw [e]
      simp only [decide_true, Option.map_some]
      exact h.2.2
    · simp only [e, decide_false]
      exact find_tup t k
/-! behind a store -/
theorem pair_key {P : Program} {w : World} {k : L2.Key} {u : Value} (h : (mixKind P w).is k u = true) {d : D} (hd : nkOf d = nkK k) (hs : (keyS d).isSome = true) : ∃ x, RelV x u ∧ ∀ K H W, R K H W d x := by
  obtain ⟨k', hk⟩ := Option.isSome_iff_exists.mp hs
  have hkk : k' = k := nkK_inj ((keyS_nk hk).symm.trans hd)
  subst hkk
  rcases keyIs_shape h with ⟨i, t, e1, e2⟩ | ⟨x, t, e1, e2⟩
  · cases d <;> simp [keyS] at hk <;> subst hk <;> cases e1
    subst e2
    exact ⟨.int _, ⟨t, rfl⟩, fun K H W => by simp only [R]⟩
  · cases d <;> simp [keyS] at hk <;> subst hk <;> cases e1
    subst e2
    exact ⟨.str _, ⟨t, rfl⟩, fun K H W => by simp only [R]⟩
/-- the entries of a dict with keys by value -/
theorem re_back {P : Program} : ∀ {kvs : List (D × D)} {vs : List (L2.Key × Value)} {es : List DictEntry}, Pairs (mixKind P K.2) es vs → (∀ e ∈ es, ∃ k, keyIs k e.key = true ∧ e.hash = keyH K.2 k) → kdS kvs = true →
    Paired (fun (p : D × D) (q : L2.Key × Value) => nkOf p.1 = nkK q.1 ∧ ∃ y, RelV y q.2 ∧ R K H W p.2 y) kvs vs → Re K H W kvs es
  | [], [], _, .nil, _, _, .nil => by simp [Re]
  | (kd, d) :: kvs, (q, u) :: vs, _, .cons h1 h2 h3, hk, hs, .cons h t => by
    simp only [kdS, List.all_cons, Bool.and_eq_true] at hs
    rename_i e es
    obtain ⟨x, rx, hR⟩ := pair_key h1 h.1 hs.1
    obtain ⟨k', k1, k2⟩ := hk e List.mem_cons_self
    have : k' = q := (mixKind P K.2).inj e.key k' q k1 h1
    subst this
    obtain ⟨y, ry, hy⟩ := h.2
    have ih := re_back h3 (fun e' he => hk e' (List.mem_cons_of_mem _ he)) hs.2 t
    simp only [Re]
    refine ⟨e, es, x, y, rfl, rx, hR _ _ _, ?_, by rw [h2]; exact ry, hy, ih⟩
    rw [k2]
    obtain ⟨kk, hkk⟩ := Option.isSome_iff_exists.mp hs.1
    have := keyS_is (K := K) (H := H) (W := W) hkk (hR K H W) rx
    rw [← this.2]
    have e3 : kk = k' := nkK_inj ((keyS_nk hkk).symm.trans h.1)
    rw [e3]
theorem RP.dict {kvs : List (D × D)} {v : V} (h : RP K H W (.dict kvs) v) : ∃ a o es ep, v = .ref a ∧ H a = some (.ext fun h => h.get? a = some o) ∧ (a == sysModules) = false ∧ o.ExactDict ∧ o.data = .dict es ep ∧ Re K H W kvs es.toList ∧ dOk kvs = true := by
  rcases h with h | ⟨a, e, h⟩
  · simp only [R] at h
    obtain ⟨a, o, es, ep, e, h1, n, h2, h3, h4, r, hk⟩ := h
    exact ⟨a, o, es, ep, e, h1, h2, h3, h4, r, hk⟩
  · simp only [OwnAt] at h
    obtain ⟨o, es, ep, h1, h2, h3, h4, r, hk⟩ := h
    exact ⟨a, o, es, ep, e, h1, h2, h3, h4, r, hk⟩
theorem RP.key {kvs : List (D × D)} {d : D} {v : V} (h : RP K H W d v) (hk : keyFit kvs d = true) : R K H W d v := by
  rcases h with h | ⟨a, e, h⟩
  · exact h
  · cases d <;> simp only [OwnAt] at h
    · simp [keyFit, keyS, isKT] at hk
    · simp [keyFit, keyS, isKT] at hk
theorem dOk_nd {kvs : List (D × D)} (h : dOk kvs = true) : (nks kvs).Nodup ∧ kvs.length ≤ 16777216 := by
  unfold dOk at h
  simp only [Bool.and_eq_true, decide_eq_true_eq] at h
  exact h.2
/-- a dict and a key: by value, or a row -/
inductive DView (X : Cx) (s : Shared) (H : Hp) (W : WS) (kvs : List (D × D)) (a : Addr) (kd : D) (u : Value) : Prop where
  | scal (vs : List (L2.Key × Value)) (k : L2.Key) (h1 : s.heap.DictOf (mixKind X.prog X.w) a vs) (h2 : keyIs k u = true) (h3 : nkOf kd = nkK k) (h4 : Paired (fun (p : D × D) (q : L2.Key × Value) => nkOf p.1 = nkK q.1 ∧ ∃ y, RelV y q.2 ∧ R (X.K, X.w) H W p.2 y) kvs vs) (h5 : kdS kvs = true) (h6 : (keyS kd).isSome = true)
  | tup (xs : List (NestedKey × Addr × Value)) (b : Addr) (h1 : s.heap.DictOfH (nestedKind X.prog X.w) a xs) (h2 : u = .ref b) (h3 : (nestedKind X.prog X.w).is s.heap (nkOf kd) b) (h4 : Paired (fun (p : D × D) (q : NestedKey × Addr × Value) => nkOf p.1 = q.1 ∧ R (X.K, X.w) H W p.1 (.ref q.2.1) ∧ ∃ y, RelV y q.2.2 ∧ R (X.K, X.w) H W p.2 y) kvs xs) (h5 : kdT kvs = true) (h6 : isKT kd = true)
theorem dview (I : Inv X pins σ H s) {kvs : List (D × D)} {a : Addr} {o : Obj} {es : Array DictEntry} {ep : Nat} {kd : D} {x : V} {u : Value} (e : H a = some (.ext fun h => h.get? a = some o)) (hx : o.ExactDict) (hd : o.data = .dict es ep) (r : Re (X.K, X.w) H W kvs es.toList) (ok : dOk kvs = true) (hf : keyFit kvs kd = true) (rk : R (X.K, X.w) H W kd x) (rv : RelV x u) :
    DView X s H W kvs a kd u := by
  have ho : s.heap.get? a = some o := (I.hok a _ e).1
  have nd := (dOk_nd ok).1
  unfold keyFit at hf
  simp only [Bool.or_eq_true, Bool.and_eq_true] at hf
  rcases hf with ⟨h1, h2⟩ | ⟨h1, h2⟩
  · obtain ⟨k, hk⟩ := Option.isSome_iff_exists.mp h1
    obtain ⟨vs, q1, q2⟩ := dict_scal ho hx hd r h2 nd
    exact .scal vs k q1 (keyS_is hk rk rv).1 (keyS_nk hk) q2 h2 h1
  · obtain ⟨xs, q1, q2⟩ := dict_tup I ho hx hd r h2 nd
    obtain ⟨b, e1, e2, e3⟩ := isKT_is I h1 rk rv
    exact .tup xs b q1 e1 e3 q2 h2 h1
theorem room_n {A : Around} (hu : A.units + 70 < cLine) : (nestedKind X.prog X.w).room A.in1 := by
  show A.units + 1 + 8 < cLine
  omega
/-- k in d -/
theorem d_inD (hu : X.A.units + 70 < cLine) {neg : Bool} (I : Inv X pins σ H s) {kvs : List (D × D)} {kd : D} {x y : V} {u v : Value} {Q : VK} (hd : RP (X.K, X.w) H W (.dict kvs) y) (hk : RP (X.K, X.w) H W kd x) (hf : keyFit kvs kd = true) (rx : RelV x u) (ry : RelV y v)
    (q : Q (.bl (if neg = true then !(getN kvs (nkOf kd)).isSome else (getN kvs (nkOf kd)).isSome)) H) : wpAny (model X.prog X.w) X.A (compareOp (if neg = true then .NotIn else .In) u v) (EP X pins σ Q) X.xe s := by
  obtain ⟨a, o, es, ep, rfl, e, hs, hx, hdt, r, ok⟩ := hd.dict
  cases ry
  have V := dview I e hx hdt r ok hf (hk.key hf) rx
  cases V with
  | scal vs k h1 h2 h3 h4 h5 h6 =>
    have f := find_scal h4 k
    rw [← h3] at f
    have e1 : (valueAt vs k).isSome = (getN kvs (nkOf kd)).isSome := by
      revert f
      cases getN kvs (nkOf kd) <;> cases valueAt vs k <;> simp [RelD]
    cases neg with
    | true => exact wpAny_notIn_of (knd := mixKind X.prog X.w) h2 hs h1.mapOf ⟨.bl _, H, I.tok _, rfl, by rw [e1]; exact q⟩
    | false => exact wpAny_in_of (knd := mixKind X.prog X.w) h2 hs h1.mapOf ⟨.bl _, H, I.tok _, rfl, by rw [e1]; exact q⟩
  | tup xs b h1 h2 h3 h4 h5 h6 =>
    subst h2
    have f := find_tup h4 (nkOf kd)
    have e1 : (atKey xs (nkOf kd)).isSome = (getN kvs (nkOf kd)).isSome := by
      revert f
      cases getN kvs (nkOf kd) <;> cases atKey xs (nkOf kd) <;> simp [RelD]
    cases neg with
    | true => exact wpAny_notIn_heap (room_n hu) h3 hs h1 ⟨.bl _, H, I.tok _, rfl, by rw [e1]; exact q⟩
    | false => exact wpAny_in_heap (room_n hu) h3 hs h1 ⟨.bl _, H, I.tok _, rfl, by rw [e1]; exact q⟩
/-- d[k] -/
theorem d_ixD (hu : X.A.units + 70 < cLine) {value slice : Expr} (I : Inv X pins σ H s) {kvs : List (D × D)} {kd d : D} {x y : V} {u v : Value} {Q : VK} (hd : RP (X.K, X.w) H W (.dict kvs) x) (hk : RP (X.K, X.w) H W kd y) (hf : keyFit kvs kd = true) (hg : getN kvs (nkOf kd) = some d) (rx : RelV x v) (ry : RelV y u)
    (hsub : subscripted slice false v u = operate [v, u] (getItem v u)) (q : ∀ z, R (X.K, X.w) H W d z → Q z H) : wpAny (model X.prog X.w) X.A (subscriptTail value slice v u) (EP X pins σ Q) X.xe s := by
  obtain ⟨a, o, es, ep, rfl, e, hs, hx, hdt, r, ok⟩ := hd.dict
  cases rx
  have V := dview I e hx hdt r ok hf (hk.key hf) ry
  cases V with
  | scal vs k h1 h2 h3 h4 h5 h6 =>
    have f := find_scal h4 k
    rw [← h3, hg] at f
    cases hv : valueAt vs k with
    | none => rw [hv] at f; exact f.elim
    | some w =>
      rw [hv] at f
      obtain ⟨z, rz, hz⟩ := f
      exact subscriptTail_builtinR (x := w) h1.typeIs PySem.F.slot_dict_getitem.lookup (wpAny_getItem_of (knd := mixKind X.prog X.w) h2 h1.mapOf hv ⟨rfl, z, H, I.tok _, rz, q z hz⟩) hsub
  | tup xs b h1 h2 h3 h4 h5 h6 =>
    subst h2
    have f := find_tup h4 (nkOf kd)
    rw [hg] at f
    cases hv : atKey xs (nkOf kd) with
    | none => rw [hv] at f; exact f.elim
    | some w =>
      rw [hv] at f
      obtain ⟨z, rz, hz⟩ := f
      exact subscriptTail_builtinR (x := w.2) h1.typeIs PySem.F.slot_dict_getitem.lookup (wpAny_getItem_heap (room_n hu) h3 h1 hv ⟨rfl, z, H, I.tok _, rz, q z hz⟩) hsub
theorem dview_ty {kvs : List (D × D)} {a : Addr} {kd : D} {u : Value} (V : DView X s H W kvs a kd u) : s.TypeIs (.ref a) "dict" := by
  cases V with
  | scal vs k h1 h2 h3 h4 h5 h6 => exact h1.typeIs
  | tup xs b h1 h2 h3 h4 h5 h6 => exact h1.typeIs
/-- an exact dict at a: what a method's call looks at -/
theorem dict_ty (I : Inv X pins σ H s) {a : Addr} {o : Obj} (e : H a = some (.ext fun h => h.get? a = some o)) (hx : o.ExactDict) : s.TypeIs (.ref a) "dict" ∧ ∀ b, Value.ref a = .ref b → ∃ ob, s.heap.get? b = some ob ∧ ob.dict = none := by
  have ho : s.heap.get? a = some o := (I.hok a _ e).1
  exact ⟨⟨o, ho, hx.1⟩, fun b q => by cases q; exact ⟨o, ho, hx.2.1⟩⟩
/-- d.get(k) -/
theorem d_get1D (hu : X.A.units + 70 < cLine) (I : Inv X pins σ H s) {kvs : List (D × D)} {kd : D} {x y : V} {u v : Value} {Q : VK} (hd : RP (X.K, X.w) H W (.dict kvs) x) (hk : R (X.K, X.w) H W kd y) (hf : keyFit kvs kd = true) (rx : RelV x v) (ry : RelV y u)
    (q : ∀ z, R (X.K, X.w) H W ((getN kvs (nkOf kd)).getD .none) z → Q z H) : wpAny (model X.prog X.w) X.A (call (.builtin "dict.get") [v, u]) (EP X pins σ Q) X.xe s := by
  obtain ⟨a, o, es, ep, rfl, e, hs, hx, hdt, r, ok⟩ := hd.dict
  cases rx
  have V := dview I e hx hdt r ok hf hk ry
  have nn : R (X.K, X.w) H W .none .non := by simp only [R]
  cases V with
  | scal vs k h1 h2 h3 h4 h5 h6 =>
    have f := find_scal h4 k
    rw [← h3] at f
    refine call_meetsIn PySem.F.slot_dict_get h1.typeIs PySem.F.entry_dict_get (PySem.F.args_dict_get_2 _ _) (meets_dict_get (mixKind X.prog X.w) a h2 hs) ⟨_, h1.mapOf, ?_⟩
    cases hg : getN kvs (nkOf kd) <;> cases hv : valueAt vs k <;> rw [hg, hv] at f <;> first | exact f.elim | skip
    · rw [hg] at q
      exact ⟨.non, H, I.tok _, rfl, q _ nn⟩
    · rw [hg] at q
      obtain ⟨z, rz, hz⟩ := f
      exact ⟨z, H, I.tok _, rz, q z hz⟩
  | tup xs b h1 h2 h3 h4 h5 h6 =>
    subst h2
    have f := find_tup h4 (nkOf kd)
    refine call_meetsIn PySem.F.slot_dict_get h1.typeIs PySem.F.entry_dict_get (PySem.F.args_dict_get_2 _ _) (meetsH_dict_get (nestedKind X.prog X.w) a b hs) ⟨room_n hu, nkOf kd, xs, h3, h1, ?_⟩
    cases hg : getN kvs (nkOf kd) <;> cases hv : (atKey xs (nkOf kd)).map (·.2) <;> rw [hg, hv] at f <;> first | exact f.elim | skip
    · rw [hg] at q
      exact ⟨.non, H, I.tok _, rfl, q _ nn⟩
    · rw [hg] at q
      obtain ⟨z, rz, hz⟩ := f
      exact ⟨z, H, I.tok _, rz, q z hz⟩
/-- d.get(k, x) -/
theorem d_get2D (hu : X.A.units + 70 < cLine) (I : Inv X pins σ H s) {kvs : List (D × D)} {kd dd : D} {x y t : V} {u v w : Value} {Q : VK} (hd : RP (X.K, X.w) H W (.dict kvs) x) (hk : R (X.K, X.w) H W kd y) (ht : R (X.K, X.w) H W dd t) (hf : keyFit kvs kd = true) (rx : RelV x v) (ry : RelV y u) (rt : RelV t w)
    (q : ∀ z, R (X.K, X.w) H W ((getN kvs (nkOf kd)).getD dd) z → Q z H) : wpAny (model X.prog X.w) X.A (call (.builtin "dict.get") [v, u, w]) (EP X pins σ Q) X.xe s := by
  obtain ⟨a, o, es, ep, rfl, e, hs, hx, hdt, r, ok⟩ := hd.dict
  cases rx
  have V := dview I e hx hdt r ok hf hk ry
  cases V with
  | scal vs k h1 h2 h3 h4 h5 h6 =>
    have f := find_scal h4 k
    rw [← h3] at f
    refine call_meetsIn PySem.F.slot_dict_get h1.typeIs PySem.F.entry_dict_get (PySem.F.args_dict_get_3 _ _ _) (meets_dict_get_default (mixKind X.prog X.w) a h2 hs w) ⟨_, h1.mapOf, ?_⟩
    cases hg : getN kvs (nkOf kd) <;> cases hv : valueAt vs k <;> rw [hg, hv] at f <;> first | exact f.elim | skip
    · rw [hg] at q
      exact ⟨t, H, I.tok _, rt, q t ht⟩
    · rw [hg] at q
      obtain ⟨z, rz, hz⟩ := f
      exact ⟨z, H, I.tok _, rz, q z hz⟩
  | tup xs b h1 h2 h3 h4 h5 h6 =>
    subst h2
    have f := find_tup h4 (nkOf kd)
    refine call_meetsIn PySem.F.slot_dict_get h1.typeIs PySem.F.entry_dict_get (PySem.F.args_dict_get_3 _ _ _) (meetsH_dict_get_default (nestedKind X.prog X.w) a b hs w) ⟨room_n hu, nkOf kd, xs, h3, h1, ?_⟩
    cases hg : getN kvs (nkOf kd) <;> cases hv : (atKey xs (nkOf kd)).map (·.2) <;> rw [hg, hv] at f <;> first | exact f.elim | skip
    · rw [hg] at q
      exact ⟨t, H, I.tok _, rt, q t ht⟩
    · rw [hg] at q
      obtain ⟨z, rz, hz⟩ := f
      exact ⟨z, H, I.tok _, rz, q z hz⟩
end
end DI
set_option Elab.async false
set_option linter.all false
set_option maxRecDepth 100000
set_option maxHeartbeats 4000000
/-! lists and dicts within one another: alike or not -/
namespace DI
open PySem PySem.Spec PyProof.Rows L2
open PySem.SeqAt (EqIn EqAt)
open PySem.W (EqTree)
open AutoSeq1 (wpAny_loadPart')
open MeetsSeq MeetsSeq2 MeetsSeq3 SeqRoads2
section
variable {P : Program} {w : World}
/-- the loop of xs != ys -/
theorem neI_loop (p q : Addr) (us vs : Array Value) (m m2 : Nat) (d1 d2 : Option Addr) (t1 t2 : Array (Option Value)) (hz : us.size = vs.size) (f : Nat → Bool) (c : Nat) :
    ∀ i : Nat, us.size - i = c → MeetsIn P w (Builtin.«list.__eq__.loop» ⟨[.ref p, .ref q, rawInt i, rawInt 3], []⟩)
      (fun A R s => s.heap.get? p = some { cls := .type "list", dict := d1, data := .seq us m, slots := t1 } ∧ s.heap.get? q = some { cls := .type "list", dict := d2, data := .seq vs m2, slots := t2 } ∧
        (∀ j (g1 : j < us.size) (g2 : j < vs.size), EqIn P w A.in1 s us[j] vs[j] (f j)) ∧ R (.ok (.ret (.bool (!((List.range us.size).drop i).all f)))) s) := by
  induction c with
  | zero =>
    intro i hi A R s ⟨hp, hq, hf, h⟩
    obtain ⟨hp0, g0, k0, tk0, os0⟩ := s
    wp_walk using wpAny_loadPart' hp, wpAny_loadPart' hq
    have n1 : us[((i : Nat) : Int).toNat]? = none := by simp; omega
    have n2 : vs[((i : Nat) : Int).toNat]? = none := by simp; omega
    have n3 : (List.range us.size).drop i = [] := by simp; omega
    rw [n3] at h
    rw [n1, n2]
    wp_walk using wpAny_loadPart' hp, wpAny_loadPart' hq
    show R (.ok (.ret (.bool (us.size != vs.size)))) _
    rw [hz]
    simpa using h
  | succ c ih =>
    intro i hi A R s ⟨hp, hq, hf, h⟩
    obtain ⟨hp0, g0, k0, tk0, os0⟩ := s
    wp_walk using wpAny_loadPart' hp, wpAny_loadPart' hq
    have l1 : i < us.size := by omega
    have l2 : i < vs.size := by omega
    have n1 : us[((i : Nat) : Int).toNat]? = some us[i] := by simp [l1]
    have n2 : vs[((i : Nat) : Int).toNat]? = some vs[i] := by simp [l2]
    have n3 : (List.range us.size).drop i = i :: (List.range us.size).drop (i + 1) := by simp [List.drop_eq_getElem_cons, l1]
    have n4 : ((i : Int) + 1) = ((i + 1 : Nat) : Int) := by push_cast; rfl
    rw [n3, List.all_cons] at h
    rw [n1, n2]
    refine wpAny_bind (hf i l1 l2 _ _ ?_)
    cases e : f i with
    | true =>
      rw [e] at h
      wp_walk
      rw [n4]
      refine ⟨plainId_quiet plain_eq_loop _, codeAny_builtin entry_eq_loop ?_⟩
      rw [Around.under_plainId plain_eq_loop _]
      exact ih (i + 1) (by omega) A R _ ⟨hp, hq, hf, by simpa using h⟩
    | false =>
      rw [e] at h
      wp_walk using wpAny_loadPart' hp, wpAny_loadPart' hq
      rw [n1, n2]
      wp_walk
      simpa using h
theorem neI_list (p q : Addr) (us vs : Array Value) (m m2 : Nat) (d1 d2 : Option Addr) (t1 t2 : Array (Option Value)) (hz : us.size = vs.size) (f : Nat → Bool) :
    MeetsIn P w (Builtin.«list.__ne__» ⟨[.ref p, .ref q], []⟩)
      (fun A R s => s.heap.get? p = some { cls := .type "list", dict := d1, data := .seq us m, slots := t1 } ∧ s.heap.get? q = some { cls := .type "list", dict := d2, data := .seq vs m2, slots := t2 } ∧
        (∀ j (g1 : j < us.size) (g2 : j < vs.size), EqIn P w A.in1 s us[j] vs[j] (f j)) ∧ R (.ok (.ret (.bool (!(List.range us.size).all f)))) s) := by
  intro A R s ⟨hp, hq, hf, h⟩
  obtain ⟨hp0, g0, k0, tk0, os0⟩ := s
  have z1 := AutoSeq1.sub_list_list
  have z2 : ¬ (us.size != vs.size) = true := by simp [hz]
  wp_walk using wpAny_loadPart' hp, wpAny_loadPart' hq
  refine ⟨plainId_quiet plain_eq_loop _, codeAny_builtin entry_eq_loop ?_⟩
  rw [Around.under_plainId plain_eq_loop _]
  exact neI_loop p q us vs m m2 d1 d2 t1 t2 hz f _ 0 rfl A R _ ⟨hp, hq, hf, by simpa using h⟩
theorem neI {A : Around} {E : Value → Shared → Prop} {s : Shared} {p q : Addr} {us vs : Array Value} {f : Nat → Bool} {Q : Value → Shared → Prop} (hp : s.heap.IsList p us) (hq : s.heap.IsList q vs) (hz : us.size = vs.size) (hu : A.units < cLine)
    (hf : ∀ j (g1 : j < us.size) (g2 : j < vs.size), EqIn P w A.in1 s us[j] vs[j] (f j)) (h : Q (.bool (!(List.range us.size).all f)) s) : wpAny (model P w) A (richCompare .NotEq (.ref p) (.ref q)) Q E s := by
  obtain ⟨⟨c1, d1, a1, t1⟩, o1, e1, m, b1⟩ := id hp
  obtain ⟨⟨c2, d2, a2, t2⟩, o2, e2, m2, b2⟩ := id hq
  simp only at e1 b1 e2 b2
  subst e1 b1 e2 b2
  exact wpAny_richCompare_same_room (T := "list") (op := .NotEq) ⟨_, o1, rfl⟩ ⟨_, o2, rfl⟩ F.slot_list_ne (call_meetsIn F.slot_list_ne ⟨_, o1, rfl⟩ F.entry_list_ne (F.args_list_ne_2 _ _) (neI_list p q us vs m m2 d1 d2 t1 t2 hz f)
    ⟨o1, o2, hf, (fun x => nomatch x), h⟩) hu
end
theorem allO_some : ∀ {l : List (Option Bool)} {b : Bool}, allO l = some b → (∀ x ∈ l, ∃ c, x = some c) ∧ b = l.all fun x => x.getD false
  | [], b, h => by cases h; exact ⟨fun x hx => (List.not_mem_nil hx).elim, rfl⟩
  | none :: l, b, h => by cases h
  | some c :: l, b, h => by
    simp only [allO] at h
    obtain ⟨b', h1, h2⟩ := Option.map_eq_some_iff.mp h
    obtain ⟨q1, q2⟩ := allO_some h1
    refine ⟨fun x hx => ?_, by rw [← h2, q2]; rfl⟩
    rcases List.mem_cons.mp hx with rfl | hx
    · exact ⟨c, rfl⟩
    · exact q1 x hx
theorem get_place : ∀ {kvs : List (D × D)} {m : NestedKey} {d : D}, getN kvs m = some d → ∃ (n : Nat) (k : D), kvs[n]? = some (k, d) ∧ nkOf k = m
  | [], m, d, h => by simp [getN] at h
  | p :: kvs, m, d, h => by
    unfold getN at h
    rw [List.find?_cons] at h
    by_cases e : nkOf p.1 = m
    · simp [e] at h
      exact ⟨0, p.1, by simp [← h], e⟩
    · simp only [e, decide_false] at h
      obtain ⟨n, k, q1, q2⟩ := get_place (kvs := kvs) (m := m) (d := d) h
      exact ⟨n + 1, k, by simpa using q1, q2⟩
theorem place_get {kvs : List (D × D)} (hn : (nks kvs).Nodup) : ∀ {n : Nat} {k d : D}, kvs[n]? = some (k, d) → getN kvs (nkOf k) = some d := by
  induction kvs with
  | nil => intro n k d h; simp at h
  | cons p kvs ih =>
    intro n k d h
    simp only [nks, List.map_cons, List.nodup_cons] at hn
    unfold getN
    rw [List.find?_cons]
    cases n with
    | zero =>
      simp at h
      subst h
      simp
    | succ n =>
      have h' : kvs[n]? = some (k, d) := by simpa using h
      have hne : nkOf p.1 ≠ nkOf k := fun z => hn.1 (List.mem_map.mpr ⟨(k, d), List.mem_of_getElem? h', z.symm⟩)
      have := ih hn.2 h'
      unfold getN at this
      simp [hne, this]
section
variable {X : Cx} {pins : List (Addr × Obj)} {σ : L2.St} {H : Hp} {W : WS} {s : Shared}
theorem re_at : ∀ {kvs : List (D × D)} {es : List DictEntry}, Re (X.K, X.w) H W kvs es → es.length = kvs.length ∧ ∀ (n : Nat) (k d : D), kvs[n]? = some (k, d) → ∃ e x y, es[n]? = some e ∧ RelV x e.key ∧ R (X.K, X.w) H W k x ∧ RelV y e.val ∧ R (X.K, X.w) H W d y
  | [], es, h => by
    simp only [Re] at h
    subst h
    exact ⟨rfl, fun n k d e => by simp at e⟩
  | (k, d) :: kvs, es, h => by
    simp only [Re] at h
    obtain ⟨e, r, x, y, rfl, h1, h2, h3, h4, h5, h6⟩ := h
    obtain ⟨q1, q2⟩ := re_at h6
    refine ⟨by simp [q1], fun n k' d' en => ?_⟩
    cases n with
    | zero => simp at en; obtain ⟨rfl, rfl⟩ := en; exact ⟨e, x, y, rfl, h1, h2, h4, h5⟩
    | succ n => obtain ⟨e', x', y', g⟩ := q2 n k' d' (by simpa using en); exact ⟨e', x', y', by simpa using g.1, g.2⟩
theorem relV_one {x y : V} {u : Value} (a : L2.RelV x u) (b : L2.RelV y u) : x = y := L2.RelV.inj a b
theorem vals_one {xs : List V} {us : List Value} (a : Vals xs us) : ∀ {ys : List V}, Vals ys us → xs = ys := by
  induction a with
  | nil => intro ys b; cases b; rfl
  | cons h t ih =>
    intro ys b
    cases b with
    | cons h' t' => rw [relV_one h h', ih t']
theorem key_one {k k' : D} {v : V} (h : (keyS k).isSome = true) (h' : (keyS k').isSome = true) (r : R (X.K, X.w) H W k v) (r' : R (X.K, X.w) H W k' v) : nkOf k = nkOf k' := by
  cases k <;> simp [keyS] at h <;> cases k' <;> simp [keyS] at h' <;> simp only [R] at r r' <;> subst r <;> cases r' <;> rfl
/-- one thing read in two ways is alike -/
theorem eqN_same (I : Inv X pins σ H s) : ∀ (n : Nat) (dx dy : D) (x : V) (u : Value) (b : Bool), R (X.K, X.w) H W dx x → R (X.K, X.w) H W dy x → RelV x u → eqN n dx dy = some b → b = true := by
  have leaf : ∀ (dx dy : D) (x : V) (u : Value), (shp dx && shp dy) = true → R (X.K, X.w) H W dx x → R (X.K, X.w) H W dy x → RelV x u → PyData.eqv dx dy = true := fun dx dy x u g rx ry ru => by
    rw [Bool.and_eq_true] at g
    obtain ⟨as, r1⟩ := R.reads I dx x u (shp_plain g.1) rx ru
    obtain ⟨bs, r2⟩ := R.reads I dy x u (shp_plain g.2) ry ru
    rw [← PySem.SeqAt.plain_unique dx dy u as bs (shp_plain g.1) r1 r2]
    exact PySem.SeqAt.eqv_refl_plain dx (shp_plain g.1)
  intro n
  induction n with
  | zero =>
    intro dx dy x u b rx ry ru e
    simp only [eqN] at e
    obtain ⟨g, e⟩ := guardP_some e
    cases e
    exact leaf dx dy x u g rx ry ru
  | succ n ih =>
    intro dx dy x u b rx ry ru e
    simp only [eqN] at e
    split at e
    · rename_i g
      cases e
      exact leaf dx dy x u g rx ry ru
    · rename_i hns
      split at e
      · rename_i xs ys
        simp only [R] at rx ry
        obtain ⟨a, vs, rfl, l1, r1⟩ := rx
        obtain ⟨a', vs', e', l2, r2⟩ := ry
        cases e'
        obtain ⟨its, q1, ⟨o, m, q2, q3, q4, q5⟩, _⟩ := I.list l1.sq
        obtain ⟨its', p1, ⟨o', m', p2, p3, p4, p5⟩, _⟩ := I.list l2.sq
        rw [q2] at p2
        cases p2
        rw [q5] at p5
        cases p5
        have hvv : vs = vs' := vals_one q1 p1
        subst hvv
        split at e
        · obtain ⟨z1, z2⟩ := allO_some e
          rw [z2, List.all_eq_true]
          intro c hc
          obtain ⟨i, hi⟩ := List.getElem?_of_mem hc
          rw [List.getElem?_zipWith] at hi
          cases hx : xs[i]? with
          | none => rw [hx] at hi; cases hi
          | some dx =>
          cases hy : ys[i]? with
          | none => rw [hx, hy] at hi; cases hi
          | some dy =>
          rw [hx, hy] at hi
          cases hi
          obtain ⟨c', hc'⟩ := z1 _ hc
          rw [hc']
          obtain ⟨x1, g1, g2⟩ := r1.get hx
          obtain ⟨x2, g3, g4⟩ := r2.get hy
          rw [g1] at g3
          cases g3
          obtain ⟨u1, g5, g6⟩ := q1.get g1
          exact ih dx dy x1 u1 c' g2 g4 g6 hc'
        · rename_i hl
          exact absurd (by rw [← r1.length, ← r2.length]) hl
      · rename_i ka kb
        simp only [R] at rx ry
        obtain ⟨a, o, es, ep, rfl, h1, n1, h2, h3, h4, r1, ok1⟩ := rx
        obtain ⟨a', o', es', ep', e', h1', n1', h2', h3', h4', r2, ok2⟩ := ry
        cases e'
        have ho : s.heap.get? a = some o := (I.hok a _ h1).1
        have ho' : s.heap.get? a = some o' := (I.hok a _ h1').1
        rw [ho] at ho'
        cases ho'
        rw [h4] at h4'
        cases h4'
        split at e
        · rename_i hk
          rw [Bool.and_eq_true] at hk
          obtain ⟨b', e1, e2⟩ := Option.map_eq_some_iff.mp e
          obtain ⟨z1, z2⟩ := allO_some e1
          obtain ⟨l1, t1⟩ := re_at r1
          obtain ⟨l2, t2⟩ := re_at r2
          rw [← e2, z2, ← l1, ← l2, beq_self_eq_true, Bool.true_and, List.all_eq_true]
          intro c hc
          obtain ⟨c', hc'⟩ := z1 c hc
          subst hc'
          obtain ⟨p, hp, hpc⟩ := List.mem_map.mp hc
          obtain ⟨i, hi⟩ := List.getElem?_of_mem hp
          obtain ⟨en, x1, y1, w1, w2, w3, w4, w5⟩ := t1 i p.1 p.2 hi
          have hil : i < kb.length := by rw [← l2]; exact (List.getElem?_eq_some_iff.mp w1).1
          obtain ⟨en2, x2, y2, v1, v2, v3, v4, v5⟩ := t2 i kb[i].1 kb[i].2 (by rw [List.getElem?_eq_getElem hil])
          rw [w1] at v1
          cases v1
          rw [relV_one v2 w2] at v3
          rw [relV_one v4 w4] at v5
          have kk1 : (keyS p.1).isSome = true := by have := hk.1; unfold kdS at this; rw [List.all_eq_true] at this; exact this p hp
          have kk2 : (keyS kb[i].1).isSome = true := by have := hk.2; unfold kdS at this; rw [List.all_eq_true] at this; exact this _ (List.getElem_mem hil)
          have hkey := key_one kk1 kk2 w3 v3
          have hg := place_get (dOk_nd ok2).1 (n := i) (k := kb[i].1) (d := kb[i].2) (by rw [List.getElem?_eq_getElem hil])
          rw [← hkey] at hg
          rw [hg] at hpc
          exact ih p.2 kb[i].2 y1 en.val c' w5 v5 w4 hpc
        · cases e
      · cases e
/-- the comparison, as a tree -/
theorem eqN_tree (I : Inv X pins σ H s) : ∀ (n : Nat) (dx dy : D) (x y : V) (u v : Value) (b : Bool), R (X.K, X.w) H W dx x → R (X.K, X.w) H W dy y → RelV x u → RelV y v → eqN n dx dy = some b → EqTree X.prog X.w s (60 + n) u v b := by
  have leaf : ∀ (n : Nat) (dx dy : D) (x y : V) (u v : Value), (shp dx && shp dy) = true → R (X.K, X.w) H W dx x → R (X.K, X.w) H W dy y → RelV x u → RelV y v → EqTree X.prog X.w s (60 + n) u v (PyData.eqv dx dy) := fun n dx dy x y u v g rx ry ru rv => by
    rw [Bool.and_eq_true] at g
    obtain ⟨as, r1⟩ := R.reads I dx x u (shp_plain g.1) rx ru
    obtain ⟨bs, r2⟩ := R.reads I dy y v (shp_plain g.2) ry rv
    exact .leaf fun A hu => PySem.SeqAt.eqAt_plain dx dy A s u v as bs r1 r2 (shp_plain g.1) (shp_plain g.2) (by have := shp_depth g.1; have := Nat.min_le_left dx.depth dy.depth; omega)
  intro n
  induction n with
  | zero =>
    intro dx dy x y u v b rx ry ru rv e
    simp only [eqN] at e
    obtain ⟨g, e⟩ := guardP_some e
    cases e
    exact leaf 0 dx dy x y u v g rx ry ru rv
  | succ n ih =>
    intro dx dy x y u v b rx ry ru rv e
    have e0 := e
    simp only [eqN] at e
    split at e
    · rename_i g
      cases e
      exact leaf (n + 1) dx dy x y u v g rx ry ru rv
    · rename_i hns
      split at e
      · rename_i xs ys
        have rx0 := rx
        have ry0 := ry
        simp only [R] at rx ry
        obtain ⟨a, vs, rfl, l1, r1⟩ := rx
        obtain ⟨a', vs', rfl, l2, r2⟩ := ry
        cases ru
        cases rv
        by_cases haa : a = a'
        · subst haa
          have := eqN_same I (n + 1) _ _ _ _ b rx0 ry0 rfl e0
          subst this
          exact .same
        · obtain ⟨its, q1, ⟨o, m, q2, q3, q4, q5⟩, _⟩ := I.list l1.sq
          obtain ⟨its', p1, ⟨o', m', p2, p3, p4, p5⟩, _⟩ := I.list l2.sq
          have hl : s.heap.IsList a its.toArray := ⟨_, q2, q3, _, q5⟩
          have hl' : s.heap.IsList a' its'.toArray := ⟨_, p2, p3, _, p5⟩
          have s1 : its.toArray.size = xs.length := by rw [List.size_toArray, ← q1.length, r1.length]
          have s2 : its'.toArray.size = ys.length := by rw [List.size_toArray, ← p1.length, r2.length]
          split at e
          · rename_i hlen
            obtain ⟨z1, z2⟩ := allO_some e
            have hb : b = (List.range its.toArray.size).all fun j => ((List.zipWith (eqN n) xs ys)[j]?.getD none).getD false := by
              rw [z2, s1]
              have hzl : (List.zipWith (eqN n) xs ys).length = xs.length := by rw [List.length_zipWith, hlen, Nat.min_self]
              rw [Bool.eq_iff_iff, List.all_eq_true, List.all_eq_true]
              constructor
              · intro h j hj
                rw [List.mem_range, ← hzl] at hj
                rw [List.getElem?_eq_getElem hj]
                exact h _ (List.getElem_mem hj)
              · intro h c hc
                obtain ⟨j, hj⟩ := List.getElem?_of_mem hc
                have := h j (List.mem_range.mpr (by rw [← hzl]; exact (List.getElem?_eq_some_iff.mp hj).1))
                rw [hj] at this
                exact this
            rw [hb]
            refine .lists haa hl hl' (by rw [s1, s2, hlen]) fun j j1 j2 => ?_
            have jx : j < xs.length := by rw [← s1]; exact j1
            have jy : j < ys.length := by rw [← s2]; exact j2
            obtain ⟨x1, g1, g2⟩ := r1.get (List.getElem?_eq_getElem jx)
            obtain ⟨x2, g3, g4⟩ := r2.get (List.getElem?_eq_getElem jy)
            obtain ⟨u1, g5, g6⟩ := q1.get g1
            obtain ⟨u2, g7, g8⟩ := p1.get g3
            have hz : (List.zipWith (eqN n) xs ys)[j]? = some (eqN n xs[j] ys[j]) := by rw [List.getElem?_zipWith, List.getElem?_eq_getElem jx, List.getElem?_eq_getElem jy]
            obtain ⟨c, hc⟩ := z1 _ (List.mem_of_getElem? hz)
            have e1 : its.toArray[j] = u1 := by
              have := (List.getElem?_eq_some_iff.mp g5).2
              simpa using this
            have e2 : its'.toArray[j] = u2 := by
              have := (List.getElem?_eq_some_iff.mp g7).2
              simpa using this
            rw [e1, e2, hz, Option.getD_some, hc, Option.getD_some]
            exact ih _ _ x1 x2 u1 u2 c g2 g4 g6 g8 hc
          · rename_i hlen
            cases e
            exact .listsLen haa hl hl' (by rw [s1, s2]; simpa using hlen)
      · rename_i ka kb
        have rx0 := rx
        have ry0 := ry
        simp only [R] at rx ry
        obtain ⟨a, o, es, ep, rfl, h1, n1, h2, h3, h4, r1, ok1⟩ := rx
        obtain ⟨a', o', es', ep', rfl, h1', n1', h2', h3', h4', r2, ok2⟩ := ry
        cases ru
        cases rv
        by_cases haa : a = a'
        · subst haa
          have := eqN_same I (n + 1) _ _ _ _ b rx0 ry0 rfl e0
          subst this
          exact .same
        · split at e
          · rename_i hk
            rw [Bool.and_eq_true] at hk
            obtain ⟨b', e1, e2⟩ := Option.map_eq_some_iff.mp e
            obtain ⟨z1, z2⟩ := allO_some e1
            obtain ⟨va, q1, q2⟩ := dict_scal (I.hok a _ h1).1 h3 h4 r1 hk.1 (dOk_nd ok1).1
            obtain ⟨vb, q3, q4⟩ := dict_scal (I.hok a' _ h1').1 h3' h4' r2 hk.2 (dOk_nd ok2).1
            have la := Paired.length q2
            have lb := Paired.length q4
            let f : L2.Key → Bool := fun k => match getN ka (nkK k), getN kb (nkK k) with
              | some x, some y => (eqN n x y).getD false
              | _, _ => false
            have hb : b = (va.length == vb.length && va.all fun p => (valueAt vb p.1).isSome && f p.1) := by
              rw [← e2, z2, la, lb]
              congr 1
              rw [List.all_map]
              have key : ∀ (k1 : List (D × D)) (v1 : List (L2.Key × Value)), Paired (fun (p : D × D) (q : L2.Key × Value) => nkOf p.1 = nkK q.1 ∧ ∃ y, RelV y q.2 ∧ R (X.K, X.w) H W p.2 y) k1 v1 → (∀ p ∈ k1, p ∈ ka) → (k1.all ((fun x => x.getD false) ∘ fun p => match getN kb (nkOf p.1) with | some v => eqN n p.2 v | none => some false)) = v1.all fun p => (valueAt vb p.1).isSome && f p.1 := by
                intro k1 v1 hp
                induction hp with
                | nil => intro _; rfl
                | cons h t ih2 =>
                  rename_i p q k1 v1
                  intro hsub
                  rw [List.all_cons, List.all_cons, ih2 fun p hp => hsub p (List.mem_cons_of_mem _ hp)]
                  congr 1
                  have fd := find_scal q4 q.1
                  obtain ⟨i, hi⟩ := List.getElem?_of_mem (hsub p List.mem_cons_self)
                  have hga := place_get (dOk_nd ok1).1 (n := i) (k := p.1) (d := p.2) hi
                  show (match getN kb (nkOf p.1) with | some v => eqN n p.2 v | none => some false).getD false = ((valueAt vb q.1).isSome && (match getN ka (nkK q.1), getN kb (nkK q.1) with
                    | some x, some y => (eqN n x y).getD false
                    | _, _ => false))
                  rw [← h.1, hga]
                  rw [← h.1] at fd
                  cases hgb : getN kb (nkOf p.1) with
                  | none =>
                    rw [hgb] at fd
                    cases hvb : valueAt vb q.1 with
                    | none => rfl
                    | some z => rw [hvb] at fd; exact fd.elim
                  | some z =>
                    rw [hgb] at fd
                    cases hvb : valueAt vb q.1 with
                    | none => rw [hvb] at fd; exact fd.elim
                    | some z' => rfl
              exact key ka va q2 fun p hp => hp
            rw [hb]
            refine .dicts haa h2 h2' q1 q3 fun k v1 y1 hm hv => ?_
            have fa := find_scal q2 k
            have fb := find_scal q4 k
            have nda : (va.map (·.1)).Nodup := by obtain ⟨_, _, _, _, _, _, _, _, z⟩ := q1; exact z
            have hva : valueAt va k = some v1 := by
              unfold valueAt
              obtain ⟨i, hi⟩ := List.getElem?_of_mem hm
              clear q2 la fa hb z1 z2 e1 e2 hm hv
              clear q1
              induction va generalizing i with
              | nil => simp at hi
              | cons q va ih3 =>
                rw [List.map_cons, List.nodup_cons] at nda
                rw [List.find?_cons]
                cases i with
                | zero => simp at hi; subst hi; simp
                | succ i =>
                  have hi' : va[i]? = some (k, v1) := by simpa using hi
                  have hne : q.1 ≠ k := fun z => nda.1 (List.mem_map.mpr ⟨(k, v1), List.mem_of_getElem? hi', z.symm⟩)
                  simp only [hne, decide_false]
                  exact ih3 nda.2 i hi'
            rw [hva] at fa
            rw [hv] at fb
            cases hga : getN ka (nkK k) with
            | none => rw [hga] at fa; exact fa.elim
            | some da =>
            cases hgb : getN kb (nkK k) with
            | none => rw [hgb] at fb; exact fb.elim
            | some db =>
            rw [hga] at fa
            rw [hgb] at fb
            obtain ⟨w1, fa1, fa2⟩ := fa
            obtain ⟨w2, fb1, fb2⟩ := fb
            obtain ⟨i, ki, hi, hki⟩ := get_place hga
            have hin : (match getN kb (nkOf ki) with | some v => eqN n da v | none => some false) ∈ ka.map fun p => match getN kb (nkOf p.1) with | some v => eqN n p.2 v | none => some false := List.mem_map.mpr ⟨(ki, da), List.mem_of_getElem? hi, rfl⟩
            rw [hki, hgb] at hin
            obtain ⟨c, hc⟩ := z1 _ hin
            show EqTree X.prog X.w s (60 + n) v1 y1 (match getN ka (nkK k), getN kb (nkK k) with
              | some x, some y => (eqN n x y).getD false
              | _, _ => false)
            rw [hga, hgb]
            dsimp only
            have hc : eqN n da db = some c := hc
            rw [hc, Option.getD_some]
            exact ih da db w1 w2 v1 y1 c fa2 fb2 fa1 fb1 hc
          · cases e
      · cases e
end
end DI
set_option Elab.async false
set_option linter.all false
set_option maxRecDepth 100000
set_option maxHeartbeats 4000000
/-! comparisons, places, slices, built-ins -/
namespace DI
open PySem PySem.Spec PyProof.Rows L2
section
variable {X : Cx} {pins : List (Addr × Obj)} {σ : L2.St} {H H' : Hp} {W W' : WS} {s : Shared} {k : Nat}
def rDB (X : Cx) (f : D → D → Option Bool) : R2 := fun x y H Q => ∃ W dx dy b, RP (X.K, X.w) H W dx x ∧ RP (X.K, X.w) H W dy y ∧ f dx dy = some b ∧ Q (.bl b) H
theorem RP.isNon {d : D} {x : V} (h : RP (X.K, X.w) H W d x) : decide (x = .non) = isNonD d := by
  rcases h with h | ⟨a, rfl, h⟩
  · cases d <;> simp only [R] at h
    · subst h; rfl
    · subst h; rfl
    · subst h; rfl
    · subst h; rfl
    · obtain ⟨a, xs, rfl, _⟩ := h; rfl
    · obtain ⟨a, xs, rfl, _⟩ := h; rfl
    · obtain ⟨a, _, _, _, rfl, _⟩ := h; rfl
  · cases d <;> simp only [OwnAt] at h
    · rfl
    · rfl
theorem flat_is {K : PySem.W.Frag × World} {H : Hp} {W : WS} {d : D} {v : V} {u : Value} (f : flat d = true) (h : R K H W d v) (r : RelV v u) : PyProof.V.Flat u d := by
  cases d <;> simp only [flat] at f <;> first | cases f | skip
  · simp only [R] at h
    subst h
    cases r
    exact PyProof.V.Flat.none
  · simp only [R] at h
    subst h
    cases r
    exact PyProof.V.Flat.bool _
  · simp only [R] at h
    subst h
    obtain ⟨t, rfl⟩ := r
    exact PyProof.V.Flat.int _ t
  · simp only [R] at h
    subst h
    obtain ⟨t, rfl⟩ := r
    exact PyProof.V.Flat.str _ t
theorem dc_hits {K : PySem.W.Frag × World} {H : Hp} {W : WS} {A : Around} {s : Shared} {kb : List (D × D)} {vb : List (L2.Key × Value)} (hb : Paired (fun (p : D × D) (q : L2.Key × Value) => nkOf p.1 = nkK q.1 ∧ ∃ y, RelV y q.2 ∧ R K H W p.2 y) kb vb) (fb : (kb.all fun p => flat p.2) = true) :
    ∀ {ka : List (D × D)} {va : List (L2.Key × Value)}, Paired (fun (p : D × D) (q : L2.Key × Value) => nkOf p.1 = nkK q.1 ∧ ∃ y, RelV y q.2 ∧ R K H W p.2 y) ka va → (ka.all fun p => flat p.2) = true →
      PySem.W.KeqHits A s vb va (ka.all fun p => match getN kb (nkOf p.1) with | some v => PyData.eqv p.2 v | none => false)
  | [], [], .nil, _ => .nil
  | p :: ka, (k, u) :: va, .cons h t, fa => by
    rw [List.all_cons, Bool.and_eq_true] at fa
    have ih := dc_hits (A := A) (s := s) hb fb t fa.2
    obtain ⟨h1, y, h2, h3⟩ := h
    have f := find_scal hb k
    rw [List.all_cons, h1]
    cases e1 : getN kb (nkK k) with
    | none =>
      rw [e1] at f
      cases e2 : valueAt vb k with
      | none => exact .miss e2
      | some w => rw [e2] at f; exact f.elim
    | some d =>
      rw [e1] at f
      cases e2 : valueAt vb k with
      | none => rw [e2] at f; exact f.elim
      | some w =>
        rw [e2] at f
        obtain ⟨z, f1, f2⟩ := f
        have fd : flat d = true := by
          unfold getN at e1
          obtain ⟨q, g1, g2⟩ := Option.map_eq_some_iff.mp e1
          subst g2
          rw [List.all_eq_true] at fb
          exact fb q (List.mem_of_find?_eq_some g1)
        exact .hit e2 (PySem.W.keq_flat (flat_is fa.1 h3 h2) (flat_is fd f2 f1)) ih
theorem eqD_ok (hr : Room k X.A) {neg : Bool} (I : Inv X pins σ H s) {dx dy : D} {x y : V} {u v : Value} {b : Bool} {Q : VK} (h1 : RP (X.K, X.w) H W dx x) (h2 : RP (X.K, X.w) H W dy y) (e : eqD dx dy = some b) (rx : RelV x u) (ry : RelV y v)
    (q : Q (.bl (if neg = true then !b else b)) H) : wpAny (model X.prog X.w) X.A (compareOp (if neg = true then .NotEq else .Eq) u v) (EP X pins σ Q) X.xe s := by
  have pl : (shp dx && shp dy) = true → PyData.eqv dx dy = b → wpAny (model X.prog X.w) X.A (compareOp (if neg = true then .NotEq else .Eq) u v) (EP X pins σ Q) X.xe s := fun g e => by
    rw [Bool.and_eq_true] at g
    obtain ⟨as, r1⟩ := h1.reads I (shp_plain g.1) rx
    obtain ⟨bs, r2⟩ := h2.reads I (shp_plain g.2) ry
    subst e
    cases neg with
    | true => exact SeqAt.ne_plain r1 r2 (shp_plain g.1) (shp_plain g.2) (by have := hr.units; have := shp_depth g.1; have := Nat.min_le_left dx.depth dy.depth; omega) ⟨.bl _, H, I, rfl, q⟩
    | false => exact SeqAt.eq_plain r1 r2 (shp_plain g.1) (shp_plain g.2) (by have := hr.units; have := shp_depth g.1; have := Nat.min_le_left dx.depth dy.depth; omega) ⟨.bl _, H, I, rfl, q⟩
  unfold eqD at e
  split at e
  · rename_i xs ys
    split at e
    · rename_i g
      cases e
      exact pl g rfl
    · obtain ⟨a, va, rfl, l1, r1⟩ := h1.list
      obtain ⟨a', vb, rfl, l2, r2⟩ := h2.list
      cases rx
      cases ry
      obtain ⟨its, q1, ⟨o, m, q2, q3, q4, q5⟩, _⟩ := I.list l1
      obtain ⟨its', p1, ⟨o', m', p2, p3, p4, p5⟩, _⟩ := I.list l2
      have hl : s.heap.IsList a its.toArray := ⟨_, q2, q3, _, q5⟩
      have hl' : s.heap.IsList a' its'.toArray := ⟨_, p2, p3, _, p5⟩
      have s1 : its.toArray.size = xs.length := by rw [List.size_toArray, ← q1.length, r1.length]
      have s2 : its'.toArray.size = ys.length := by rw [List.size_toArray, ← p1.length, r2.length]
      have hu : X.A.units + 70 < cLine := by have := hr.un; omega
      split at e
      · rename_i hlen
        obtain ⟨z1, z2⟩ := allO_some e
        have hb : b = (List.range its.toArray.size).all fun j => ((List.zipWith (eqN 6) xs ys)[j]?.getD none).getD false := by
          rw [z2, s1]
          have hzl : (List.zipWith (eqN 6) xs ys).length = xs.length := by rw [List.length_zipWith, hlen, Nat.min_self]
          rw [Bool.eq_iff_iff, List.all_eq_true, List.all_eq_true]
          constructor
          · intro h j hj
            rw [List.mem_range, ← hzl] at hj
            rw [List.getElem?_eq_getElem hj]
            exact h _ (List.getElem_mem hj)
          · intro h c hc
            obtain ⟨j, hj⟩ := List.getElem?_of_mem hc
            have := h j (List.mem_range.mpr (by rw [← hzl]; exact (List.getElem?_eq_some_iff.mp hj).1))
            rw [hj] at this
            exact this
        have tr : ∀ j (j1 : j < its.toArray.size) (j2 : j < its'.toArray.size), PySem.SeqAt.EqIn X.prog X.w X.A.in1 s its.toArray[j] its'.toArray[j] (((List.zipWith (eqN 6) xs ys)[j]?.getD none).getD false) := fun j j1 j2 => by
          have jx : j < xs.length := by rw [← s1]; exact j1
          have jy : j < ys.length := by rw [← s2]; exact j2
          obtain ⟨x1, g1, g2⟩ := r1.get (List.getElem?_eq_getElem jx)
          obtain ⟨x2, g3, g4⟩ := r2.get (List.getElem?_eq_getElem jy)
          obtain ⟨u1, g5, g6⟩ := q1.get g1
          obtain ⟨u2, g7, g8⟩ := p1.get g3
          have hz : (List.zipWith (eqN 6) xs ys)[j]? = some (eqN 6 xs[j] ys[j]) := by rw [List.getElem?_zipWith, List.getElem?_eq_getElem jx, List.getElem?_eq_getElem jy]
          obtain ⟨c, hc⟩ := z1 _ (List.mem_of_getElem? hz)
          have e1 : its.toArray[j] = u1 := by
            have := (List.getElem?_eq_some_iff.mp g5).2
            simpa using this
          have e2 : its'.toArray[j] = u2 := by
            have := (List.getElem?_eq_some_iff.mp g7).2
            simpa using this
          rw [e1, e2, hz, Option.getD_some, hc, Option.getD_some]
          exact (eqN_tree I 6 _ _ x1 x2 u1 u2 c g2 g4 g6 g8 hc).at X.A.in1 (by show X.A.units + 1 + 66 < cLine; omega)
        cases neg with
        | true => exact neI hl hl' (by rw [s1, s2, hlen]) (by omega) tr ⟨.bl _, H, I, rfl, by rw [← hb]; exact q⟩
        | false => exact PySem.SeqAt.rcIn_lists hl hl' (by rw [s1, s2, hlen]) (by omega) tr ⟨.bl _, H, I, rfl, by rw [← hb]; exact q⟩
      · rename_i hlen
        cases e
        cases neg with
        | true => exact PySem.SeqAt.RcNeAt.lists_lengths hl hl' (by rw [s1, s2]; simpa using hlen) (by omega) _ _ _ _ ⟨.bl _, H, I, rfl, q⟩
        | false => exact PySem.SeqAt.RcAt.lists_lengths hl hl' (by rw [s1, s2]; simpa using hlen) (by omega) _ _ _ _ ⟨.bl _, H, I, rfl, q⟩
  · rename_i ka kb
    obtain ⟨g, e⟩ := guardP_some e
    cases e
    simp only [Bool.and_eq_true] at g
    obtain ⟨a, o, es, ep, rfl, e1, hs, hx, hdt, r, ok⟩ := h1.dict
    obtain ⟨a2, o2, es2, ep2, rfl, e3, hs2, hx2, hdt2, r2, ok2⟩ := h2.dict
    cases rx
    cases ry
    obtain ⟨va, q1, q2⟩ := dict_scal (I.hok a _ e1).1 hx hdt r g.1.1 (dOk_nd ok).1
    obtain ⟨vb, q3, q4⟩ := dict_scal (I.hok a2 _ e3).1 hx2 hdt2 r2 g.1.2 (dOk_nd ok2).1
    have hits := dc_hits (A := X.A.in1) (s := s) q4 g.2.2 q2 g.2.1
    have l1 := Paired.length q2
    have l2 := Paired.length q4
    have hu : X.A.units < cLine := by have := hr.un; omega
    have he : (va.length == vb.length && ka.all fun p => match getN kb (nkOf p.1) with | some v => PyData.eqv p.2 v | none => false) = eqDc ka kb := by
      rw [← l1, ← l2]
      rfl
    cases neg with
    | true => exact PySem.W.keq_ne hs hs2 q1 q3 hu (fun _ => hits) ⟨.bl _, H, I, rfl, by rw [he]; exact q⟩
    | false => exact PySem.W.keq_eq hs hs2 q1 q3 hu (fun _ => hits) ⟨.bl _, H, I, rfl, by rw [he]; exact q⟩
  · obtain ⟨g, e⟩ := guardP_some e
    cases e
    exact pl g rfl
theorem op_eqP (hr : Room k X.A) : OpR X (compareOp .Eq) (rDB X (cmpD .Eq)) := by
  intro pins s σ H x y v u Q I rx ry ⟨W, dx, dy, b, h1, h2, e, q⟩
  exact eqD_ok (neg := false) hr I h1 h2 (show eqD dx dy = some b from e) rx ry q
theorem op_neP (hr : Room k X.A) : OpR X (compareOp .NotEq) (rDB X (cmpD .NotEq)) := by
  intro pins s σ H x y v u Q I rx ry ⟨W, dx, dy, b, h1, h2, e, q⟩
  obtain ⟨b', e1, e2⟩ := Option.map_eq_some_iff.mp (show (eqD dx dy).map (!·) = some b from e)
  subst e2
  exact eqD_ok (neg := true) hr I h1 h2 e1 rx ry q
theorem room_in {ds : List D} {d : D} (hr : Room k X.A) (g : shp d = true) : X.A.units + 1 + min (PyData.depthAll ds) d.depth < cLine := by
  have := hr.units; have := shp_depth g; have := Nat.min_le_right (PyData.depthAll ds) d.depth; omega
theorem op_inP (hr : Room k X.A) : OpR X (compareOp .In) (rDB X inD) := by
  intro pins s σ H x y v u Q I rx ry ⟨W, dx, dy, b, h1, h2, e, q⟩
  cases dy <;> simp only [inD] at e <;> first | cases e | skip
  · cases dx <;> simp only at e <;> first | cases e | skip
    cases h1.str
    cases h2.str
    exact op_in_str pins s σ H _ _ v u Q I rx ry ⟨_, _, rfl, rfl, q⟩
  · obtain ⟨g, e⟩ := guardP_some e
    rw [Bool.and_eq_true] at g
    obtain ⟨as, r1⟩ := h1.reads I (shp_plain g.1) rx
    obtain ⟨bs, r2⟩ := h2.reads I (shp_plain g.2) ry
    cases e
    exact SeqAt.in_list_data r2 r1 (shp_list g.2) (shp_plain g.1) (room_in hr g.1) ⟨.bl _, H, I, rfl, q⟩
  · obtain ⟨g, e⟩ := guardP_some e
    rw [Bool.and_eq_true] at g
    obtain ⟨as, r1⟩ := h1.reads I (shp_plain g.1) rx
    obtain ⟨bs, r2⟩ := h2.reads I (shp_plain g.2) ry
    cases e
    exact SeqAt.in_tuple_data r2 r1 (shp_tuple g.2) (shp_plain g.1) (room_in hr g.1) ⟨.bl _, H, I, rfl, q⟩
  · obtain ⟨g, e⟩ := guardP_some e
    cases e
    exact d_inD (neg := false) (by have := hr.un; omega) I h2 h1 g rx ry q
theorem op_ninP (hr : Room k X.A) : OpR X (compareOp .NotIn) (rDB X (fun x y => (inD x y).map (!·))) := by
  intro pins s σ H x y v u Q I rx ry ⟨W, dx, dy, b, h1, h2, e, q⟩
  obtain ⟨c, e2, hb⟩ := Option.map_eq_some_iff.mp e
  clear e
  subst hb
  cases dy <;> simp only [inD] at e2 <;> first | cases e2 | skip
  · cases dx <;> simp only at e2 <;> first | cases e2 | skip
    cases h1.str
    cases h2.str
    exact op_notIn_str pins s σ H _ _ v u Q I rx ry ⟨_, _, rfl, rfl, q⟩
  · obtain ⟨g, e3⟩ := guardP_some e2
    rw [Bool.and_eq_true] at g
    obtain ⟨as, r1⟩ := h1.reads I (shp_plain g.1) rx
    obtain ⟨bs, r2⟩ := h2.reads I (shp_plain g.2) ry
    cases e3
    exact SeqAt.notIn_list_data r2 r1 (shp_list g.2) (shp_plain g.1) (room_in hr g.1) ⟨.bl _, H, I, rfl, q⟩
  · obtain ⟨g, e3⟩ := guardP_some e2
    rw [Bool.and_eq_true] at g
    obtain ⟨as, r1⟩ := h1.reads I (shp_plain g.1) rx
    obtain ⟨bs, r2⟩ := h2.reads I (shp_plain g.2) ry
    cases e3
    exact SeqAt.notIn_tuple_data r2 r1 (shp_tuple g.2) (shp_plain g.1) (room_in hr g.1) ⟨.bl _, H, I, rfl, q⟩
  · obtain ⟨g, e3⟩ := guardP_some e2
    cases e3
    exact d_inD (neg := true) (by have := hr.un; omega) I h2 h1 g rx ry q
theorem op_isP : OpR X (compareOp .Is) (rDB X isD) := by
  refine opr_weak (OpR.or op_isN op_isBl) fun x y H Q ⟨W, dx, dy, b, h1, h2, e, q⟩ => ?_
  cases dy with
  | none =>
    refine .inl ⟨h2.none, ?_⟩
    rw [h1.isNon]
    simp only [isD, Option.some.injEq] at e
    subst e
    exact q
  | bool c =>
    cases dx <;> simp only [isD] at e <;> first | cases e | skip
    refine .inr ⟨_, _, h1.bool, h2.bool, ?_⟩
    rw [Bool.beq_eq_decide_eq] at q
    exact q
  | _ => cases dx <;> simp [isD] at e
theorem op_notP : OpR X (compareOp .IsNot) (rDB X (fun x y => (isD x y).map (!·))) := by
  refine opr_weak (OpR.or op_notN op_notBl) fun x y H Q ⟨W, dx, dy, b, h1, h2, e, q⟩ => ?_
  obtain ⟨c, e', hb⟩ := Option.map_eq_some_iff.mp e
  clear e
  subst hb
  cases dy with
  | none =>
    refine .inl ⟨h2.none, ?_⟩
    rw [h1.isNon]
    simp only [isD, Option.some.injEq] at e'
    rw [e']
    exact q
  | bool c =>
    cases dx <;> simp only [isD] at e' <;> first | cases e' | skip
    refine .inr ⟨_, _, h1.bool, h2.bool, ?_⟩
    rw [Bool.beq_eq_decide_eq] at q
    exact q
  | _ => cases dx <;> simp [isD] at e'
/-- a row is less than another one -/
theorem op_ltP (hr : Room k X.A) : OpR X (compareOp .Lt) (fun x y H Q => ∃ W dx dy, RP (X.K, X.w) H W dx x ∧ RP (X.K, X.w) H W dy y ∧ shp dx = true ∧ shp dy = true ∧ PySem.W.alike dx dy = true ∧ dx ≠ .none ∧ Q (.bl (PySem.W.dataLt dx dy)) H) := by
  intro pins s σ H x y v u Q I rx ry ⟨W, dx, dy, h1, h2, g1, g2, al, hn, q⟩
  obtain ⟨as, r1⟩ := h1.reads I (shp_plain g1) rx
  obtain ⟨bs, r2⟩ := h2.reads I (shp_plain g2) ry
  exact PySem.W.rcLt_alike dx dy X.A s v u as bs r1 r2 al hn (by have := hr.units; have := shp_depth g1; have := Nat.min_le_left dx.depth dy.depth; omega) X.prog X.w X.xe (EP X pins σ Q) ⟨.bl _, H, I, rfl, q⟩
theorem cmpD_ok (hr : Room k X.A) (op : CmpOp) : OpR X (compareOp op) (rDB X (cmpD op)) := by
  cases op with
  | Eq => exact op_eqP hr
  | NotEq => exact op_neP hr
  | In => exact op_inP hr
  | NotIn => exact op_ninP hr
  | Is => exact op_isP
  | IsNot => exact op_notP
  | Lt =>
    refine opr_weak (OpR.or op_lt (OpR.or op_lt_str (op_ltP hr))) fun x y H Q ⟨W, dx, dy, b, h1, h2, e, q⟩ => ?_
    cases dx <;> cases dy <;> simp only [cmpD, ltD] at e <;> first | cases e | skip
    · exact .inl ⟨_, _, h1.int, h2.int, q⟩
    · exact .inr (.inl ⟨_, _, h1.str, h2.str, q⟩)
    · obtain ⟨g, e⟩ := guardP_some e
      rw [Bool.and_eq_true, Bool.and_eq_true] at g
      cases e
      exact .inr (.inr ⟨W, _, _, h1, h2, g.1, g.2.1, g.2.2, (fun z => by cases z), q⟩)
    · obtain ⟨g, e⟩ := guardP_some e
      rw [Bool.and_eq_true, Bool.and_eq_true] at g
      cases e
      exact .inr (.inr ⟨W, _, _, h1, h2, g.1, g.2.1, g.2.2, (fun z => by cases z), q⟩)
  | LtE =>
    refine opr_weak (OpR.or op_le op_le_str) fun x y H Q ⟨W, dx, dy, b, h1, h2, e, q⟩ => ?_
    cases dx <;> cases dy <;> simp only [cmpD, ltD] at e <;> first | cases e | skip
    · exact .inl ⟨_, _, h1.int, h2.int, q⟩
    · exact .inr ⟨_, _, h1.str, h2.str, q⟩
  | Gt =>
    refine opr_weak (OpR.or op_gt op_gt_str) fun x y H Q ⟨W, dx, dy, b, h1, h2, e, q⟩ => ?_
    cases dx <;> cases dy <;> simp only [cmpD, ltD] at e <;> first | cases e | skip
    · exact .inl ⟨_, _, h1.int, h2.int, q⟩
    · exact .inr ⟨_, _, h1.str, h2.str, q⟩
  | GtE =>
    refine opr_weak (OpR.or op_ge op_ge_str) fun x y H Q ⟨W, dx, dy, b, h1, h2, e, q⟩ => ?_
    cases dx <;> cases dy <;> simp only [cmpD, ltD] at e <;> first | cases e | skip
    · exact .inl ⟨_, _, h1.int, h2.int, q⟩
    · exact .inr ⟨_, _, h1.str, h2.str, q⟩
/-! places -/
theorem Rs.atI {K : PySem.W.Frag × World} {ds : List D} {xs : List V} {i : Int} {d : D} (h : Rs K H W ds xs) (e : L2.atI ds i = some d) : ∃ x, L2.atI xs i = some x ∧ R K H W d x := by
  unfold L2.atI at e ⊢
  rw [h.length]
  cases q : ixN ds.length i with
  | none => rw [q] at e; cases e
  | some j =>
    rw [q] at e
    exact h.get e
def rDV (X : Cx) (f : D → D → Option D) : R2 := fun x y H Q => ∃ W dx dy d, (∀ a, W a → H a ≠ none) ∧ RP (X.K, X.w) H W dx x ∧ RP (X.K, X.w) H W dy y ∧ f dx dy = some d ∧ ∀ v H', Same H H' → R (X.K, X.w) H' W d v → Q v H'
theorem ixD_ok (hr : Room k X.A) : IxR X (rDV X ixD) := by
  have base : IxR X (rIx X.K) := ix_seq
  intro value slice pins s σ H x y v u Q I rx ry ⟨W, dx, dy, d, hW, h1, h2, e, q⟩ hsub
  by_cases hdi : ∃ kvs, dx = .dict kvs
  · obtain ⟨kvs, rfl⟩ := hdi
    simp only [ixD] at e
    obtain ⟨g, e⟩ := guardP_some e
    exact d_ixD (by have := hr.un; omega) I h1 h2 g e rx ry hsub fun z hz => q z H (Same.refl H) hz
  refine base value slice pins s σ H x y v u Q I rx ry ?_ hsub
  cases dx <;> cases dy <;> simp only [ixD] at e <;> first | cases e | (exact absurd ⟨_, rfl⟩ hdi) | skip
  · obtain ⟨g, e⟩ := guardP_some e
    obtain ⟨c, e2, hb⟩ := Option.map_eq_some_iff.mp e
    subst hb
    exact .inr (.inr ⟨_, _, c, h1.str, h2.int, szOk_le g, e2, q _ H (Same.refl H) (by simp only [R])⟩)
  · obtain ⟨a, xs, rfl, s1, r1⟩ := h1.list
    obtain ⟨z, e1, r2⟩ := Rs.atI r1 e
    exact .inl ⟨a, xs, _, z, rfl, h2.int, s1, e1, q _ H (Same.refl H) r2⟩
  · obtain ⟨a, xs, rfl, s1, r1⟩ := h1.tuple
    obtain ⟨z, e1, r2⟩ := Rs.atI r1 e
    exact .inr (.inl ⟨a, xs, _, z, rfl, h2.int, s1.sq, e1, q _ H (Same.refl H) r2⟩)
/-! slices -/
def rDS (X : Cx) : V → Option Int → Option Int → Hp → VK → Prop := fun x lo hi H Q => ∃ W dx d, (∀ a, W a → H a ≠ none) ∧ RP (X.K, X.w) H W dx x ∧ slcD dx lo hi = some d ∧ ∀ v H', Same H H' → RN (X.K, X.w) H H' W d v → Q v H'
theorem Rs.cut {K : PySem.W.Frag × World} {ds : List D} {xs : List V} (h : Rs K H W ds xs) (lo hi : Option Int) : Rs K H W (cutD ds lo hi) (cutV xs lo hi) := by
  unfold cutD cutV
  rw [h.length]
  exact (h.drop _).take _
theorem slcD_ok : SlR X (rDS X) := by
  have base := SlR.or (X := X) sl_list sl_tupA
  intro pins s σ H x v vl vu lo hi sl Q I rx hs pl pu ⟨W, dx, d, hW, h1, e, q⟩
  refine base pins s σ H x v vl vu lo hi sl Q I rx hs pl pu ?_
  cases dx <;> simp only [slcD] at e <;> first | cases e | skip
  · obtain ⟨a, xs, rfl, s1, r1⟩ := h1.list
    exact .inl ⟨a, xs, rfl, s1, fun p hp => q _ _ (same_new hp) (RN.newLst hW hp (r1.cut lo hi))⟩
  · obtain ⟨a, xs, rfl, s1, r1⟩ := h1.tuple
    refine .inr ⟨a, xs, rfl, s1.sq, fun hw => ?_, fun _ p hp => q _ _ (same_new hp) (RN.of (R.newTup hW hp (r1.cut lo hi)) rfl)⟩
    refine q _ H (Same.refl H) (RN.of ?_ rfl)
    rename_i ds
    have hl := r1.length
    have e2 : cutD ds lo hi = ds := by
      unfold cutD
      rw [← hl, hw.1, hw.2, List.drop_zero, Nat.sub_zero, hl, List.take_length]
    rw [e2]
    simp only [R]
    exact ⟨a, xs, rfl, s1, r1⟩
end
end DI
set_option Elab.async false
set_option linter.all false
set_option maxRecDepth 100000
set_option maxHeartbeats 4000000
/-! built-in functions, isinstance, iteration -/
namespace DI
open PySem PySem.Spec PyProof.Rows L2
def RPs (K : PySem.W.Frag × World) (H : Hp) (W : WS) : List D → List V → Prop
  | [], xs => xs = []
  | d :: ds, xs => ∃ x r, xs = x :: r ∧ RP K H W d x ∧ RPs K H W ds r
section
variable {X : Cx} {pins : List (Addr × Obj)} {σ : L2.St} {H H' : Hp} {W W' : WS} {s : Shared} {k : Nat}
theorem RPs.same {K : PySem.W.Frag × World} (s : Same H H') : ∀ {ds : List D} {xs : List V}, RPs K H W ds xs → RPs K H' W ds xs
  | [], xs, h => h
  | d :: ds, xs, h => by
    simp only [RPs] at h ⊢
    obtain ⟨x, r, e, h1, h2⟩ := h
    exact ⟨x, r, e, h1.same s, RPs.same s h2⟩
theorem RPs.one {K : PySem.W.Frag × World} {d : D} {xs : List V} (h : RPs K H W [d] xs) : ∃ x, xs = [x] ∧ RP K H W d x := by
  simp only [RPs] at h
  obtain ⟨x, r, rfl, h1, rfl⟩ := h
  exact ⟨x, rfl, h1⟩
theorem RPs.two {K : PySem.W.Frag × World} {d e : D} {xs : List V} (h : RPs K H W [d, e] xs) : ∃ x y, xs = [x, y] ∧ RP K H W d x ∧ RP K H W e y := by
  simp only [RPs] at h
  obtain ⟨x, r, rfl, h1, y, r', rfl, h2, rfl⟩ := h
  exact ⟨x, y, rfl, h1, h2⟩
theorem rs_pairs {K : PySem.W.Frag × World} {H : Hp} {W : WS} {α : Type} (f : α → D) (g : α → V) : ∀ (l : List α), (∀ p ∈ l, R K H W (f p) (g p)) → Rs K H W (l.map f) (l.map g)
  | [], _ => by simp [Rs]
  | p :: l, h => by
    simp only [List.map_cons, Rs]
    exact ⟨_, _, rfl, h p List.mem_cons_self, rs_pairs f g l fun q hq => h q (List.mem_cons_of_mem _ hq)⟩
theorem rs_zip {K : PySem.W.Frag × World} {H : Hp} {W : WS} : ∀ {ds : List D} {vs : List V}, Rs K H W ds vs → ∀ p ∈ ds.zip vs, R K H W p.1 p.2
  | [], vs, _, p, hp => by simp at hp
  | d :: ds, vs, h, p, hp => by
    simp only [Rs] at h
    obtain ⟨x, r, rfl, h1, h2⟩ := h
    rw [List.zip_cons_cons, List.mem_cons] at hp
    rcases hp with rfl | hp
    · exact h1
    · exact rs_zip h2 p hp
theorem each_vals {α : Type} (g : α → V) : ∀ {l : List α} {us : List Value}, Vals (l.map g) us → PySem.W.EachIs (fun u p => RelV (g p) u) us l
  | [], _, .nil => .nil
  | _ :: _, _, .cons h t => .cons h (each_vals g t)
theorem vals_each {α : Type} {P : α → Prop} (g : α → V) : ∀ {l : List α} {us : List Value}, PySem.W.EachIs (fun u p => RelV (g p) u ∧ P p) us l → Vals (l.map g) us
  | [], [], .nil => .nil
  | _ :: _, _ :: _, .cons h t => .cons h.1 (vals_each g t)
theorem srtOk_all {ks : List D} (h : srtOk ks = true) : PySem.W.AllAlike ks ∧ PySem.W.Sortable ks ∧ (∀ d ∈ ks, shp d = true) ∧ ks.length ≤ 16777216 := by
  unfold srtOk szOk at h
  simp only [Bool.and_eq_true, Bool.or_eq_true, List.all_eq_true, decide_eq_true_eq] at h
  obtain ⟨⟨h1, h2⟩, h3, h4⟩ := h
  refine ⟨fun d hd d' hd' => h2 d hd d' hd', ?_, h1, h4⟩
  rcases h3 with h3 | h3
  · refine .inl fun d hd => ?_
    have := h3 d hd
    cases d <;> simp [tupNE] at this
    rename_i xs
    cases xs with
    | nil => simp [tupNE] at this
    | cons x r => exact ⟨x, r, rfl⟩
  · refine .inr fun d hd => ?_
    have := h3 d hd
    cases d <;> simp [notNT] at this <;> exact ⟨(fun z => by cases z), fun xs z => by cases z⟩
/-- sorted items, by pairs of them and their keys -/
theorem srt_back {vs : List V} {ds ks : List D} (h1 : ds.length = vs.length) (h2 : ks.length = ds.length) : ((((ds.zip ks).zip vs).mergeSort (PySem.W.dataLe false fun b => b.1.2)).map fun b => b.1.1) = srtK ds ks := by
  have e : (((ds.zip ks).zip vs).mergeSort (PySem.W.dataLe false fun b => b.1.2)).map Prod.fst = (ds.zip ks).mergeSort (PySem.W.dataLe false Prod.snd) := by
    rw [List.map_mergeSort (r := PySem.W.dataLe false fun b : (D × D) × V => b.1.2) (s := PySem.W.dataLe false Prod.snd) (f := Prod.fst) (fun a _ b _ => rfl), List.map_fst_zip]
    rw [List.length_zip, h2, Nat.min_self, h1]
    exact Nat.le_refl _
  unfold srtK
  rw [← e, List.map_map]
  rfl
def rDL (X : Cx) (f : List D → Option D) : List V → Hp → VK → Prop := fun xs H Q => ∃ W ds d, (∀ a, W a → H a ≠ none) ∧ RPs (X.K, X.w) H W ds xs ∧ f ds = some d ∧ ∀ v H', Same H H' → RN (X.K, X.w) H H' W d v → Q v H'
theorem callr_weak {f : Value} {r r' : List V → Hp → VK → Prop} (h : CallR X f r) (i : ∀ x H Q, r' x H Q → r x H Q) : CallR X f r' := fun pins s σ H x u Q I rx q => h pins s σ H x u Q I rx (i x H Q q)
theorem len_one {f : String} {ds : List D} {d : D} (hf : f = "len" ∨ f = "list" ∨ f = "tuple" ∨ f = "int" ∨ f = "all" ∨ f = "any" ∨ f = "sum" ∨ f = "sorted") (h : biD f ds = some d) : ∃ a, ds = [a] := by
  match ds with
  | [] => rcases hf with rfl | rfl | rfl | rfl | rfl | rfl | rfl | rfl <;> simp [biD] at h
  | [a] => exact ⟨a, rfl⟩
  | a :: b :: r => rcases hf with rfl | rfl | rfl | rfl | rfl | rfl | rfl | rfl <;> simp [biD] at h
theorem boolsOf_map : ∀ {ds : List D} {bs : List Bool}, boolsOf ds = some bs → ds = bs.map PyData.bool
  | [], bs, h => by simp [boolsOf] at h; subst h; rfl
  | d :: ds, bs, h => by
    cases d <;> simp [boolsOf] at h
    obtain ⟨r, h1, rfl⟩ := h
    rw [boolsOf_map h1]
    rfl
theorem intsOf_map : ∀ {ds : List D} {bs : List Int}, intsOf ds = some bs → ds = bs.map PyData.int
  | [], bs, h => by simp [intsOf] at h; subst h; rfl
  | d :: ds, bs, h => by
    cases d <;> simp [intsOf] at h
    obtain ⟨r, h1, rfl⟩ := h
    rw [intsOf_map h1]
    rfl
theorem bi_len : CallR X (.builtin "len") (rDL X (biD "len")) := by
  refine callr_weak call_len fun xs H Q ⟨W, ds, d, hW, h, e, q⟩ => ?_
  obtain ⟨a, rfl⟩ := len_one (by simp) e
  obtain ⟨x, rfl, h1⟩ := h.one
  cases a <;> simp [biD] at e
  · obtain ⟨g, e⟩ := guardP_some e
    cases e
    cases h1.str
    exact ⟨_, _, rfl, ⟨szOk_le g, rfl⟩, q _ H (Same.refl H) (RN.of (by simp only [R]) rfl)⟩
  · subst e
    obtain ⟨a, xs, rfl, s1, r1⟩ := h1.list
    exact ⟨_, _, rfl, .inl ⟨xs, s1, rfl⟩, q _ H (Same.refl H) (RN.of (by simp only [R]; rw [r1.length]) rfl)⟩
  · subst e
    obtain ⟨a, xs, rfl, s1, r1⟩ := h1.tuple
    exact ⟨_, _, rfl, .inr ⟨xs, s1.sq, rfl⟩, q _ H (Same.refl H) (RN.of (by simp only [R]; rw [r1.length]) rfl)⟩
theorem bi_list : CallR X (.type "list") (rDL X (biD "list")) := by
  refine callr_weak call_list_of fun xs H Q ⟨W, ds, d, hW, h, e, q⟩ => ?_
  obtain ⟨a, rfl⟩ := len_one (by simp) e
  obtain ⟨x, rfl, h1⟩ := h.one
  cases a <;> simp [biD] at e
  · subst e
    obtain ⟨a, xs, rfl, s1, r1⟩ := h1.list
    exact ⟨_, xs, rfl, .inl s1, fun p hp => q _ _ (same_new hp) (RN.newLst hW hp r1)⟩
  · subst e
    obtain ⟨a, xs, rfl, s1, r1⟩ := h1.tuple
    exact ⟨_, xs, rfl, .inr s1.sq, fun p hp => q _ _ (same_new hp) (RN.newLst hW hp r1)⟩
theorem bi_tuple : CallR X (.type "tuple") (rDL X (biD "tuple")) := by
  refine callr_weak call_tuple_of fun xs H Q ⟨W, ds, d, hW, h, e, q⟩ => ?_
  obtain ⟨a, rfl⟩ := len_one (by simp) e
  obtain ⟨x, rfl, h1⟩ := h.one
  cases a <;> simp [biD] at e
  · subst e
    obtain ⟨a, xs, rfl, s1, r1⟩ := h1.list
    exact ⟨_, xs, rfl, .inl ⟨s1, fun p hp => q _ _ (same_new hp) (RN.of (R.newTup hW hp r1) rfl)⟩⟩
  · subst e
    obtain ⟨a, xs, rfl, s1, r1⟩ := h1.tuple
    exact ⟨_, xs, rfl, .inr ⟨s1.sq, q _ H (Same.refl H) (RN.of (by simp only [R]; exact ⟨a, xs, rfl, s1, r1⟩) rfl)⟩⟩
theorem bi_int : CallR X (.type "int") (rDL X (biD "int")) := by
  refine callr_weak call_int1 fun xs H Q ⟨W, ds, d, hW, h, e, q⟩ => ?_
  obtain ⟨a, rfl⟩ := len_one (by simp) e
  obtain ⟨x, rfl, h1⟩ := h.one
  cases a <;> simp [biD] at e
  · subst e
    cases h1.bool
    exact .inr ⟨_, rfl, q _ H (Same.refl H) (RN.of (by simp only [R]) rfl)⟩
  · subst e
    cases h1.int
    exact .inl ⟨_, rfl, q _ H (Same.refl H) (RN.of (by simp only [R]) rfl)⟩
theorem bi_all (hc : X.calm = true) : CallR X (.builtin "all") (rDL X (biD "all")) := by
  refine callr_weak (cr_all hc) fun xs H Q ⟨W, ds, d, hW, h, e, q⟩ => ?_
  obtain ⟨a, rfl⟩ := len_one (by simp) e
  obtain ⟨x, rfl, h1⟩ := h.one
  cases a <;> simp only [biD] at e <;> first | cases e | skip
  obtain ⟨bs, e2, hb⟩ := Option.map_eq_some_iff.mp e
  have e3 := boolsOf_map e2
  subst e3
  subst hb
  obtain ⟨a, xs, rfl, s1, r1⟩ := h1.list
  have e4 := Rs.of_bls r1
  subst e4
  exact ⟨a, bs, rfl, s1, q _ H (Same.refl H) (RN.of (by simp only [R]) rfl)⟩
theorem bi_any (hc : X.calm = true) : CallR X (.builtin "any") (rDL X (biD "any")) := by
  refine callr_weak (cr_any hc) fun xs H Q ⟨W, ds, d, hW, h, e, q⟩ => ?_
  obtain ⟨a, rfl⟩ := len_one (by simp) e
  obtain ⟨x, rfl, h1⟩ := h.one
  cases a <;> simp only [biD] at e <;> first | cases e | skip
  obtain ⟨bs, e2, hb⟩ := Option.map_eq_some_iff.mp e
  have e3 := boolsOf_map e2
  subst e3
  subst hb
  obtain ⟨a, xs, rfl, s1, r1⟩ := h1.list
  have e4 := Rs.of_bls r1
  subst e4
  exact ⟨a, bs, rfl, s1, q _ H (Same.refl H) (RN.of (by simp only [R]) rfl)⟩
theorem bi_sum (hc : X.calm = true) : CallR X (.builtin "sum") (rDL X (biD "sum")) := by
  refine callr_weak (cr_sum hc) fun xs H Q ⟨W, ds, d, hW, h, e, q⟩ => ?_
  obtain ⟨a, rfl⟩ := len_one (by simp) e
  obtain ⟨x, rfl, h1⟩ := h.one
  cases a <;> simp only [biD] at e <;> first | cases e | skip
  obtain ⟨bs, e2, hb⟩ := Option.map_eq_some_iff.mp e
  have e3 := intsOf_map e2
  subst e3
  subst hb
  obtain ⟨a, xs, rfl, s1, r1⟩ := h1.list
  have e4 := Rs.of_ints r1
  subst e4
  exact ⟨a, bs, rfl, s1, q _ H (Same.refl H) (RN.of (by simp only [R]) rfl)⟩
theorem two_of {f : String} {ds : List D} {d : D} (hf : f = "min" ∨ f = "max") (h : biD f ds = some d) : ∃ i j, ds = [.int i, .int j] := by
  match ds with
  | [] => rcases hf with rfl | rfl <;> simp [biD] at h
  | [a] => rcases hf with rfl | rfl <;> simp [biD] at h
  | [a, b] => rcases hf with rfl | rfl <;> cases a <;> cases b <;> simp [biD] at h <;> exact ⟨_, _, rfl⟩
  | a :: b :: c :: r => rcases hf with rfl | rfl <;> simp [biD] at h
theorem bi_min (hc : X.calm = true) : CallR X (.builtin "min") (rDL X (biD "min")) := by
  refine callr_weak (call_min2 hc) fun xs H Q ⟨W, ds, d, hW, h, e, q⟩ => ?_
  obtain ⟨i, j, rfl⟩ := two_of (by simp) e
  obtain ⟨x, y, rfl, h1, h2⟩ := h.two
  simp only [biD, Option.some.injEq] at e
  subst e
  cases h1.int
  cases h2.int
  exact ⟨i, j, rfl, q _ H (Same.refl H) (RN.of (by simp only [R]) rfl)⟩
theorem bi_max (hc : X.calm = true) : CallR X (.builtin "max") (rDL X (biD "max")) := by
  refine callr_weak (call_max2 hc) fun xs H Q ⟨W, ds, d, hW, h, e, q⟩ => ?_
  obtain ⟨i, j, rfl⟩ := two_of (by simp) e
  obtain ⟨x, y, rfl, h1, h2⟩ := h.two
  simp only [biD, Option.some.injEq] at e
  subst e
  cases h1.int
  cases h2.int
  exact ⟨i, j, rfl, q _ H (Same.refl H) (RN.of (by simp only [R]) rfl)⟩
/-! isinstance -/
theorem RP.tyx {d : D} {x : V} (h : RP (X.K, X.w) H W d x) (hd : ∀ kvs, d ≠ .dict kvs) : TyX X.K H x (.type (tyD d)) := by
  cases d with
  | none => cases h.none; exact .base .non
  | bool b => cases h.bool; exact .base (.bl _)
  | int b => cases h.int; exact .base (.int _)
  | str b => cases h.str; exact .base (.str _)
  | list ds =>
    obtain ⟨a, xs, rfl, s1, r1⟩ := h.list
    rcases s1 with (s1 | ⟨o, s1⟩) | ⟨o, its, n, hk, hc, _⟩
    · exact .base (.lst s1)
    · exact .base (.frz s1)
    · exact .kList hk hc
  | tuple ds =>
    obtain ⟨a, xs, rfl, s1, r1⟩ := h.tuple
    rcases s1.sq with (s1 | ⟨o, s1⟩) | ⟨o, its, n, hk, hc, _⟩
    · exact .base (.tup s1)
    · exact .fTuple s1
    · exact .kTuple hk hc
  | dict kvs => exact absurd rfl (hd kvs)
def isiTs : List String := ["str", "int", "bool", "tuple", "list", "dict"]
theorem kit_all : ∀ t ∈ isiTs, ∀ u ∈ ["NoneType", "bool", "int", "str", "list", "tuple", "dict"], kitB u t = some (decide (u = t) || (decide (u = "bool") && decide (t = "int"))) := by decide +kernel
theorem tyD_mem (d : D) : tyD d ∈ ["NoneType", "bool", "int", "str", "list", "tuple", "dict"] := by cases d <;> simp [tyD]
/-- a dict of ours, for isinstance -/
theorem kit_dict {o : Obj} {a : Addr} {u : Value} (I : Inv X pins σ H s) (e : H a = some (.ext fun h => h.get? a = some o)) (hx : o.ExactDict) (r : RelV (.ref a) u) : ∃ P : Heap → Prop, PySem.W.KitX X.K u (.type "dict") P ∧ P s.heap ∧ u ≠ .builtin "__main__.__loader__#opaque" := by
  cases r
  have h1 := (I.hok a _ e).1
  exact ⟨_, PySem.W.kitx_dict, ⟨o, h1, hx.1⟩, fun z => nomatch z⟩
theorem bi_sorted (hu : X.A.units + 70 < cLine) : CallR X (.builtin "sorted") (rDL X (biD "sorted")) := by
  intro pins s σ H xs us Q I rx ⟨W, ds, d, hW, h, e, q⟩
  obtain ⟨a, rfl⟩ := len_one (by simp) e
  obtain ⟨x, rfl, h1⟩ := h.one
  cases a <;> simp only [biD] at e <;> first | cases e | skip
  rename_i ds
  obtain ⟨g, e⟩ := guardP_some e
  cases e
  obtain ⟨al, so, sh, hl⟩ := srtOk_all g
  obtain ⟨a, vs, rfl, s1, r1⟩ := h1.list
  rw [Vals.ref1 rx]
  obtain ⟨its, rv, hL, hz⟩ := I.list s1
  have hlen := r1.length
  have hzl : ((ds.zip ds).zip vs).length = ds.length := by rw [List.length_zip, List.length_zip, hlen]; omega
  have em : ((ds.zip ds).zip vs).map (fun b => b.1.2) = ds := by
    rw [show (fun b : (D × D) × V => b.1.2) = Prod.snd ∘ Prod.fst from rfl, ← List.map_map, List.map_fst_zip (by rw [List.length_zip, hlen]; omega), List.map_snd_zip (Nat.le_refl _)]
  have em1 : ((ds.zip ds).zip vs).map (fun b => b.1.1) = ds := by
    rw [show (fun b : (D × D) × V => b.1.1) = Prod.fst ∘ Prod.fst from rfl, ← List.map_map, List.map_fst_zip (by rw [List.length_zip, hlen]; omega), List.map_fst_zip (Nat.le_refl _)]
  have em2 : ((ds.zip ds).zip vs).map (fun b => b.2) = vs := by
    rw [show (fun b : (D × D) × V => b.2) = Prod.snd from rfl, List.map_snd_zip (by rw [List.length_zip, hlen]; omega)]
  have pl : PyData.plainAll ds = true := by
    have : ∀ (l : List D), (∀ d ∈ l, shp d = true) → PyData.plainAll l = true := fun l => by
      induction l with
      | nil => exact fun _ => rfl
      | cons d l ih =>
        intro h
        simp only [PyData.plainAll, Bool.and_eq_true]
        exact ⟨shp_plain (h d List.mem_cons_self), ih fun e he => h e (List.mem_cons_of_mem _ he)⟩
    exact this ds sh
  obtain ⟨as, hr⟩ := Rs.reads I ds vs its pl r1 rv
  have e1 : PySem.W.EachIs (fun (u : Value) (b : (D × D) × V) => RelV b.2 u) its ((ds.zip ds).zip vs) := each_vals (fun b : (D × D) × V => b.2) (by rw [em2]; exact rv)
  have e2 := PySem.W.each_mem e1
  have e3 : PySem.W.EachIs (fun v (b : (D × D) × V) => ∃ as, Reads s.heap v b.1.2 as) its ((ds.zip ds).zip vs) := PySem.W.readsAll_each (fun b : (D × D) × V => b.1.2) (by rw [em]; exact hr)
  refine PySem.W.sorted_data (enc := fun b : (D × D) × V => b.1.2) hL.isList e2 e3 (by rw [em]; exact al) (by rw [em]; exact so) (by rw [hzl, sizeLine_eq]; exact hl) (fun b hb => ?_) fun out ho hE => ?_
  · have : b.1.2 ∈ ds := by rw [← em]; exact List.mem_map_of_mem hb
    have := shp_depth (sh _ this)
    omega
  · obtain ⟨ep, he'⟩ := PyProof.Rows.sortedAll_at s.heap its out.toArray
    have hv := vals_each (P := fun b : (D × D) × V => b ∈ (ds.zip ds).zip vs) (fun b : (D × D) × V => b.2) hE
    have hn := I.hok.fresh (Nat.le_succ s.heap.objs.size)
    have hR : Rs (X.K, X.w) H W (srtK ds ds) ((((ds.zip ds).zip vs).mergeSort (PySem.W.dataLe false fun b : (D × D) × V => b.1.2)).map fun b : (D × D) × V => b.2) := by
      rw [← srt_back hlen.symm rfl]
      refine rs_pairs _ _ _ fun p hp => ?_
      have hp := List.mem_mergeSort.mp hp
      have h3 : (p.1.1, p.2) ∈ ds.zip vs := by
        have : (((ds.zip ds).zip vs).map fun b : (D × D) × V => (b.1.1, b.2)) = ds.zip vs := by
          have z := List.zip_map' (f := fun b : (D × D) × V => b.1.1) (g := fun b : (D × D) × V => b.2) (l := (ds.zip ds).zip vs)
          rw [em1, em2] at z
          exact z.symm
        rw [← this]
        exact List.mem_map_of_mem hp
      exact rs_zip r1 _ h3
    refine ⟨.ref _, upd H (s.heap.objs.size + 1) (.lst ((((ds.zip ds).zip vs).mergeSort (PySem.W.dataLe false fun b : (D × D) × V => b.1.2)).map fun b : (D × D) × V => b.2)), I.laid (t' := s.toks) (fun _ _ => PyProof.Rows.sortedAll_old) (Nat.le_succ _) ⟨?_, out, ep, hv, he'⟩, rfl, q _ _ (same_new hn) (RN.newLst hW hn hR)⟩
    rw [List.length_map, List.length_mergeSort, hzl, sizeLine_eq]
    exact hl
theorem bi_isi (t : String) (ht : t ∈ isiTs) : CallR X (.builtin "isinstance") (fun xs H Q => ∃ W x d, xs = [x, .ty t] ∧ RP (X.K, X.w) H W d x ∧ ∀ b, isiD d t = some (.bool b) → Q (.bl b) H) := by
  intro pins s σ H xs us Q I r h
  obtain ⟨W, x, d, rfl, h1, q⟩ := h
  have ek := kit_all t ht (tyD d) (tyD_mem d)
  have ek2 : PySem.W.kitOne X.K (.type (tyD d)) (.type t) = some (decide (tyD d = t) || (decide (tyD d = "bool") && decide (t = "int"))) := kit_ty ek
  have q2 := q (decide (tyD d = t) || (decide (tyD d = "bool") && decide (t = "int"))) (by
    unfold isiD
    rw [if_pos]
    simpa [isiTs] using ht)
  by_cases hd : ∃ kvs, d = .dict kvs
  · obtain ⟨kvs, rfl⟩ := hd
    obtain ⟨u1, u2, rfl, r1, r2⟩ := vals2 r
    have e2 : u2 = .type t := r2
    subst e2
    have key : ∃ a o, x = .ref a ∧ H a = some (.ext fun h => h.get? a = some o) ∧ o.ExactDict := by
      rcases h1 with h1 | ⟨a, rfl, h1⟩
      · simp only [R] at h1
        obtain ⟨a, o, es, ep, rfl, h2, _, _, h3, _⟩ := h1
        exact ⟨a, o, rfl, h2, h3⟩
      · simp only [OwnAt] at h1
        obtain ⟨o, es, ep, h2, _, h3, _⟩ := h1
        exact ⟨a, o, rfl, h2, h3⟩
    obtain ⟨a, o, rfl, h2, h3⟩ := key
    obtain ⟨P, Z, p, hx⟩ := kit_dict I h2 h3 r1
    exact PySem.W.kia_one Z I.kIn p ek2 hx fun tk => ⟨.bl _, H, I.tok tk, rfl, q2⟩
  · exact call_isi pins s σ H _ us Q I r ⟨x, .ty t, .type (tyD d), .type t, _, rfl, .ty t, h1.tyx (fun kvs e => hd ⟨kvs, e⟩), ek2, q2⟩
end
end DI
set_option Elab.async false
set_option linter.all false
set_option maxRecDepth 100000
set_option maxHeartbeats 4000000
/-! what is walked; slots -/
namespace DI
open PySem PySem.Spec PyProof.Rows L2
/-- what the iterator gives, whatever comes between; ap: what stays, be it owned -/
def Feeds (K : PySem.W.Frag × World) (H : Hp) (W ap : WS) (ds : List D) (J : It) : Prop := ∀ H' W', Stp H W H' W' → (∀ a, ap a → ∀ o, H a = some o → H' a = some o) → (∀ a, W' a → H' a ≠ none) →
  (∀ (i : Nat) (d : D), ds[i]? = some d → J.go i H' ∧ ∀ x H'', J.yld i H' x H'' → Same H' H'' ∧ R K H'' W' d x) ∧ J.stop ds.length H'
def FeedsM (K : PySem.W.Frag × World) (pk : Bool) : Rel (List D) It := fun _ Φ _ U _ H ds J => ∃ ap : WS, (pk = false → ∀ a, ¬ ap a) ∧ Feeds K H (WU Φ U) ap ds J
abbrev tI (X : Cx) (Wx : WX) (pu pk : Bool) (ρ : Rho) (o : EO (List D)) : TI := An X Wx pu ρ o (FeedsM (X.K, X.w) pk)
section
variable {X : Cx} {pins : List (Addr × Obj)} {σ : L2.St} {H H' H1 : Hp} {W W' U ap : WS} {s : Shared} {k : Nat} {K : PySem.W.Frag × World} {Φ : Fr} {ρ ρ' ρ1 : Rho} {pu pk : Bool} {F F' : Nat → List Addr}
theorem pi_or {tg e : Expr} {t t' : TI} (h : PI X tg e t) (h' : PI X tg e t') : PI X tg e (fun σ H Q => t σ H Q ∨ t' σ H Q) := ⟨fun pins s σ H Q I q => q.elim (h.run pins s σ H Q I) (h'.run pins s σ H Q I)⟩
theorem feeds_sq {a : Addr} {xs : List V} {ds : List D} (r : Rs K H W ds xs) (s1 : ∀ H' W', Stp H W H' W' → (∀ a, ap a → ∀ o, H a = some o → H' a = some o) → SqL K.1 H' a xs) : Feeds K H W ap ds (Itl K.1 a) := by
  intro H' W' st kp tr
  have s2 := s1 H' W' st kp
  have r2 := Rs.stp st _ _ r
  refine ⟨fun i d e => ?_, xs, s2, by rw [r.length]; exact Nat.le_refl _⟩
  obtain ⟨x, e1, r3⟩ := r2.get e
  refine ⟨⟨xs, x, s2, e1⟩, fun y H'' ⟨eh, hy⟩ => ?_⟩
  subst eh
  refine ⟨Same.refl _, ?_⟩
  have := hy xs s2
  rw [e1] at this
  cases this
  exact r3
theorem feeds_list {a : Addr} {xs : List V} {ds : List D} (s1 : LstAt K.1 H W a xs) (r : Rs K H W ds xs) : Feeds K H W ap ds (Itl K.1 a) := feeds_sq r fun H' W' st _ => (s1.stp st).sq
theorem feeds_lst {a : Addr} {xs : List V} {ds : List D} (h : H a = some (.lst xs)) (ha : ap a) (r : Rs K H W ds xs) : Feeds K H W ap ds (Itl K.1 a) := feeds_sq r fun H' W' st kp => .of (kp a ha _ h)
theorem feeds_tup {a : Addr} {xs : List V} {ds : List D} (s1 : TupAt K.1 H W a xs) (r : Rs K H W ds xs) : Feeds K H W ap ds (Itt K.1 a) := by
  intro H' W' st kp tr
  have s2 := s1.stp st
  have r2 := Rs.stp st _ _ r
  refine ⟨fun i d e => ?_, xs, s2.sq, by rw [r.length]; exact Nat.le_refl _⟩
  obtain ⟨x, e1, r3⟩ := r2.get e
  refine ⟨⟨xs, x, s2.sq, e1⟩, fun y H'' ⟨eh, hy⟩ => ?_⟩
  subst eh
  refine ⟨Same.refl _, ?_⟩
  have := hy xs s2.sq
  rw [e1] at this
  cases this
  exact r3
theorem feeds_str {x : Str} : Feeds K H W ap (x.cps.toList.map fun c => .str ⟨#[c]⟩) (Its x) := by
  intro H' W' st kp tr
  refine ⟨fun i d e => ?_, ?_⟩
  · rw [List.getElem?_map] at e
    obtain ⟨c, e1, rfl⟩ := Option.map_eq_some_iff.mp e
    have e2 : x.cps[i]? = some c := by simpa using e1
    have hlt : i < x.cps.size := (Array.getElem?_eq_some_iff.mp e2).1
    refine ⟨hlt, fun y H'' ⟨eh, c', e3, hy⟩ => ?_⟩
    subst eh
    rw [e2] at e3
    cases e3
    refine ⟨Same.refl _, ?_⟩
    simp only [R]
    exact hy
  · show x.cps.size ≤ _
    simp
theorem feeds_rng {lo : Int} {n : Nat} : Feeds K H W ap ((List.range n).map fun (k : Nat) => .int (lo + k)) (Itr lo n) := by
  intro H' W' st kp tr
  refine ⟨fun i d e => ?_, ?_⟩
  · rw [List.getElem?_map] at e
    obtain ⟨c, e1, rfl⟩ := Option.map_eq_some_iff.mp e
    have hlt : i < n := by
      have := (List.getElem?_eq_some_iff.mp e1).1
      simpa using this
    have ec : c = i := by
      rw [List.getElem?_range hlt] at e1
      exact (Option.some.inj e1).symm
    subst ec
    refine ⟨hlt, fun y H'' ⟨eh, hy⟩ => ?_⟩
    subst eh
    refine ⟨Same.refl _, ?_⟩
    simp only [R]
    exact hy
  · show n ≤ _
    simp
/-! the keys of a dict -/
def Itx (d : Addr) (o : Obj) (xs : List V) : It :=
  ⟨fun i H => H d = some (.ext fun h => h.get? d = some o) ∧ i < xs.length, fun i H x H' => H' = H ∧ xs[i]? = some x, fun i H => H d = some (.ext fun h => h.get? d = some o) ∧ xs.length ≤ i⟩
theorem turn_keysX {P : Program} {w : World} {K : PySem.W.Frag} {tg : Expr} {d : Addr} {o : Obj} {es : Array DictEntry} {ep : Nat} {xs : List V} (it : Addr) (hod : o.data = .dict es ep) (hl : es.size = xs.length) (hx : ∀ (i : Nat) (x : V), xs[i]? = some x → ∃ en, es[i]? = some en ∧ RelV x en.key) :
    Turn P w K tg (Itx d o xs) [it] it (fun i h => h.IsKeyIter it d i xs.length ep) where
  mem := by simp
  obj := fun i h st b hb => by
    have e : b = it := by simpa using hb
    subst e
    obtain ⟨oi, e, c, dd⟩ := st
    exact ⟨oi, e, fun v z => by rw [dd] at z; cases z⟩
  keep := fun i h h' st k => st.at fun oi e => k it (by simp) oi e
  item := by
    intro X hP hw hK hc i pins s σ H E I hf st hg
    subst hP hw hK
    obtain ⟨hd, hi⟩ := hg
    obtain ⟨f0, f1, f2, f3, f4, f5⟩ := hf it (by simp)
    have hgd : s.heap.get? d = some o := (I.hok d _ hd).1
    have hxi : xs[i]? = some xs[i] := List.getElem?_eq_getElem hi
    obtain ⟨en, hen, hk⟩ := hx i _ hxi
    refine next_key_item st hgd hod hl hen fun h' st' sb => ?_
    have I1 : Inv X pins σ H { s with heap := h' } := I.turned (t' := s.toks) (fun b ob hb e => (sb.2 b hb).trans e) f0 f1 f3 f4 f5
    obtain ⟨oi, e, c, dd⟩ := id st'
    exact ⟨en.key, rfl, go_of (s := { s with heap := h' }) e c dd (by decide) ⟨_, H, I1, hk, ⟨rfl, hxi⟩, st', fun b hb => (hf b hb).1⟩⟩
  done := by
    intro X hP hw hK hc i pins s σ H E I hf st hg
    subst hP hw hK
    obtain ⟨hd, hi⟩ := hg
    obtain ⟨f0, f1, f2, f3, f4, f5⟩ := hf it (by simp)
    have hgd : s.heap.get? d = some o := (I.hok d _ hd).1
    exact next_key_end (I.ok.hd hc) st hgd hod hl hi fun h' eb => ⟨rfl, I.turned (t' := s.toks) (fun b ob hb e => eb b ob hb e) f0 f1 f3 f4 f5⟩
  self := fun A i s Q E st h => wpAny_pyIter_keyiter st h
theorem re_keys : ∀ {kvs : List (D × D)} {es : List DictEntry}, Re K H W kvs es → ∃ xs : List V, es.length = xs.length ∧ Rs K H W (kvs.map Prod.fst) xs ∧ ∀ (i : Nat) (x : V), xs[i]? = some x → ∃ en, es[i]? = some en ∧ RelV x en.key
  | [], es, h => by
    have : es = [] := by simpa only [Re] using h
    subst this
    exact ⟨[], rfl, by simp [Rs], fun i x e => by simp at e⟩
  | (k, d) :: kvs, es, h => by
    simp only [Re] at h
    obtain ⟨e, r, x, y, rfl, h1, h2, h3, h4, h5, h6⟩ := h
    obtain ⟨xs, q1, q2, q3⟩ := re_keys h6
    refine ⟨x :: xs, by simp [q1], by simp only [List.map_cons, Rs]; exact ⟨x, xs, rfl, h2, q2⟩, fun i z ez => ?_⟩
    cases i with
    | zero => simp at ez; subst ez; exact ⟨e, rfl, h1⟩
    | succ i => obtain ⟨en, w1, w2⟩ := q3 i z (by simpa using ez); exact ⟨en, by simpa using w1, w2⟩
def iDic (td : TE) : TI := fun σ H Q => td σ H fun x H1 => ∃ d o es ep, x = .ref d ∧ H1 d = some (.ext fun h => h.get? d = some o) ∧ (d == sysModules) = false ∧ o.ExactDict ∧ o.data = .dict es ep ∧ ∃ xs : List V, es.size = xs.length ∧ (∀ (i : Nat) (x : V), xs[i]? = some x → ∃ en, es[i]? = some en ∧ RelV x en.key) ∧ Q (Itx d o xs) H1
theorem pi_dic {tg e : Expr} {td : TE} (he : PE X e td) : PI X tg e (iDic td) := by
  refine ⟨fun pins s σ H Q I h => ?_⟩
  refine thn (he.run pins s σ H _ I h) fun u s1 ⟨x, H1, I1, rx, d, o, es, ep, ex, hd, hs, hx, hdt, xs, hl, hk, q⟩ => ?_
  subst ex
  obtain rfl : u = Value.ref d := rx
  have hgd : s1.heap.get? d = some o := (I1.hok d _ hd).1
  refine iter_keys hs hgd hx hdt (pi_one (tk := s1.toks) I1 _ (turn_keysX _ hdt hl hk) ⟨_, Heap.get?_push_size _ rfl, rfl, ?_⟩ q)
  rw [hl] <;> rfl
theorem feeds_dic {d : Addr} {o : Obj} {kvs : List (D × D)} {xs : List V} (h : H d = some (.ext fun h => h.get? d = some o)) (hd : ¬ W d ∨ ap d) (r : Rs K H W (kvs.map Prod.fst) xs) : Feeds K H W ap (kvs.map Prod.fst) (Itx d o xs) := by
  intro H' W' st kp tr
  have h2 : H' d = some (.ext fun h => h.get? d = some o) := hd.elim (fun z => (st.keep d _ h z).1) fun z => kp d z _ h
  have r2 := Rs.stp st _ _ r
  refine ⟨fun i d' e => ?_, h2, by rw [r.length]; exact Nat.le_refl _⟩
  obtain ⟨x, e1, r3⟩ := r2.get e
  have hi : i < xs.length := (List.getElem?_eq_some_iff.mp e1).1
  refine ⟨⟨h2, hi⟩, fun y H'' ⟨eh, hy⟩ => ?_⟩
  subst eh
  rw [e1] at hy
  cases hy
  exact ⟨Same.refl _, r3⟩
theorem pi_val {tg e : Expr} {Wx : WX} {g : Rho → EO D} (h : PE X e (fun σ H Q => ∃ ρ, tE X Wx pu (if pk = true then .pk else .val) ρ (g ρ) σ H Q)) : PI X tg e (fun σ H Q => ∃ ρ, tI X Wx pu pk ρ ((g ρ).bind fun x ρ => eob (itemsD x) ρ) σ H Q) := by
  refine PI.imp (pi_or (pi_list h) (pi_or (pi_tup h) (pi_or (pi_str h) (pi_dic h)))) fun σ H Q ⟨ρ, Φ, U, q⟩ => ?_
  obtain ⟨rep, q⟩ := q
  cases eo : g ρ with
  | bad => rw [eo] at q; exact q.elim
  | exc c p ρ1 =>
    rw [eo] at q
    exact .inl ⟨ρ, Φ, U, rep, by rw [eo]; exact q⟩
  | ok d ρ1 =>
    rw [eo] at q
    simp only [ebind_ok] at q
    cases e1 : itemsD d with
    | none => rw [e1] at q; exact q.elim
    | some ds =>
    rw [e1] at q
    have rr : ∀ {ρ : Rho} {U : WS} {H H' : Hp} {v : V}, RM (X.K, X.w) (if pk = true then .pk else .val) σ Φ ρ U H H' d v → RP (X.K, X.w) H' (WU Φ U) d v ∧ (pk = false → R (X.K, X.w) H' (WU Φ U) d v) := fun {ρ U H H' v} r => by
      cases pk
      · exact ⟨.inl r, fun _ => r⟩
      · exact ⟨r, fun z => by cases z⟩
    cases d <;> simp only [itemsD] at e1 <;> first | cases e1 | skip
    · refine .inr (.inr (.inl ⟨ρ, Φ, U, rep, ?_⟩))
      rw [eo]
      refine fun v H' U' r1 s1 l1 u1 r => ?_
      have r := (rr r).1.str
      exact ⟨_, r, q _ H' U' r1 s1 l1 u1 ⟨fun _ => False, fun _ _ z => z, feeds_str⟩⟩
    · rename_i ds
      refine .inl ⟨ρ, Φ, U, rep, ?_⟩
      rw [eo]
      refine fun v H' U' r1 s1 l1 u1 r0 => ?_
      obtain ⟨rp, rv⟩ := rr r0
      clear r0
      cases pk with
      | false =>
        have r := rv rfl
        simp only [R] at r
        obtain ⟨a, xs, rfl, s2, r2⟩ := r
        exact ⟨a, rfl, ⟨xs, s2.sq⟩, q _ H' U' r1 s1 l1 u1 ⟨fun _ => False, fun _ _ z => z, feeds_list s2 r2⟩⟩
      | true =>
        rcases rp with r | ⟨a, rfl, r⟩
        · simp only [R] at r
          obtain ⟨a, xs, rfl, s2, r2⟩ := r
          exact ⟨a, rfl, ⟨xs, s2.sq⟩, q _ H' U' r1 s1 l1 u1 ⟨fun _ => False, fun _ _ z => z, feeds_list s2 r2⟩⟩
        · simp only [OwnAt] at r
          obtain ⟨xs, s2, r2⟩ := r
          exact ⟨a, rfl, ⟨xs, .of s2⟩, q _ H' U' r1 s1 l1 u1 ⟨fun b => b = a, (fun z => by cases z), feeds_lst s2 rfl r2⟩⟩
    · refine .inr (.inl ⟨ρ, Φ, U, rep, ?_⟩)
      rw [eo]
      refine fun v H' U' r1 s1 l1 u1 r => ?_
      obtain ⟨a, xs, rfl, s2, r2⟩ := (rr r).1.tuple
      exact ⟨a, rfl, ⟨xs, s2.sq⟩, q _ H' U' r1 s1 l1 u1 ⟨fun _ => False, fun _ _ z => z, feeds_tup s2 r2⟩⟩
    · rename_i kvs
      refine .inr (.inr (.inr ⟨ρ, Φ, U, rep, ?_⟩))
      rw [eo]
      refine fun v H' U' r1 s1 l1 u1 r0 => ?_
      obtain ⟨rp, rv⟩ := rr r0
      clear r0
      cases pk with
      | false =>
        have r := rv rfl
        simp only [R] at r
        obtain ⟨a, o, es, ep, rfl, h1, n, h2, h3, h4, r, hk⟩ := r
        obtain ⟨xs, k1, k2, k3⟩ := re_keys r
        exact ⟨a, o, es, ep, rfl, h1, h2, h3, h4, xs, by simpa using k1, fun i x e => by simpa using k3 i x e, q _ H' U' r1 s1 l1 u1 ⟨fun _ => False, fun _ _ z => z, feeds_dic h1 (.inl n) k2⟩⟩
      | true =>
        rcases rp with r | ⟨a, rfl, r⟩
        · simp only [R] at r
          obtain ⟨a, o, es, ep, rfl, h1, n, h2, h3, h4, r, hk⟩ := r
          obtain ⟨xs, k1, k2, k3⟩ := re_keys r
          exact ⟨a, o, es, ep, rfl, h1, h2, h3, h4, xs, by simpa using k1, fun i x e => by simpa using k3 i x e, q _ H' U' r1 s1 l1 u1 ⟨fun _ => False, fun _ _ z => z, feeds_dic h1 (.inl n) k2⟩⟩
        · simp only [OwnAt] at r
          obtain ⟨o, es, ep, h1, h2, h3, h4, r, hk⟩ := r
          obtain ⟨xs, k1, k2, k3⟩ := re_keys r
          exact ⟨a, o, es, ep, rfl, h1, h2, h3, h4, xs, by simpa using k1, fun i x e => by simpa using k3 i x e, q _ H' U' r1 s1 l1 u1 ⟨fun b => b = a, (fun z => by cases z), feeds_dic h1 (.inr rfl) k2⟩⟩
end
end DI
set_option Elab.async false
set_option linter.all false
set_option maxRecDepth 100000
set_option maxHeartbeats 4000000
/-! slots -/
namespace DI
open PySem PySem.Spec PyProof.Rows L2
section
variable {X : Cx} {pins : List (Addr × Obj)} {σ σ0 : L2.St} {H H' H1 H0 : Hp} {W W' U U0 : WS} {s : Shared} {k : Nat} {K : PySem.W.Frag × World} {Φ : Fr} {ρ ρ' ρ1 ρ0 : Rho} {pu : Bool} {F F' : Nat → List Addr}
/-! slots -/
theorem get_set {α : Type} {l : List α} {j i : Nat} {x y : α} (h : (l.set j x)[i]? = some y) : (i = j ∧ y = x ∧ j < l.length) ∨ (i ≠ j ∧ l[i]? = some y) := by
  by_cases hij : j = i
  · subst hij
    by_cases hl : j < l.length
    · rw [List.getElem?_set_self hl] at h
      cases h
      exact .inl ⟨rfl, rfl, hl⟩
    · rw [List.getElem?_eq_none (by simpa using hl)] at h
      cases h
  · rw [List.getElem?_set_ne hij] at h
    exact .inr ⟨fun z => hij z.symm, h⟩
theorem set_ne {α : Type} {l : List α} {j i : Nat} {x : α} (h : i ≠ j) : (l.set j x)[i]? = l[i]? := List.getElem?_set_ne (fun z => h z.symm)
theorem killbo_get {i j : Nat} {sl : Sl} (h : (killbo j ρ)[i]? = some sl) : (ρ[i]? = some sl ∧ ∀ k, sl ≠ .bo j k) ∨ (∃ k, ρ[i]? = some (.bo j k) ∧ sl = .un) := by
  unfold killbo at h
  rw [List.getElem?_map] at h
  obtain ⟨x, h1, h2⟩ := Option.map_eq_some_iff.mp h
  subst h2
  cases x with
  | bo j' k =>
    dsimp only
    by_cases hj : j' = j
    · subst hj
      exact .inr ⟨k, h1, by rw [if_pos rfl]⟩
    · rw [if_neg hj]
      exact .inl ⟨h1, fun k' z => hj (by cases z; rfl)⟩
  | _ => exact .inl ⟨h1, fun k z => by cases z⟩
theorem killbo_of {i j : Nat} {sl : Sl} (h : ρ[i]? = some sl) (n : ∀ k, sl ≠ .bo j k) : (killbo j ρ)[i]? = some sl := by
  unfold killbo
  rw [List.getElem?_map, h]
  cases sl with
  | bo j' k =>
    have : j' ≠ j := fun z => n k (by rw [z])
    simp [this]
  | _ => rfl
theorem killbo_len (j : Nat) : (killbo j ρ).length = ρ.length := by unfold killbo; simp
theorem unbo_get {i j : Nat} {kvs : List (D × D)} {sl : Sl} (h : (unbo j kvs ρ)[i]? = some sl) : (ρ[i]? = some sl ∧ ∀ k, sl ≠ .bo j k) ∨ (∃ k, ρ[i]? = some (.bo j k) ∧ sl = .sh ((getN kvs (nkOf k)).getD .none)) := by
  unfold unbo at h
  rw [List.getElem?_map] at h
  obtain ⟨x, h1, h2⟩ := Option.map_eq_some_iff.mp h
  subst h2
  cases x with
  | bo j' k =>
    dsimp only
    by_cases hj : j' = j
    · subst hj
      exact .inr ⟨k, h1, by rw [if_pos rfl]⟩
    · rw [if_neg hj]
      exact .inl ⟨h1, fun k' z => hj (by cases z; rfl)⟩
  | _ => exact .inl ⟨h1, fun k z => by cases z⟩
theorem unbo_of {i j : Nat} {kvs : List (D × D)} {sl : Sl} (h : ρ[i]? = some sl) (n : ∀ k, sl ≠ .bo j k) : (unbo j kvs ρ)[i]? = some sl := by
  unfold unbo
  rw [List.getElem?_map, h]
  cases sl with
  | bo j' k =>
    have : j' ≠ j := fun z => n k (by rw [z])
    simp [this]
  | _ => rfl
theorem unbo_len (j : Nat) (kvs : List (D × D)) : (unbo j kvs ρ).length = ρ.length := by unfold unbo; simp
def updF (F : Nat → List Addr) (i : Nat) (f : List Addr) : Nat → List Addr := fun j => if j = i then f else F j
theorem updF_self (i : Nat) (f : List Addr) : updF F i f i = f := if_pos rfl
theorem updF_ne {i j : Nat} {f : List Addr} (h : j ≠ i) : updF F i f j = F j := if_neg h
def UF (F : Nat → List Addr) : WS := fun a => ∃ i, a ∈ F i
/-- fewer are owned -/
theorem RepF.shrink (r : RepF K Φ U σ H ρ F) (hl : ρ'.length = ρ.length) (hsub : ∀ i a, a ∈ F' i → a ∈ F i) (hnd : ∀ i, (F' i).Nodup) (hok : ∀ (i : Nat) (sl : Sl), ρ'[i]? = some sl → (ρ[i]? = some sl ∧ F' i = F i) ∨ SlotOk K H Φ (UF F') σ[i]? (F' i) sl)
    (hbo : ∀ (i j : Nat) (k : D), ρ'[i]? = some (Sl.bo j k) → BoOk σ ρ' F' i j k) (hpin : ∀ (i : Nat) (sl : Sl), isPin sl = true → ρ[i]? = some sl → ρ'[i]? = some sl) (hlk : ∀ (i : Nat) (d : D), ρ'[i]? = some (Sl.lk d) → ρ[i]? = some (Sl.lk d)) : RepF K Φ (UF F') σ H ρ' F' ∧ ∀ a, UF F' a → U a := by
  have less : ∀ a, UF F' a → U a := fun a ⟨i, h⟩ => (r.mem a).mpr ⟨i, hsub i a h⟩
  have st : Stp H (WU Φ U) H (WU Φ (UF F')) := Stp.less fun a q => q.imp id (less a)
  refine ⟨⟨by rw [hl]; exact r.len, fun i hi => ?_, fun i sl e => ?_, hbo, hnd, fun i j a h1 h2 => r.sep i j a (hsub i a h1) (hsub j a h2), fun a => Iff.rfl, fun a h => r.own a (less a h), r.trk, fun i a h => ?_, fun i d h => r.lkp i d (hlk i d h)⟩, less⟩
  · have := r.out i (by rw [← hl]; exact hi)
    cases e : F' i with
    | nil => rfl
    | cons x l => have := hsub i x (by rw [e]; simp); rw [r.out i (by rw [← hl]; exact hi)] at this; cases this
  · rcases hok i sl e with ⟨h1, h2⟩ | h
    · rw [h2]
      exact (r.ok i sl h1).stp st (fun b _ o q => q) (fun a h => h) fun a h => h
    · exact h
  · obtain ⟨h1, d, h2, h3⟩ := r.pin i a h
    exact ⟨h1, d, hpin i d h3 h2, h3⟩
theorem RepF.ofR {i : Nat} {a : Addr} {d : D} (r : RepF K Φ U σ H ρ F) (hf : a ∈ F i) (hn : a ∉ F' i) (hsub : ∀ i a, a ∈ F' i → a ∈ F i) (h : OwnAt K H (WU Φ U) a d) : R K H (WU Φ (UF F')) d (.ref a) := by
  refine h.toR (fun b q => q.imp id fun ⟨j, hj⟩ => (r.mem b).mpr ⟨j, hsub j b hj⟩) fun q => ?_
  rcases q with q | ⟨j, hj⟩
  · exact r.own a ((r.mem a).mpr ⟨i, hf⟩) q
  · have := r.sep i j a hf (hsub j a hj)
    subst this
    exact hn hj
/-- an owned one is shared from now on -/
theorem RepF.frz (r : RepF K Φ U σ H ρ F) {i : Nat} {d : D} (e : ρ[i]? = some (.ow d)) : ∃ U' v, RepF K Φ U' σ H (ρ.set i (.sh d)) (updF F i []) ∧ (∀ a, U' a → U a) ∧ σ[i]? = some (some v) ∧ R K H (WU Φ U') d v := by
  obtain ⟨a, h1, h2, h3⟩ := r.ok i _ e
  have hl : i < ρ.length := (List.getElem?_eq_some_iff.mp e).1
  have hsub : ∀ j b, b ∈ updF F i [] j → b ∈ F j := fun j b h => by
    by_cases hj : j = i
    · subst hj; rw [updF_self] at h; cases h
    · rw [updF_ne hj] at h; exact h
  have hR := r.ofR (F' := updF F i []) (i := i) (a := a) (d := d) (by rw [h1]; simp) (by rw [updF_self]; simp) hsub h3
  obtain ⟨q1, q2⟩ := r.shrink (ρ' := ρ.set i (.sh d)) (F' := updF F i []) (by simp) hsub (fun j => by
      by_cases hj : j = i
      · subst hj; rw [updF_self]; simp
      · rw [updF_ne hj]; exact r.nd j) (fun j sl ej => by
      rcases get_set ej with ⟨h4, h5, _⟩ | ⟨h4, h5⟩
      · subst h4 h5
        exact .inr ⟨by rw [updF_self], _, h2, hR⟩
      · exact .inl ⟨h5, updF_ne h4⟩) (fun j j' k ej => by
      rcases get_set ej with ⟨h4, h5, _⟩ | ⟨h4, h5⟩
      · cases h5
      · obtain ⟨a1, bs, kvs, n, k', d1, b, g1, g2, g3, g4, g5, g6⟩ := r.bo j j' k h5
        have hne : j' ≠ i := fun z => by rw [z, e] at g1; cases g1
        exact ⟨a1, bs, kvs, n, k', d1, b, by rw [set_ne hne]; exact g1, by rw [updF_ne hne]; exact g2, g3, g4, g5, g6⟩) (fun j d1 hp ej => by
      have hne : j ≠ i := fun z => by rw [z, e] at ej; cases ej; cases hp
      rw [set_ne hne]; exact ej) (fun j d1 ej => by
      rcases get_set ej with ⟨h4, h5, _⟩ | ⟨h4, h5⟩
      · cases h5
      · exact h5)
  exact ⟨_, _, q1, q2, h2, hR⟩
theorem find_mapped {kvs : List (D × D)} (hn : (nks kvs).Nodup) : ∀ {n : Nat} {k d : D} {m : NestedKey}, kvs[n]? = some (k, d) → nkOf k = m → getN kvs m = some d := by
  induction kvs with
  | nil => intro n k d m h; simp at h
  | cons p kvs ih =>
    intro n k d m h hk
    simp only [nks, List.map_cons, List.nodup_cons] at hn
    unfold getN
    rw [List.find?_cons]
    cases n with
    | zero =>
      simp at h
      subst h
      simp [hk]
    | succ n =>
      have h' : kvs[n]? = some (k, d) := by simpa using h
      have hne : nkOf p.1 ≠ m := fun z => hn.1 (List.mem_map.mpr ⟨(k, d), List.mem_of_getElem? h', by rw [hk, z]⟩)
      have := ih hn.2 h' hk
      unfold getN at this
      simp [hne, this]
theorem dOk_nodup {kvs : List (D × D)} (h : dOk kvs = true) : (nks kvs).Nodup := by
  unfold dOk at h
  simp only [Bool.and_eq_true, decide_eq_true_eq] at h
  exact h.2.1
theorem re_of_get : ∀ {kvs : List (D × D)} {es : List DictEntry}, es.length = kvs.length → (∀ (n : Nat) (k d : D), kvs[n]? = some (k, d) → ∃ e x y, es[n]? = some e ∧ RelV x e.key ∧ R K H W k x ∧ e.hash = (nkOf k).hash K.2 ∧ RelV y e.val ∧ R K H W d y) → Re K H W kvs es
  | [], es, hl, _ => by
    have : es = [] := List.length_eq_zero_iff.mp hl
    simp [Re, this]
  | (k, d) :: kvs, es, hl, h => by
    obtain ⟨e, x, y, h1, h2, h3, h4, h5, h6⟩ := h 0 k d rfl
    cases es with
    | nil => simp at hl
    | cons e' r =>
      simp at h1
      subst h1
      simp only [Re]
      exact ⟨e', r, x, y, rfl, h2, h3, h4, h5, h6, re_of_get (by simpa using hl) fun n k d e => by simpa using h (n + 1) k d (by simpa using e)⟩
/-- what stands in an owned dict is frozen -/
theorem RepF.thaw (r : RepF K Φ U σ H ρ F) {i : Nat} {kvs : List (D × D)} (e : ρ[i]? = some (.od kvs)) : ∃ U' F', RepF K Φ U' σ H ((unbo i kvs ρ).set i (.ow (.dict kvs))) F' ∧ (∀ a, U' a → U a) := by
  obtain ⟨a, bs, h1, h2, h3⟩ := r.ok i _ e
  have hl : i < ρ.length := (List.getElem?_eq_some_iff.mp e).1
  have hnd := r.nd i
  rw [h1, List.nodup_cons] at hnd
  have hsub : ∀ j b, b ∈ updF F i [a] j → b ∈ F j := fun j b h => by
    by_cases hj : j = i
    · subst hj; rw [updF_self] at h; rw [h1]; simp at h; simp [h]
    · rw [updF_ne hj] at h; exact h
  have less : ∀ b, WU Φ (UF (updF F i [a])) b → WU Φ U b := fun b q => q.imp id fun ⟨j, hj⟩ => (r.mem b).mpr ⟨j, hsub j b hj⟩
  have inn : ∀ (b : Addr) (d : D), b ∈ bs → OwnAt K H (WU Φ U) b d → R K H (WU Φ (UF (updF F i [a]))) d (.ref b) := fun b d hb ho =>
    r.ofR (F' := updF F i [a]) (i := i) (by rw [h1]; simp [hb]) (by rw [updF_self]; simp; exact fun z => hnd.1 (z ▸ hb)) hsub ho
  have deep := h3
  obtain ⟨o, es, ep, g1, g2, g3, g4, g5, g6, g7, g8⟩ := h3
  have hown : OwnAt K H (WU Φ (UF (updF F i [a]))) a (.dict kvs) := by
    simp only [OwnAt]
    refine ⟨o, es, ep, g1, g2, g3, g4, re_of_get (by simpa using g6) fun n k d en => ?_, g5⟩
    obtain ⟨e1, x, b, q1, q2, q3, q4, q5, q6, q7⟩ := g8 n k d en
    exact ⟨e1, x, .ref b, by simpa using q1, q3, R.stp (Stp.less less) k x q4, q5, q6, inn b d (List.mem_of_getElem? q2) q7⟩
  obtain ⟨q1, q2⟩ := r.shrink (ρ' := (unbo i kvs ρ).set i (.ow (.dict kvs))) (F' := updF F i [a]) (by simp [unbo_len]) hsub (fun j => by
      by_cases hj : j = i
      · subst hj; rw [updF_self]; simp
      · rw [updF_ne hj]; exact r.nd j) (fun j sl ej => by
      rcases get_set ej with ⟨h4, h5, _⟩ | ⟨h4, h5⟩
      · subst h4 h5
        exact .inr ⟨a, by rw [updF_self], h2, hown⟩
      · rcases unbo_get h5 with ⟨z1, z2⟩ | ⟨k, z1, z2⟩
        · exact .inl ⟨z1, updF_ne h4⟩
        · subst z2
          obtain ⟨a1, bs1, kvs1, n, k', d1, b, y1, y2, y3, y4, y5, y6⟩ := r.bo j i k z1
          rw [e] at y1
          cases y1
          rw [h1] at y2
          cases y2
          obtain ⟨e1, x, b1, w1, w2, w3, w4, w5, w6, w7⟩ := g8 n k' d1 y4
          rw [y3] at w2
          cases w2
          have hF : F j = [] := r.ok j _ z1
          rw [find_mapped (dOk_nodup g5) y4 y5]
          exact .inr ⟨by rw [updF_ne h4]; exact hF, _, y6, inn b d1 (List.mem_of_getElem? y3) w7⟩) (fun j j' k ej => by
      rcases get_set ej with ⟨h4, h5, _⟩ | ⟨h4, h5⟩
      · cases h5
      · rcases unbo_get h5 with ⟨z1, z2⟩ | ⟨k1, z1, z2⟩
        · obtain ⟨a1, bs1, kvs1, n, k', d1, b, y1, y2, y3, y4, y5, y6⟩ := r.bo j j' k z1
          have hne : j' ≠ i := fun z => z2 k (by rw [z])
          exact ⟨a1, bs1, kvs1, n, k', d1, b, by rw [set_ne hne]; exact unbo_of y1 (fun k z => by cases z), by rw [updF_ne hne]; exact y2, y3, y4, y5, y6⟩
        · cases z2) (fun j d1 hp ej => by
      have hne : j ≠ i := fun z => by rw [z, e] at ej; cases ej; cases hp
      rw [set_ne hne]; exact unbo_of ej fun k z => by rw [z] at hp; cases hp) (fun j d1 ej => by
      rcases get_set ej with ⟨h4, h5, _⟩ | ⟨h4, h5⟩
      · cases h5
      · rcases unbo_get h5 with ⟨z1, _⟩ | ⟨k1, z1, z2⟩
        · exact z1
        · cases z2)
  exact ⟨_, _, q1, q2⟩
theorem Rep.thaw (r : Rep K Φ U σ H ρ) (i : Nat) : ∃ U', Rep K Φ U' σ H (DI.thaw i ρ) ∧ ∀ a, U' a → U a := by
  obtain ⟨F, r⟩ := r
  unfold DI.thaw
  split
  · rename_i kvs e
    obtain ⟨U', F', h1, h2⟩ := r.thaw e
    exact ⟨U', ⟨F', h1⟩, h2⟩
  · exact ⟨U, ⟨F, r⟩, fun a h => h⟩
theorem Rep.prep (r : Rep K Φ U σ H ρ) (i : Nat) : ∃ U', Rep K Φ U' σ H (DI.prep i ρ) ∧ ∀ a, U' a → U a := by
  unfold DI.prep
  split
  · exact r.thaw i
  · exact r.thaw _
  · exact ⟨U, r, fun a h => h⟩
end
end DI
set_option Elab.async false
set_option linter.all false
set_option maxRecDepth 100000
set_option maxHeartbeats 4000000
/-! slots that are set, changed -/
namespace DI
open PySem PySem.Spec PyProof.Rows L2
section
variable {X : Cx} {pins : List (Addr × Obj)} {σ σ0 σ1 : L2.St} {H H' H1 H0 : Hp} {W W' U U0 U1 : WS} {s : Shared} {k : Nat} {K : PySem.W.Frag × World} {Φ : Fr} {ρ ρ' ρ1 ρ0 : Rho} {pu : Bool} {F F' : Nat → List Addr}
theorem SX.add {oa : Option Addr} (s : SX H0 U0 H U) (h : ∀ b, U1 b → U b ∨ b ∈ oa) (hn : ∀ a ∈ oa, H0 a = none) : SX H0 U0 H U1 :=
  ⟨fun a o e n => ⟨(s.keep a o e n).1, fun q => (h a q).elim (s.keep a o e n).2 fun z => by rw [hn a z] at e; cases e⟩, fun a q => (h a q).elim (s.new a) fun z => .inr (hn a z), s.trk⟩
/-- a slot given something else; f: what it owns then -/
theorem RepF.setG {oa : Option Addr} (r : RepF K (Φ.plus oa) U σ H ρ F) (hna : ∀ a ∈ oa, ¬ Φ.all a) {j : Nat} {v : Option V} {sl : Sl} {f : List Addr} (hf : ∀ a, a ∈ f ↔ a ∈ oa) (hs : DI.setS j sl ρ = some ρ1) (hb : ∀ i k, sl ≠ .bo i k) (hnl : ∀ d, sl ≠ .lk d) (hnd : f.Nodup)
    (hok : SlotOk K H Φ (fun a => U a ∨ a ∈ f) (some v) f sl) : ∃ U1 F1, RepF K Φ U1 (σ.set j v) H ρ1 F1 ∧ (∀ a, U1 a → U a ∨ a ∈ oa) ∧ ∀ i, i ≠ j → F1 i = F i := by
  have hall : ∀ b, Φ.all b → (Φ.plus oa).all b := fun b q => by
    cases oa with
    | none => exact q
    | some a => exact q.elim .inl fun z => .inr (.inl z)
  have hap : ∀ a ∈ oa, (Φ.plus oa).all a := fun a q => by
    cases oa with
    | none => cases q
    | some b => cases q; exact .inr (.inr rfl)
  have hw0 : (Φ.plus oa).w0 = Φ.w0 := by cases oa <;> rfl
  have hlw : (Φ.plus oa).lw = Φ.lw := by cases oa <;> rfl
  have hpn : (Φ.plus oa).pin = Φ.pin := by cases oa <;> rfl
  by_cases hl : j < ρ.length
  · have key : ∀ (ρk : Rho), ρk.length = ρ.length → (∀ (i : Nat) (sl' : Sl), i ≠ j → ρk[i]? = some sl' → (ρ[i]? = some sl' ∧ ∀ k, ρ[j]? ≠ none → sl' ≠ Sl.bo j k) ∨ (∃ k, ρ[i]? = some (Sl.bo j k) ∧ sl' = Sl.un)) → (∀ (i : Nat) (kvs : List (D × D)), ρ[i]? = some (Sl.od kvs) → ρk[i]? = some (Sl.od kvs)) → (∀ (i : Nat) (sl : Sl), isPin sl = true → ρ[i]? = some sl → i ≠ j ∧ ρk[i]? = some sl) →
        ∃ U1 F1, RepF K Φ U1 (σ.set j v) H (ρk.set j sl) F1 ∧ (∀ a, U1 a → U a ∨ a ∈ oa) ∧ ∀ i, i ≠ j → F1 i = F i := fun ρk hlk hget hod hio => by
      have hUF : ∀ a, UF (updF F j f) a → U a ∨ a ∈ oa := fun a ⟨i, hi⟩ => by
        by_cases hij : i = j
        · subst hij; rw [updF_self] at hi; exact .inr ((hf a).mp hi)
        · rw [updF_ne hij] at hi; exact .inl ((r.mem a).mpr ⟨i, hi⟩)
      have fU : ∀ a ∈ oa, ¬ U a := fun a z q => r.own a q (hap a z)
      have st : Stp H (WU (Φ.plus oa) U) H (WU Φ (UF (updF F j f))) := Stp.less fun b q => q.elim (fun z => .inl (hall b z)) fun z => (hUF b z).elim .inr fun z => .inl (hap b z)
      refine ⟨UF (updF F j f), updF F j f, ⟨by simpa [hlk] using r.len, fun i hi => ?_, fun i sl' e => ?_, fun i j' k e => ?_, fun i => ?_, fun i i' a h1 h2 => ?_, fun a => Iff.rfl, fun a q => ?_, fun a h => r.trk a (hall a h), fun i a h => ?_, fun i d h => ?_⟩, hUF, fun i hi => updF_ne hi⟩
      · rw [List.length_set, hlk] at hi
        rw [updF_ne (by omega)]
        exact r.out i hi
      · rcases get_set e with ⟨h1, h2, _⟩ | ⟨h1, h2⟩
        · subst h1 h2
          rw [updF_self, List.getElem?_set_self (by rw [← r.len]; exact hl)]
          exact hok.stp (Stp.less fun a q => q.elim .inl fun z => .inr ((hUF a z).imp id fun w => (hf a).mpr w)) (fun b _ o q => q) (fun a z => z) fun a z => z
        · rw [updF_ne h1, set_ne h1]
          have h3 : SlotOk K H (Φ.plus oa) U σ[i]? (F i) sl' := by
            rcases hget i sl' h1 h2 with ⟨z1, z2⟩ | ⟨k, z1, z2⟩
            · exact r.ok i sl' z1
            · subst z2; have z := r.ok i _ z1; exact z
          exact h3.stp st (fun b _ o q => q) (fun a q => by rw [hw0] at q; exact q) fun a q => by rw [hlw] at q; exact q
      · rcases get_set e with ⟨h1, h2, _⟩ | ⟨h1, h2⟩
        · exact absurd h2.symm (hb j' k)
        · rcases hget i _ h1 h2 with ⟨z1, z2⟩ | ⟨k', z1, z2⟩
          · obtain ⟨a1, bs1, kvs1, n, k', d1, b, y1, y2, y3, y4, y5, y6⟩ := r.bo i j' k z1
            have hne : j' ≠ j := fun z => z2 k (by rw [List.getElem?_eq_getElem hl]; simp) (by rw [z])
            exact ⟨a1, bs1, kvs1, n, k', d1, b, by rw [set_ne hne]; exact hod j' _ y1, by rw [updF_ne hne]; exact y2, y3, y4, y5, by rw [set_ne h1]; exact y6⟩
          · cases z2
      · by_cases hij : i = j
        · subst hij; rw [updF_self]; exact hnd
        · rw [updF_ne hij]; exact r.nd i
      · by_cases hij : i = j <;> by_cases hij' : i' = j
        · rw [hij, hij']
        · subst hij
          rw [updF_self] at h1
          rw [updF_ne hij'] at h2
          exact absurd ((r.mem a).mpr ⟨i', h2⟩) (fU a ((hf a).mp h1))
        · subst hij'
          rw [updF_self] at h2
          rw [updF_ne hij] at h1
          exact absurd ((r.mem a).mpr ⟨i, h1⟩) (fU a ((hf a).mp h2))
        · rw [updF_ne hij] at h1
          rw [updF_ne hij'] at h2
          exact r.sep i i' a h1 h2
      · rcases hUF a q with z | z
        · exact fun w => r.own a z (hall a w)
        · exact hna a z
      · obtain ⟨h1, sl', h2, h5⟩ := r.pin i a (by rw [hpn]; exact h)
        obtain ⟨h3, h4⟩ := hio i sl' h5 h2
        exact ⟨by rw [set_ne h3]; exact h1, sl', by rw [set_ne h3]; exact h4, h5⟩
      · rcases get_set h with ⟨h1, h2, _⟩ | ⟨h1, h2⟩
        · exact absurd h2.symm (hnl d)
        · rcases hget i _ h1 h2 with ⟨z1, z2⟩ | ⟨k', z1, z2⟩
          · rw [← hpn]; exact r.lkp i d z1
          · cases z2
    unfold DI.setS at hs
    split at hs
    · cases hs
    · cases hs
    · cases hs
    · rename_i kvs ej
      cases hs
      refine key _ (killbo_len j) (fun i sl' _ e => (killbo_get e).imp (fun h => ⟨h.1, fun k _ => h.2 k⟩) id) (fun i kvs e => killbo_of e fun k z => by cases z) fun i sl hp e => ⟨fun z => (by rw [z, ej] at e; cases e; cases hp), killbo_of e (fun k z => by rw [z] at hp; cases hp)⟩
    · rename_i n1 n2 n3 n4
      cases hs
      refine key ρ rfl (fun i sl' _ e => .inl ⟨e, fun k _ z => ?_⟩) (fun i kvs e => e) fun i sl hp e => ⟨fun z => ?_, e⟩
      · subst z
        obtain ⟨a1, bs1, kvs1, n, k', d1, b, y1, _⟩ := r.bo i j k e
        exact n4 kvs1 y1
      · cases sl <;> simp only [isPin] at hp <;> first | cases hp | skip
        · exact n1 _ (z ▸ e)
        · exact n3 _ (z ▸ e)
  · have e0 : ρ[j]? = none := List.getElem?_eq_none (by omega)
    unfold DI.setS at hs
    rw [e0] at hs
    cases hs
    have hls : σ.length ≤ j := by rw [← r.len]; omega
    rw [List.set_eq_of_length_le hls, List.set_eq_of_length_le (show ρ.length ≤ j by omega)]
    have st : Stp H (WU (Φ.plus oa) U) H (WU Φ U) := Stp.less fun b q => q.elim (fun z => .inl (hall b z)) .inr
    exact ⟨U, F, ⟨r.len, r.out, fun i sl e => (r.ok i sl e).stp st (fun b _ o q => q) (fun a q => by rw [hw0] at q; exact q) fun a q => by rw [hlw] at q; exact q, r.bo, r.nd, r.sep, r.mem, fun a q w => r.own a q (hall a w), fun a w => r.trk a (hall a w), fun i a h => r.pin i a (by rw [hpn]; exact h), fun i d h => by rw [← hpn]; exact r.lkp i d h⟩, fun a h => .inl h, fun i _ => rfl⟩
theorem Rep.setSh (r : Rep K Φ U σ H ρ) {j : Nat} {v : V} {d : D} (hs : DI.setS j (.sh d) ρ = some ρ1) (hv : R K H (WU Φ U) d v) : ∃ U1, Rep K Φ U1 (σ.set j (some v)) H ρ1 ∧ ∀ a, U1 a → U a := by
  obtain ⟨F, r⟩ := r
  obtain ⟨U1, F1, h1, h2, _⟩ := RepF.setG (oa := none) r (fun a z => by cases z) (v := some v) (f := []) (fun a => by simp) hs (fun i k z => by cases z) (fun d z => by cases z) .nil ⟨rfl, v, rfl, R.stp (Stp.less fun a z => z.elim .inl fun w => w.elim .inr fun q => by cases q) d v hv⟩
  exact ⟨U1, ⟨F1, h1⟩, fun a z => (h2 a z).elim id fun w => by cases w⟩
theorem Rep.setOw {a : Addr} (r : Rep K (Φ.plus (some a)) U σ H ρ) (hna : ¬ Φ.all a) {j : Nat} {d : D} (hs : DI.setS j (.ow d) ρ = some ρ1) (ho : OwnAt K H (fun b => WU Φ U b ∨ b = a) a d) : ∃ U1, Rep K Φ U1 (σ.set j (some (.ref a))) H ρ1 ∧ ∀ b, U1 b → U b ∨ b ∈ some a := by
  obtain ⟨F, r⟩ := r
  obtain ⟨U1, F1, h1, h2, _⟩ := RepF.setG (oa := some a) r (fun b z => by cases z; exact hna) (v := some (.ref a)) (f := [a]) (fun b => by simp; exact eq_comm) hs (fun i k z => by cases z) (fun d z => by cases z) (by simp) ⟨a, rfl, rfl, ho.less fun b z => z.elim (fun z => .inl (.inl z)) fun w => w.elim (fun z => .inl (.inr z)) fun q => .inr (by simpa using q)⟩
  exact ⟨U1, ⟨F1, h1⟩, h2⟩
/-- owned lists, dicts are changed; C: where; one that was not tracked may be set apart then -/
theorem RepF.reG {oa : Option Addr} (r : RepF K Φ U σ H ρ F) {C : WS} (hl : ρ'.length = ρ.length) (hk : ∀ a o, H a = some o → ¬ C a → H' a = some o) (hC : ∀ a, C a → WU Φ U a) (hC2 : ∀ a, C a → ¬ Φ.r0 a) (hn : ∀ a, H' a = none → H a = none) (ha : ∀ a ∈ oa, H a = none ∧ H' a ≠ none)
    (hsl : ∀ (i : Nat) (sl : Sl), ρ'[i]? = some sl → (ρ[i]? = some sl ∧ ∀ a ∈ F i, ¬ C a) ∨ (∃ a d d', F i = [a] ∧ OwnAt K H' (WU (Φ.plus oa) U) a d' ∧ ((ρ[i]? = some (.ow d) ∧ sl = .ow d') ∨ (ρ[i]? = some (.io d) ∧ sl = .io d')))) : RepF K (Φ.plus oa) U σ H' ρ' F := by
  have hw0 : (Φ.plus oa).w0 = Φ.w0 := by cases oa <;> rfl
  have hlw : (Φ.plus oa).lw = Φ.lw := by cases oa <;> rfl
  have hpn : (Φ.plus oa).pin = Φ.pin := by cases oa <;> rfl
  have hall : ∀ b, (Φ.plus oa).all b → Φ.all b ∨ b ∈ oa := fun b q => by
    cases oa with
    | none => exact .inl q
    | some a => exact q.elim (fun z => .inl (.inl z)) fun z => z.elim (fun w => .inl (.inr w)) fun w => .inr (by rw [w]; rfl)
  have hal2 : ∀ b, Φ.all b → (Φ.plus oa).all b := fun b q => by
    cases oa with
    | none => exact q
    | some a => exact q.elim .inl fun z => .inr (.inl z)
  have nw : ∀ a, Φ.r0 a → ¬ C a := fun a q z => hC2 a z q
  have st : Stp H (WU Φ U) H' (WU (Φ.plus oa) U) := ⟨fun b o e n => ⟨hk b o e fun z => n (hC b z), fun q => q.elim (fun z => (hall b z).elim (fun w => n (.inl w)) fun w => by rw [(ha b w).1] at e; cases e) fun z => n (.inr z)⟩,
    fun b q => q.elim (fun z => (hall b z).elim (fun w => .inl (.inl w)) fun w => .inr (ha b w).1) fun z => .inl (.inr z)⟩
  refine ⟨by rw [hl]; exact r.len, fun i hi => r.out i (by rw [← hl]; exact hi), fun i sl e => ?_, fun i j k e => ?_, r.nd, r.sep, r.mem, fun b h q => ?_, fun b q z => ?_, fun i a h => ?_, fun i d h => ?_⟩
  · rcases hsl i sl e with ⟨h1, h2⟩ | ⟨a, d, d', h1, h2, ⟨h3, h4⟩ | ⟨h3, h4⟩⟩
    · exact (r.ok i sl h1).stp st (fun b hb o e => hk b o e (hb.elim (h2 b) fun q => nw b q)) (fun a q => by rw [hw0]; exact q) fun a q => by rw [hlw]; exact q
    · subst h4
      obtain ⟨b, g1, g2, g3⟩ := r.ok i _ h3
      rw [h1] at g1
      cases g1
      exact ⟨a, h1, g2, h2⟩
    · subst h4
      obtain ⟨b, g1, g2, g3⟩ := r.ok i _ h3
      rw [h1] at g1
      cases g1
      exact ⟨a, h1, g2, h2⟩
  · rcases hsl i _ e with ⟨h1, h2⟩ | ⟨a, d, d', h1, h2, ⟨h3, h4⟩ | ⟨h3, h4⟩⟩
    · obtain ⟨a1, bs1, kvs1, n, k', d1, b, y1, y2, y3, y4, y5, y6⟩ := r.bo i j k h1
      have hj : j < ρ'.length := by rw [hl]; exact (List.getElem?_eq_some_iff.mp y1).1
      have ej := hsl j _ (List.getElem?_eq_getElem hj)
      refine ⟨a1, bs1, kvs1, n, k', d1, b, ?_, y2, y3, y4, y5, y6⟩
      rcases ej with ⟨h1, h2⟩ | ⟨a, d, d', h1, h2, ⟨h3, h4⟩ | ⟨h3, h4⟩⟩
      · rw [y1] at h1
        rw [List.getElem?_eq_getElem hj, ← Option.some.inj h1]
      · rw [y1] at h3; cases h3
      · rw [y1] at h3; cases h3
    · cases h4
    · cases h4
  · rcases hall b q with z | z
    · exact r.own b h z
    · exact r.utrk b h (ha b z).1
  · rcases hall b q with w | w
    · exact r.trk b w (hn b z)
    · exact (ha b w).2 z
  · obtain ⟨h1, sl, h2, h3⟩ := r.pin i a (by rw [hpn] at h; exact h)
    have hi : i < ρ'.length := by rw [hl]; exact (List.getElem?_eq_some_iff.mp h2).1
    have ei := hsl i _ (List.getElem?_eq_getElem hi)
    rcases ei with ⟨z1, z2⟩ | ⟨a', d, d', z1, z2, ⟨z3, z4⟩ | ⟨z3, z4⟩⟩
    · exact ⟨h1, _, List.getElem?_eq_getElem hi, by rw [h2] at z1; rw [← Option.some.inj z1]; exact h3⟩
    · rw [h2] at z3; cases z3; cases h3
    · exact ⟨h1, _, List.getElem?_eq_getElem hi, by rw [z4]; rfl⟩
  · rw [hpn]
    rcases hsl i _ h with ⟨z1, z2⟩ | ⟨a', d1, d', z1, z2, ⟨z3, z4⟩ | ⟨z3, z4⟩⟩
    · exact r.lkp i d z1
    · cases z4
    · cases z4
theorem SX.re {C : WS} (hk : ∀ a o, H a = some o → ¬ C a → H' a = some o) (hC : ∀ a, C a → U a) (hn : ∀ a, H' a = none → H a = none) : SX H U H' U := ⟨fun a o e n => ⟨hk a o e fun z => n (hC a z), n⟩, fun a q => .inl q, hn⟩
theorem RepF.re (r : RepF K Φ U σ H ρ F) {C : WS} (hl : ρ'.length = ρ.length) (hk : ∀ a o, H a = some o → ¬ C a → H' a = some o) (hC : ∀ a, C a → U a) (hn : ∀ a, H' a = none → H a = none)
    (hsl : ∀ (i : Nat) (sl : Sl), ρ'[i]? = some sl → (ρ[i]? = some sl ∧ ∀ a ∈ F i, ¬ C a) ∨ (∃ a d d', F i = [a] ∧ OwnAt K H' (WU Φ U) a d' ∧ ((ρ[i]? = some (.ow d) ∧ sl = .ow d') ∨ (ρ[i]? = some (.io d) ∧ sl = .io d')))) : RepF K Φ U σ H' ρ' F ∧ SX H U H' U :=
  ⟨r.reG (oa := none) hl hk (fun a z => .inr (hC a z)) (fun a z q => r.own a (hC a z) (.inl q)) hn (fun a z => by cases z) hsl, SX.re hk hC hn⟩
/-- one is changed -/
theorem Rep.mod (r : Rep K Φ U σ H ρ) {i : Nat} {a : Addr} {d d' : D} (hi : slotD ρ[i]? = some d) (hs : σ[i]? = some (some (V.ref a))) (hk : ∀ b, b ≠ a → ∀ o, H b = some o → H' b = some o) (hn : ∀ b, H' b = none → H b = none) (ho : OwnAt K H' (WU Φ U) a d') :
    Rep K Φ U σ H' (ρ.set i (withD ρ[i]? d')) ∧ SX H U H' U := by
  obtain ⟨F, r⟩ := r
  have key : ∀ sl, ρ[i]? = some sl → (∃ d, sl = .ow d) ∨ (∃ d, sl = .io d) → Rep K Φ U σ H' (ρ.set i (withD ρ[i]? d')) ∧ SX H U H' U := fun sl e hsl => by
    have hFi : F i = [a] := by
      have ok := r.ok i sl e
      rcases hsl with ⟨d, rfl⟩ | ⟨d, rfl⟩ <;> (obtain ⟨b, g1, g2, g3⟩ := ok; rw [hs] at g2; cases g2; exact g1)
    have hU : U a := (r.mem a).mpr ⟨i, by rw [hFi]; simp⟩
    obtain ⟨q1, q2⟩ := r.re (C := fun b => b = a) (H' := H') (ρ' := ρ.set i (withD ρ[i]? d')) (by simp) (fun b o e n => hk b n o e) (fun b z => z ▸ hU) hn fun j sl' ej => by
      rcases get_set ej with ⟨h1, h2, _⟩ | ⟨h1, h2⟩
      · subst h1
        right
        rcases hsl with ⟨d, rfl⟩ | ⟨d, rfl⟩
        · exact ⟨a, d, d', hFi, ho, .inl ⟨e, by rw [h2, e]; rfl⟩⟩
        · exact ⟨a, d, d', hFi, ho, .inr ⟨e, by rw [h2, e]; rfl⟩⟩
      · exact .inl ⟨h2, fun b hb z => h1 (r.sep j i b hb (by rw [z, hFi]; simp))⟩
    exact ⟨⟨F, q1⟩, q2⟩
  unfold slotD at hi
  split at hi
  · rename_i d0 e; exact key _ e (.inl ⟨_, rfl⟩)
  · rename_i d0 e; exact key _ e (.inr ⟨_, rfl⟩)
  · cases hi
/-- what an owned slot holds -/
theorem Rep.own (r : Rep K Φ U σ H ρ) {i : Nat} {d : D} (hi : slotD ρ[i]? = some d) : ∃ a, σ[i]? = some (some (V.ref a)) ∧ OwnAt K H (WU Φ U) a d ∧ U a := by
  obtain ⟨F, r⟩ := r
  unfold slotD at hi
  split at hi
  · rename_i d0 e
    cases hi
    obtain ⟨a, h1, h2, h3⟩ := r.ok i _ e
    exact ⟨a, h2, h3, (r.mem a).mpr ⟨i, by rw [h1]; simp⟩⟩
  · rename_i d0 e
    cases hi
    obtain ⟨a, h1, h2, h3⟩ := r.ok i _ e
    exact ⟨a, h2, h3, (r.mem a).mpr ⟨i, by rw [h1]; simp⟩⟩
  · cases hi
/-- a slot read -/
theorem Rep.look {Q : V → Hp → Prop} {X : Cx} {Wx : WX} {i : Nat} {pk : Bool} (h : AnW X Wx Φ U pu ρ (DI.look pk i ρ) (RM (X.K, X.w) (if pk = true then .pk else .val)) σ H Q) : ∃ v, σ[i]? = some (some v) ∧ Q v H := by
  obtain ⟨rep, h⟩ := h
  obtain ⟨U', r, less⟩ := rep.prep i
  unfold DI.look at h
  generalize DI.prep i ρ = ρ0 at h r
  have sx : SX H U H U' := SX.less (Same.refl H) less
  have rr : ∀ {d : D} {v : V} {U : WS} {ρ : Rho}, R (X.K, X.w) H (WU Φ U) d v → RM (X.K, X.w) (if pk = true then .pk else .val) σ Φ ρ U H H d v := fun {d v U ρ} r => by
    cases pk
    · exact r
    · exact .inl r
  unfold look0 at h
  obtain ⟨F, rf⟩ := r
  cases e : ρ0[i]? with
  | none => rw [e] at h; exact h.elim
  | some sl =>
  rw [e] at h
  have ok := rf.ok i _ e
  cases sl with
  | un => exact h.elim
  | od kvs => exact h.elim
  | bo j k => exact h.elim
  | sh d =>
    obtain ⟨h1, u, h2, h3⟩ := ok
    exact ⟨u, h2, h u H U' ⟨F, rf⟩ sx less (fun _ => Same.refl H) (rr h3)⟩
  | ow d =>
    cases pk with
    | true =>
      obtain ⟨a, h1, h2, h3⟩ := ok
      exact ⟨.ref a, h2, h _ H U' ⟨F, rf⟩ sx less (fun _ => Same.refl H) (.inr ⟨a, rfl, h3⟩)⟩
    | false =>
      obtain ⟨U2, v, q1, q2, q3, q4⟩ := rf.frz e
      exact ⟨v, q3, h v H U2 ⟨_, q1⟩ (SX.less (Same.refl H) fun a z => less a (q2 a z)) (fun a z => less a (q2 a z)) (fun _ => Same.refl H) (rr q4)⟩
  | io d =>
    cases pk with
    | true =>
      obtain ⟨a, h1, h2, h3⟩ := ok
      exact ⟨.ref a, h2, h _ H U' ⟨F, rf⟩ sx less (fun _ => Same.refl H) (.inr ⟨a, rfl, h3⟩)⟩
    | false => exact h.elim
  | lk d =>
    cases pk with
    | true =>
      obtain ⟨h1, a, h2, h3, h4⟩ := ok
      exact ⟨.ref a, h2, h _ H U' ⟨F, rf⟩ sx less (fun _ => Same.refl H) (.inr ⟨a, rfl, h3⟩)⟩
    | false => exact h.elim
  | pk d =>
    obtain ⟨h1, u, h2, h3⟩ := ok
    cases pk with
    | true =>
      exact ⟨u, h2, h u H U' ⟨F, rf⟩ sx less (fun _ => Same.refl H) (h3.imp id fun ⟨a, e2, h3, h4⟩ => ⟨a, e2, h3⟩)⟩
    | false =>
      cases hb : isBox d with
      | true => simp only [hb] at h; exact h.elim
      | false =>
        simp only [hb] at h
        refine ⟨u, h2, h u H U' ⟨F, rf⟩ sx less (fun _ => Same.refl H) (rr (h3.elim id fun ⟨a, e2, h3, h4⟩ => ?_))⟩
        exfalso
        cases d <;> first | (cases hb; done) | exact h3
end
end DI
set_option Elab.async false
set_option linter.all false
set_option maxRecDepth 100000
set_option maxHeartbeats 4000000
/-! nodes of expressions -/
namespace DI
open PySem PySem.Spec PyProof.Rows L2
section
variable {X : Cx} {Wx : WX} {pins : List (Addr × Obj)} {σ : L2.St} {H H' H0 H1 H2 : Hp} {W W' U U' U1 U2 : WS} {s : Shared} {k : Nat} {Φ : Fr} {ρ ρ1 : Rho} {cf : Str → List D → CR} {m : Md} {K : PySem.W.Frag × World}
abbrev mdB (b : Bool) : Md := if b = true then .pk else .val
theorem and2 {a b : Bool} (h : (a && b) = true) : a = true ∧ b = true := by simpa using h
/-- e evaluated as c says -/
structure E3 (cf : Str → List D → CR) (X : Cx) (Wx : WX) (e : Expr) (c : CE) : Prop where
  m : ∀ b, PE X e (fun σ H Q => ∃ ρ, tE X Wx (pureE c) (mdB b) ρ (evalE cf b c ρ) σ H Q)
  f : freshE c = true → PE X e (fun σ H Q => ∃ ρ, tE X Wx (pureE c) .fr ρ (evalE cf false c ρ) σ H Q)
theorem E3.ofFr {e : Expr} {c : CE} (h : PE X e (fun σ H Q => ∃ ρ, tE X Wx (pureE c) .fr ρ (evalE cf false c ρ) σ H Q)) (q : ∀ ρ, evalE cf true c ρ = evalE cf false c ρ) : E3 cf X Wx e c :=
  ⟨fun b => PE.imp h fun σ H Q ⟨ρ, Φ, U, a⟩ => ⟨ρ, Φ, U, by
    cases b
    · exact a.weak fun ρ H' U' d v r => r.1.1
    · rw [q] at a
      exact a.weak fun ρ H' U' d v r => .inl r.1.1⟩, fun _ => h⟩
theorem E3.ofVal {e : Expr} {c : CE} (h : PE X e (fun σ H Q => ∃ ρ, tE X Wx (pureE c) .val ρ (evalE cf false c ρ) σ H Q)) (q : ∀ ρ, evalE cf true c ρ = evalE cf false c ρ) (hf : freshE c = false) : E3 cf X Wx e c :=
  ⟨fun b => PE.imp h fun σ H Q ⟨ρ, Φ, U, a⟩ => ⟨ρ, Φ, U, by
    cases b
    · exact a
    · rw [q] at a
      exact a.weak fun ρ H' U' d v r => .inl r⟩, fun z => by rw [hf] at z; cases z⟩
theorem E3.v {e : Expr} {c : CE} (h : E3 cf X Wx e c) : PE X e (fun σ H Q => ∃ ρ, tE X Wx (pureE c) .val ρ (evalE cf false c ρ) σ H Q) := h.m false
theorem E3.p {e : Expr} {c : CE} (h : E3 cf X Wx e c) : PE X e (fun σ H Q => ∃ ρ, tE X Wx (pureE c) .pk ρ (evalE cf true c ρ) σ H Q) := h.m true
theorem R.sx {d : D} {v : V} (s : SX H U H' U') (h : R K H (WU Φ U) d v) : R K H' (WU Φ U') d v := R.stp s.stp d v h
theorem Rs.sx {d : List D} {v : List V} (s : SX H U H' U') (h : Rs K H (WU Φ U) d v) : Rs K H' (WU Φ U') d v := Rs.stp s.stp d v h
/-- what was read is still so -/
theorem RM.keep {b : Bool} {d : D} {v : V} (r : RM K (mdB b) σ Φ ρ U H0 H d v) (s : SX H U H' U') (l : ∀ a, U' a → U a) (e : b = true → Same H H') : RP K H' (WU Φ U') d v := by
  cases b
  · exact .inl (R.sx s r)
  · exact RP.stp (e rfl) (fun a q => q.imp id (l a)) r
/-! constants, names -/
theorem e_non {j : Nat} {pos : Pos} : E3 cf X Wx (.Constant .none j pos) (.cst .none) := .ofVal (PE.imp pe_non fun σ H Q ⟨ρ, Φ, U, h⟩ => h.ok (Same.refl H) (by simp only [RM, R])) (fun ρ => rfl) rfl
theorem e_bool {b : Bool} {j : Nat} {pos : Pos} : E3 cf X Wx (.Constant (.bool b) j pos) (.cst (.bool b)) := .ofVal (PE.imp pe_bl fun σ H Q ⟨ρ, Φ, U, h⟩ => h.ok (Same.refl H) (by simp only [RM, R])) (fun ρ => rfl) rfl
theorem e_int {b : Int} {j : Nat} {pos : Pos} : E3 cf X Wx (.Constant (.int b) j pos) (.cst (.int b)) := .ofVal (PE.imp pe_int fun σ H Q ⟨ρ, Φ, U, h⟩ => h.ok (Same.refl H) (by simp only [RM, R])) (fun ρ => rfl) rfl
theorem e_str {b : Str} {j : Nat} {pos : Pos} : E3 cf X Wx (.Constant (.str b) j pos) (.cst (.str b)) := .ofVal (PE.imp pe_str fun σ H Q ⟨ρ, Φ, U, h⟩ => h.ok (Same.refl H) (by simp only [RM, R])) (fun ρ => rfl) rfl
theorem e_var {i : Nat} {x : Str} {pos : Pos} (hN : X.N[i]? = some x) (hv : Vis X.env.scope x) (hd : (x == ("__debug__" : Str)) = false) (hcd : (x == ("__classdict__" : Str)) = false) : E3 cf X Wx (.Name x pos) (.var i) :=
  ⟨fun b => PE.imp (pe_var hN hv hd hcd) fun σ H Q ⟨ρ, Φ, U, h⟩ => by cases b <;> exact Rep.look (pk := _) h, fun z => by cases z⟩
theorem e_gl {x : Str} {d : D} {v : V} {u : Value} {pos : Pos} (hg : Gl X x) (hm : X.mg x = some u) (r : RelV v u) (hr : R (X.K, X.w) (fun _ => none) (fun _ => False) d v) (hd : (x == ("__debug__" : Str)) = false) : E3 cf X Wx (.Name x pos) (.gl d) := by
  refine .ofVal (PE.imp (pe_glob hg hm r hd) fun σ H Q ⟨ρ, Φ, U, h⟩ => h.ok (Same.refl H) ?_) (fun ρ => rfl) rfl
  exact R.stp ⟨(fun a o e => by cases e), (fun a _ => .inr rfl)⟩ d v hr
/-! lists of expressions -/
def rRs (K : PySem.W.Frag × World) : Rel (List D) (List V) := fun _ Φ _ U _ H ds vs => Rs K H (WU Φ U) ds vs
def rRPs (K : PySem.W.Frag × World) : Rel (List D) (List V) := fun _ Φ _ U _ H ds vs => RPs K H (WU Φ U) ds vs
theorem rRs.mono : Mono (rRs K) := fun _ _ _ _ _ _ _ _ _ _ h => h
theorem rRPs.mono : Mono (rRPs K) := fun _ _ _ _ _ _ _ _ _ _ h => h
theorem rEq.mono {α : Type} : Mono (rEq (α := α)) := fun _ _ _ _ _ _ _ _ _ _ h => h
abbrev tL (cf : Str → List D → CR) (X : Cx) (Wx : WX) (cl : CL) : TA := fun σ H Q => ∃ ρ, An X Wx (pureL cl) ρ (evalL cf cl ρ) (rRs (X.K, X.w)) σ H Q
abbrev tPL (cf : Str → List D → CR) (X : Cx) (Wx : WX) (cl : CL) : TA := fun σ H Q => ∃ ρ, An X Wx (pureL cl) ρ (evalPL cf cl ρ) (rRPs (X.K, X.w)) σ H Q
theorem pa_L {f : Expr → Option CE} (hf : ∀ e c, f e = some c → E3 cf X Wx e c) (hs : ∀ e c, f e = some c → ∀ es, starEach (e :: es) X.env = (false, eval e X.env) :: starEach es X.env) :
    ∀ (es : List Expr) (cl : CL), compLs f es = some cl → PA X es (tL cf X Wx cl)
  | [], cl, h => by
    simp only [compLs, Option.some.injEq] at h
    subst h
    exact PA.imp pa_nil fun σ H Q ⟨ρ, Φ, U, h⟩ => h.ok (Same.refl H) (by simp only [rRs, Rs])
  | e :: es, cl, h => by
    simp only [compLs] at h
    cases e1 : f e with
    | none => rw [e1] at h; cases h
    | some c =>
      cases e2 : compLs f es with
      | none => rw [e1, e2] at h; cases h
      | some cl' =>
        rw [e1, e2] at h
        simp only [Option.bind_some, Option.some.injEq] at h
        subst h
        refine PA.imp (pa_cons (hf e c e1).v (pa_L hf hs es cl' e2) (hs e c e1 es)) fun σ H Q ⟨ρ, Φ, U, h⟩ => ?_
        simp only [evalL, pureL] at h
        exact ⟨ρ, Φ, U, h.bind rRs.mono (p2 := pureL cl') and2 fun x ρ1 v H1 U1 l1 s1 e1 r1 h1 => ⟨ρ1, Φ, U1, h1.bind rRs.mono (p2 := true) (fun z => ⟨z, rfl⟩) fun xs ρ2 vs H2 U2 l2 s2 e2 r2 h2 => h2.ok (Same.refl H2) (by simp only [rRs, Rs]; exact ⟨v, vs, rfl, R.sx s2 r1, r2⟩)⟩⟩
theorem pa_PL {f : Expr → Option CE} (hf : ∀ e c, f e = some c → E3 cf X Wx e c) (hs : ∀ e c, f e = some c → ∀ es, starEach (e :: es) X.env = (false, eval e X.env) :: starEach es X.env) :
    ∀ (es : List Expr) (cl : CL), compLs f es = some cl → PA X es (tPL cf X Wx cl)
  | [], cl, h => by
    simp only [compLs, Option.some.injEq] at h
    subst h
    exact PA.imp pa_nil fun σ H Q ⟨ρ, Φ, U, h⟩ => h.ok (Same.refl H) (by simp only [rRPs, RPs])
  | e :: es, cl, h => by
    simp only [compLs] at h
    cases e1 : f e with
    | none => rw [e1] at h; cases h
    | some c =>
      cases e2 : compLs f es with
      | none => rw [e1, e2] at h; cases h
      | some cl' =>
        rw [e1, e2] at h
        simp only [Option.bind_some, Option.some.injEq] at h
        subst h
        refine PA.imp (pa_cons ((hf e c e1).m (pureL cl')) (pa_PL hf hs es cl' e2) (hs e c e1 es)) fun σ H Q ⟨ρ, Φ, U, h⟩ => ?_
        simp only [evalPL, pureL] at h
        exact ⟨ρ, Φ, U, h.bind rRPs.mono (p2 := pureL cl') and2 fun x ρ1 v H1 U1 l1 s1 e1 r1 h1 => ⟨ρ1, Φ, U1, h1.bind rRPs.mono (p2 := true) (fun z => ⟨z, rfl⟩) fun xs ρ2 vs H2 U2 l2 s2 e2 r2 h2 => h2.ok (Same.refl H2) (by simp only [rRPs, RPs]; exact ⟨v, vs, rfl, RM.keep r1 s2 l2 e2, r2⟩)⟩⟩
theorem e_tup {es : List Expr} {cl : CL} {x1 : Nat} {pos : Pos} (h : PA X es (tL cf X Wx cl)) : E3 cf X Wx (.Tuple es x1 pos) (.tup cl) := by
  refine .ofVal (PE.imp (pe_tup h) fun σ H Q ⟨ρ, Φ, U, a⟩ => ?_) (fun ρ => rfl) rfl
  simp only [evalE, pureE] at a
  refine ⟨ρ, Φ, U, a.bind (RM.mono _) (p2 := true) (fun z => ⟨z, rfl⟩) fun ds ρ1 vs H1 U1 l1 s1 e1 r1 h1 => ?_⟩
  obtain ⟨d, e, h1⟩ := h1.ob
  obtain ⟨g, e⟩ := guardP_some e
  cases e
  exact ⟨by rw [Rs.length r1]; exact szOk_le g, fun p hp => h1.ok (same_new hp) (R.newTup h1.trk hp r1)⟩
theorem e_lst {es : List Expr} {cl : CL} {pos : Pos} (h : PA X es (tL cf X Wx cl)) : E3 cf X Wx (.List es pos) (.lst cl) := by
  refine .ofFr (PE.imp (pe_lst h) fun σ H Q ⟨ρ, Φ, U, a⟩ => ?_) (fun ρ => rfl)
  simp only [evalE, pureE] at a
  refine ⟨ρ, Φ, U, a.bind (RM.mono _) (p2 := true) (fun z => ⟨z, rfl⟩) fun ds ρ1 vs H1 U1 l1 s1 e1 r1 h1 => ?_⟩
  obtain ⟨d, e, h1⟩ := h1.ob
  obtain ⟨g, e⟩ := guardP_some e
  cases e
  exact ⟨by rw [Rs.length r1]; exact szOk_le g, fun p hp => h1.okN (same_new hp) (RN.newLst h1.trk hp r1)⟩
/-! operators -/
theorem e_bin {a b : Expr} {ca cb : CE} {op : Operator} {pos : Pos} (hr : Room k X.A) (ha : E3 cf X Wx a ca) (hb : E3 cf X Wx b cb) : E3 cf X Wx (.BinOp a op b pos) (.bin op ca cb) := by
  refine .ofFr (PE.imp (pe_op (binD_ok op) (ha.m (pureE cb)) hb.p) fun σ H Q ⟨ρ, Φ, U, h⟩ => ?_) (fun ρ => rfl)
  simp only [evalE, pureE] at h
  refine ⟨ρ, Φ, U, h.bind (RM.mono _) (p2 := pureE cb) and2 fun x ρ1 v H1 U1 l1 s1 e1 r1 h1 => ⟨ρ1, Φ, U1, h1.bind (RM.mono _) (p2 := true) (fun z => ⟨z, rfl⟩) fun y ρ2 u H2 U2 l2 s2 e2 r2 h2 => ?_⟩⟩
  obtain ⟨d, e, h2⟩ := h2.ob
  exact ⟨_, x, y, d, h2.trk, RM.keep r1 s2 l2 e2, r2, e, fun v H' s r => h2.okN s r⟩
theorem e_neg {a : Expr} {ca : CE} {pos : Pos} (ha : E3 cf X Wx a ca) : E3 cf X Wx (.UnaryOp .USub a pos) (.neg ca) := by
  refine .ofVal (PE.imp (pe_un un_neg ha.p) fun σ H Q ⟨ρ, Φ, U, h⟩ => ?_) (fun ρ => rfl) rfl
  simp only [evalE, pureE] at h
  refine ⟨ρ, Φ, U, h.bind (RM.mono _) (p2 := true) (fun z => ⟨z, rfl⟩) fun x ρ1 v H1 U1 l1 s1 e1 r1 h1 => ?_⟩
  obtain ⟨i, e, h1⟩ := h1.obb
  cases x <;> simp [asI] at e
  subst e
  exact ⟨_, RP.int r1, h1.ok (Same.refl _) (by simp only [RM, R])⟩
theorem e_cmp {a b : Expr} {ca cb : CE} {op : CmpOp} {pos : Pos} (hr : Room k X.A) (hm : behindInMarks op b = false) (ha : E3 cf X Wx a ca) (hb : E3 cf X Wx b cb) : E3 cf X Wx (.Compare a [op] [b] pos) (.cmp op ca cb) := by
  refine .ofVal (PE.imp (pe_cmpR (cmpD_ok hr op) (ha.m (pureE cb)) hb.p hm) fun σ H Q ⟨ρ, Φ, U, h⟩ => ?_) (fun ρ => rfl) rfl
  simp only [evalE, pureE] at h
  refine ⟨ρ, Φ, U, h.bind (RM.mono _) (p2 := pureE cb) and2 fun x ρ1 v H1 U1 l1 s1 e1 r1 h1 => ⟨ρ1, Φ, U1, h1.bind (RM.mono _) (p2 := true) (fun z => ⟨z, rfl⟩) fun y ρ2 u H2 U2 l2 s2 e2 r2 h2 => ?_⟩⟩
  obtain ⟨d, e, h2⟩ := h2.obb
  exact ⟨_, x, y, d, RM.keep r1 s2 l2 e2, r2, e, h2.ok (Same.refl _) (by simp only [RM, R])⟩
/-- a test: the answer is a truth -/
def evalB (cf : Str → List D → CR) (c : CE) (ρ : Rho) : EO Bool := (evalE cf false c ρ).bind fun x ρ => eob (asB x) ρ
theorem evalB_bind {α : Type} {o : EO α} {f : α → Rho → EO D} : (o.bind f).bind (fun x ρ => eob (asB x) ρ) = o.bind fun a ρ => (f a ρ).bind fun x ρ => eob (asB x) ρ := by cases o <;> rfl
theorem eob_bind {α β γ : Type} {o : Option α} {ρ : Rho} {f : α → Rho → EO β} {g : β → Rho → EO γ} : ((eob o ρ).bind f).bind g = (eob o ρ).bind fun a ρ => (f a ρ).bind g := by cases o <;> rfl
theorem t_cmp {a b : Expr} {ca cb : CE} {op : CmpOp} {pos : Pos} (hr : Room k X.A) (hm : behindInMarks op b = false) (ha : E3 cf X Wx a ca) (hb : E3 cf X Wx b cb) : PT X (.Compare a [op] [b] pos) (fun σ H Q => ∃ ρ, tB X Wx (pureE (.cmp op ca cb)) ρ (evalB cf (.cmp op ca cb) ρ) σ H Q) := by
  refine PT.imp (pt_cmpR (cmpD_ok hr op) (ha.m (pureE cb)) hb.p hm) fun σ H Q ⟨ρ, Φ, U, h⟩ => ?_
  simp only [evalB, evalE, pureE, evalB_bind] at h
  refine ⟨ρ, Φ, U, h.bind rEq.mono (p2 := pureE cb) and2 fun x ρ1 v H1 U1 l1 s1 e1 r1 h1 => ⟨ρ1, Φ, U1, h1.bind rEq.mono (p2 := true) (fun z => ⟨z, rfl⟩) fun y ρ2 u H2 U2 l2 s2 e2 r2 h2 => ?_⟩⟩
  obtain ⟨d, e, h2⟩ := h2.obb
  exact ⟨_, x, y, d, RM.keep r1 s2 l2 e2, r2, e, d, rfl, h2.ok (Same.refl _) rfl⟩
end
end DI
set_option Elab.async false
set_option linter.all false
set_option maxRecDepth 100000
set_option maxHeartbeats 4000000
/-! tests, subscripts -/
namespace DI
open PySem PySem.Spec PyProof.Rows L2
section
variable {X : Cx} {Wx : WX} {pins : List (Addr × Obj)} {σ : L2.St} {H H' H0 : Hp} {W W' U : WS} {s : Shared} {k : Nat} {Φ : Fr} {ρ : Rho} {cf : Str → List D → CR} {m : Md} {K : PySem.W.Frag × World}
theorem RM.rp {b : Bool} {d : D} {v : V} (r : RM K (mdB b) σ Φ ρ U H0 H d v) : RP K H (WU Φ U) d v := by
  cases b
  · exact .inl r
  · exact r
theorem AnW.ite {α β : Type} {pu : Bool} {c : Prop} [Decidable c] {o o' : EO α} {rel : Rel α β} {Q : β → Hp → Prop} (h : AnW X Wx Φ U pu ρ (if c then o else o') rel σ H Q) : if c then AnW X Wx Φ U pu ρ o rel σ H Q else AnW X Wx Φ U pu ρ o' rel σ H Q := by split <;> simp_all
/-- e tested as c says -/
def T3 (cf : Str → List D → CR) (X : Cx) (Wx : WX) (e : Expr) (c : CE) : Prop := PT X e (fun σ H Q => ∃ ρ, tB X Wx (pureE c) ρ (evalB cf c ρ) σ H Q)
theorem T3.plain {e : Expr} {c : CE} (h : E3 cf X Wx e c) (he : ∀ whole, isTrue e X.env whole = (do let v ← whole; standAt e.pos; holding [v] (truthy v))) : T3 cf X Wx e c := by
  refine PT.imp (pt_val h.v he) fun σ H Q ⟨ρ, Φ, U, a⟩ => ?_
  refine ⟨ρ, Φ, U, AnW.bind (f := fun x ρ => eob (asB x) ρ) a rEq.mono (p2 := true) (fun z => ⟨z, rfl⟩) fun x ρ1 v H1 U1 l1 s1 e1 r1 h1 => ?_⟩
  obtain ⟨b, e, h1⟩ := h1.ob
  cases x <;> simp [asB] at e
  subst e
  simp only [RM, R] at r1
  exact ⟨_, r1, h1.ok (Same.refl _) rfl⟩
theorem e_chn {a b c : Expr} {ca cb cc : CE} {o1 o2 : CmpOp} {pos : Pos} (hr : Room k X.A) (hm : lastMarks [o1, o2] [b, c] = false) (ha : E3 cf X Wx a ca) (hb : E3 cf X Wx b cb) (hc : E3 cf X Wx c cc) : E3 cf X Wx (.Compare a [o1, o2] [b, c] pos) (.chn o1 o2 ca cb cc) := by
  refine .ofVal (PE.imp (pe_chain (cmpD_ok hr o1) (cmpD_ok hr o2) (ha.m (pureE cb)) (hb.m (pureE cc)) hc.p hm) fun σ H Q ⟨ρ, Φ, U, h⟩ => ?_) (fun ρ => rfl) rfl
  simp only [evalE, pureE] at h
  refine ⟨ρ, Φ, U, h.bind (RM.mono _) (p2 := pureE cb && pureE cc) and2 fun x ρ1 v H1 U1 l1 s1 e1 r1 h1 => ⟨ρ1, Φ, U1, h1.bind (RM.mono _) (p2 := pureE cc) and2 fun y ρ2 u H2 U2 l2 s2 e2 r2 h2 => ?_⟩⟩
  obtain ⟨d, e, h2⟩ := h2.obb
  refine ⟨_, x, y, d, RM.keep r1 s2 l2 e2, RM.rp r2, e, d, rfl, ?_⟩
  cases d with
  | true =>
    rw [if_pos rfl] at h2 ⊢
    refine ⟨ρ2, Φ, U2, h2.bind (RM.mono _) (p2 := true) (fun z => ⟨z, rfl⟩) fun z ρ3 w H3 U3 l3 s3 e3 r3 h3 => ?_⟩
    obtain ⟨d2, e2, h3⟩ := h3.obb
    exact ⟨_, y, z, d2, RM.keep r2 s3 l3 e3, r3, e2, h3.ok (Same.refl _) (by simp only [RM, R])⟩
  | false =>
    rw [if_neg Bool.false_ne_true] at h2 ⊢
    exact h2.ok (Same.refl _) (by simp only [RM, R])
theorem t_chn {a b c : Expr} {ca cb cc : CE} {o1 o2 : CmpOp} {pos : Pos} (hr : Room k X.A) (hm : lastMarks [o1, o2] [b, c] = false) (ha : E3 cf X Wx a ca) (hb : E3 cf X Wx b cb) (hc : E3 cf X Wx c cc) : T3 cf X Wx (.Compare a [o1, o2] [b, c] pos) (.chn o1 o2 ca cb cc) := by
  refine PT.imp (pt_chain (cmpD_ok hr o1) (cmpD_ok hr o2) (ha.m (pureE cb)) (hb.m (pureE cc)) hc.p hm) fun σ H Q ⟨ρ, Φ, U, h⟩ => ?_
  simp only [evalB, evalE, pureE, evalB_bind] at h
  refine ⟨ρ, Φ, U, h.bind rEq.mono (p2 := pureE cb && pureE cc) and2 fun x ρ1 v H1 U1 l1 s1 e1 r1 h1 => ⟨ρ1, Φ, U1, h1.bind rEq.mono (p2 := pureE cc) and2 fun y ρ2 u H2 U2 l2 s2 e2 r2 h2 => ?_⟩⟩
  obtain ⟨d, e, h2⟩ := h2.obb
  refine ⟨_, x, y, d, RM.keep r1 s2 l2 e2, RM.rp r2, e, d, rfl, ?_⟩
  cases d with
  | true =>
    rw [if_pos rfl] at h2 ⊢
    rw [evalB_bind] at h2
    refine ⟨ρ2, Φ, U2, h2.bind rEq.mono (p2 := true) (fun z => ⟨z, rfl⟩) fun z ρ3 w H3 U3 l3 s3 e3 r3 h3 => ?_⟩
    rw [eob_bind] at h3
    obtain ⟨d2, e2, h3⟩ := h3.obb
    exact ⟨_, y, z, d2, RM.keep r2 s3 l3 e3, r3, e2, d2, rfl, h3.ok (Same.refl _) rfl⟩
  | false =>
    rw [if_neg Bool.false_ne_true] at h2 ⊢
    exact ⟨false, rfl, h2.ok (Same.refl _) rfl⟩
/-! and, or, not -/
theorem e_and {a b : Expr} {es : List Expr} {ca cb : CE} {pos : Pos} (ha : E3 cf X Wx a ca) (hb : E3 cf X Wx (.BoolOp .And (b :: es) pos) cb) : E3 cf X Wx (.BoolOp .And (a :: b :: es) pos) (.and_ ca cb) := by
  refine .ofVal (PE.imp (pe_and ha.v hb.v) fun σ H Q ⟨ρ, Φ, U, h⟩ => ?_) (fun ρ => rfl) rfl
  simp only [evalE, pureE] at h
  refine ⟨ρ, Φ, U, h.bind (RM.mono _) (p2 := pureE cb) and2 fun x ρ1 v H1 U1 l1 s1 e1 r1 h1 => ?_⟩
  obtain ⟨d, e, h1⟩ := h1.obb
  cases x <;> simp [asB] at e
  subst e
  simp only [RM, R] at r1
  refine ⟨_, r1, ?_⟩
  split <;> rename_i hk
  · rw [if_pos hk] at h1
    exact ⟨ρ1, Φ, U1, h1⟩
  · rw [if_neg hk] at h1
    exact h1.ok (Same.refl _) (by simp only [RM, R])
theorem e_or {a b : Expr} {es : List Expr} {ca cb : CE} {pos : Pos} (ha : E3 cf X Wx a ca) (hb : E3 cf X Wx (.BoolOp .Or (b :: es) pos) cb) : E3 cf X Wx (.BoolOp .Or (a :: b :: es) pos) (.or_ ca cb) := by
  refine .ofVal (PE.imp (pe_or ha.v hb.v) fun σ H Q ⟨ρ, Φ, U, h⟩ => ?_) (fun ρ => rfl) rfl
  simp only [evalE, pureE] at h
  refine ⟨ρ, Φ, U, h.bind (RM.mono _) (p2 := pureE cb) and2 fun x ρ1 v H1 U1 l1 s1 e1 r1 h1 => ?_⟩
  obtain ⟨d, e, h1⟩ := h1.obb
  cases x <;> simp [asB] at e
  subst e
  simp only [RM, R] at r1
  refine ⟨_, r1, ?_⟩
  split <;> rename_i hk
  · rw [if_pos hk] at h1
    exact h1.ok (Same.refl _) (by simp only [RM, R])
  · rw [if_neg hk] at h1
    exact ⟨ρ1, Φ, U1, h1⟩
theorem e_not {a : Expr} {ca : CE} {pos : Pos} (ha : E3 cf X Wx a ca) : E3 cf X Wx (.UnaryOp .Not a pos) (.not_ ca) := by
  refine .ofVal (PE.imp (pe_not ha.v) fun σ H Q ⟨ρ, Φ, U, h⟩ => ?_) (fun ρ => rfl) rfl
  simp only [evalE, pureE] at h
  refine ⟨ρ, Φ, U, h.bind (RM.mono _) (p2 := true) (fun z => ⟨z, rfl⟩) fun x ρ1 v H1 U1 l1 s1 e1 r1 h1 => ?_⟩
  obtain ⟨d, e, h1⟩ := h1.obb
  cases x <;> simp [asB] at e
  subst e
  simp only [RM, R] at r1
  exact ⟨_, r1, h1.ok (Same.refl _) (by simp only [RM, R])⟩
theorem evalB_not {ca : CE} {ρ : Rho} : evalB cf (.not_ ca) ρ = (evalB cf ca ρ).bind fun k ρ => .ok (!k) ρ := by
  simp only [evalB, evalE]
  cases evalE cf false ca ρ with
  | ok x ρ => simp only [ebind_ok]; cases asB x <;> rfl
  | exc c p ρ => rfl
  | bad => rfl
theorem evalB_and {ca cb : CE} {ρ : Rho} : evalB cf (.and_ ca cb) ρ = (evalB cf ca ρ).bind fun k ρ => if k = true then evalB cf cb ρ else .ok false ρ := by
  simp only [evalB, evalE]
  cases evalE cf false ca ρ with
  | ok x ρ =>
    simp only [ebind_ok]
    cases asB x with
    | none => rfl
    | some k => cases k <;> rfl
  | exc c p ρ => rfl
  | bad => rfl
theorem evalB_or {ca cb : CE} {ρ : Rho} : evalB cf (.or_ ca cb) ρ = (evalB cf ca ρ).bind fun k ρ => if k = true then .ok true ρ else evalB cf cb ρ := by
  simp only [evalB, evalE]
  cases evalE cf false ca ρ with
  | ok x ρ =>
    simp only [ebind_ok]
    cases asB x with
    | none => rfl
    | some k => cases k <;> rfl
  | exc c p ρ => rfl
  | bad => rfl
theorem t_not {a : Expr} {ca : CE} {pos : Pos} (ha : T3 cf X Wx a ca) : T3 cf X Wx (.UnaryOp .Not a pos) (.not_ ca) := by
  refine PT.imp (pt_not ha) fun σ H Q ⟨ρ, Φ, U, h⟩ => ?_
  rw [evalB_not] at h
  exact ⟨ρ, Φ, U, h.bind rEq.mono (p2 := true) (fun z => ⟨z, rfl⟩) fun x ρ1 v H1 U1 l1 s1 e1 r1 h1 => h1.ok (Same.refl _) (by rw [show x = v from r1]; rfl)⟩
def W3 (cf : Str → List D → CR) (X : Cx) (Wx : WX) (e : Expr) (c : CE) : Prop := PW X e (fun σ H Q => ∃ ρ, tB X Wx (pureE c) ρ (evalB cf c ρ) σ H Q)
theorem w_and {a b : Expr} {es : List Expr} {ca cb : CE} {pos : Pos} (ha : T3 cf X Wx a ca) (hb : W3 cf X Wx (.BoolOp .And (b :: es) pos) cb) : W3 cf X Wx (.BoolOp .And (a :: b :: es) pos) (.and_ ca cb) := by
  refine PW.imp (pw_and ha hb) fun σ H Q ⟨ρ, Φ, U, h⟩ => ?_
  simp only [evalB_and, pureE] at h
  refine ⟨ρ, Φ, U, h.bind rEq.mono (p2 := pureE cb) and2 fun x ρ1 v H1 U1 l1 s1 e1 r1 h1 => ?_⟩
  have r1 : x = v := r1
  subst r1
  split <;> rename_i hk
  · rw [if_pos hk] at h1
    exact ⟨ρ1, Φ, U1, h1⟩
  · rw [if_neg hk] at h1
    exact h1.ok (Same.refl _) rfl
theorem w_or {a b : Expr} {es : List Expr} {ca cb : CE} {pos : Pos} (ha : T3 cf X Wx a ca) (hb : W3 cf X Wx (.BoolOp .Or (b :: es) pos) cb) : W3 cf X Wx (.BoolOp .Or (a :: b :: es) pos) (.or_ ca cb) := by
  refine PW.imp (pw_or ha hb) fun σ H Q ⟨ρ, Φ, U, h⟩ => ?_
  simp only [evalB_or, pureE] at h
  refine ⟨ρ, Φ, U, h.bind rEq.mono (p2 := pureE cb) and2 fun x ρ1 v H1 U1 l1 s1 e1 r1 h1 => ?_⟩
  have r1 : x = v := r1
  subst r1
  split <;> rename_i hk
  · rw [if_pos hk] at h1
    exact h1.ok (Same.refl _) rfl
  · rw [if_neg hk] at h1
    exact ⟨ρ1, Φ, U1, h1⟩
theorem boolop_ok {op : BoolOp} {f : Expr → Option CE} {pos : Pos} (hf : ∀ e c, f e = some c → E3 cf X Wx e c ∧ T3 cf X Wx e c) : ∀ (es : List Expr) (c : CE), compB op f es = some c → E3 cf X Wx (.BoolOp op es pos) c ∧ W3 cf X Wx (.BoolOp op es pos) c
  | [], c, h => by simp [compB] at h
  | [e], c, h => by
    simp only [compB] at h
    obtain ⟨h1, h2⟩ := hf e c h
    refine ⟨⟨fun b => pe_one (h1.m b), fun z => pe_one (h1.f z)⟩, ?_⟩
    cases op
    · exact pw_and1 h2
    · exact pw_or1 h2
  | e :: e2 :: es, c, h => by
    simp only [compB] at h
    cases e1 : f e with
    | none => rw [e1] at h; cases h
    | some c1 =>
      cases e3 : compB op f (e2 :: es) with
      | none => rw [e1, e3] at h; cases h
      | some c2 =>
        rw [e1, e3] at h
        simp only [Option.bind_some, Option.some.injEq] at h
        subst h
        obtain ⟨h1, h2⟩ := hf e c1 e1
        obtain ⟨h3, h4⟩ := boolop_ok hf (e2 :: es) c2 e3
        cases op
        · exact ⟨e_and h1 h3, w_and h2 h4⟩
        · exact ⟨e_or h1 h3, w_or h2 h4⟩
theorem evalE_ife {cc ca cb : CE} {ρ : Rho} : evalE cf false (.ife cc ca cb) ρ = (evalB cf cc ρ).bind fun k ρ => if k = true then evalE cf false ca ρ else evalE cf false cb ρ := by
  simp only [evalB, evalE]
  cases evalE cf false cc ρ with
  | ok x ρ => simp only [ebind_ok]
  | exc c p ρ => rfl
  | bad => rfl
theorem evalB_ife {cc ca cb : CE} {ρ : Rho} : evalB cf (.ife cc ca cb) ρ = (evalB cf cc ρ).bind fun k ρ => if k = true then evalB cf ca ρ else evalB cf cb ρ := by
  simp only [evalB, evalE]
  cases evalE cf false cc ρ with
  | ok x ρ =>
    simp only [ebind_ok]
    cases asB x with
    | none => rfl
    | some k => cases k <;> rfl
  | exc c p ρ => rfl
  | bad => rfl
theorem e_ife {c a b : Expr} {cc ca cb : CE} {pos : Pos} (hc : T3 cf X Wx c cc) (ha : E3 cf X Wx a ca) (hb : E3 cf X Wx b cb) : E3 cf X Wx (.IfExp c a b pos) (.ife cc ca cb) := by
  refine .ofVal (PE.imp (pe_ifExp hc ha.v hb.v) fun σ H Q ⟨ρ, Φ, U, h⟩ => ?_) (fun ρ => rfl) rfl
  simp only [evalE_ife, pureE] at h
  refine ⟨ρ, Φ, U, h.bind (RM.mono _) (p2 := pureE ca && pureE cb) and2 fun x ρ1 v H1 U1 l1 s1 e1 r1 h1 => ?_⟩
  have r1 : x = v := r1
  subst r1
  split <;> rename_i hk
  · rw [if_pos hk] at h1
    exact ⟨ρ1, Φ, U1, h1.mp fun z => (and2 z).1⟩
  · rw [if_neg hk] at h1
    exact ⟨ρ1, Φ, U1, h1.mp fun z => (and2 z).2⟩
/-! places, slices -/
theorem e_ix {a b : Expr} {ca cb : CE} {pos : Pos} (hr : Room k X.A) (hs : PlainIx b) (ha : E3 cf X Wx a ca) (hb : E3 cf X Wx b cb) : E3 cf X Wx (.Subscript a b pos) (.ix ca cb) := by
  refine .ofVal (PE.imp (pe_ix (ixD_ok hr) (ha.m (pureE cb)) hb.p hs) fun σ H Q ⟨ρ, Φ, U, h⟩ => ?_) (fun ρ => rfl) rfl
  simp only [evalE, pureE] at h
  refine ⟨ρ, Φ, U, h.bind (RM.mono _) (p2 := pureE cb) and2 fun x ρ1 v H1 U1 l1 s1 e1 r1 h1 => ⟨ρ1, Φ, U1, h1.bind (RM.mono _) (p2 := true) (fun z => ⟨z, rfl⟩) fun y ρ2 u H2 U2 l2 s2 e2 r2 h2 => ?_⟩⟩
  obtain ⟨d, e, h2⟩ := h2.ob
  exact ⟨_, x, y, d, h2.trk, RM.keep r1 s2 l2 e2, r2, e, fun v H' s r => h2.ok s r⟩
theorem e_rev {a : Expr} {ca : CE} {j : Nat} {p1 p2 p3 pos : Pos} (ha : E3 cf X Wx a ca) : E3 cf X Wx (.Subscript a (.Slice none none (some (.UnaryOp .USub (.Constant (.int 1) j p1) p2)) p3) pos) (.rev ca) := by
  refine .ofFr (PE.imp (pe_revL ha.p) fun σ H Q ⟨ρ, Φ, U, h⟩ => ?_) (fun ρ => rfl)
  simp only [evalE, pureE] at h
  refine ⟨ρ, Φ, U, h.bind (RM.mono _) (p2 := true) (fun z => ⟨z, rfl⟩) fun x ρ1 v H1 U1 l1 s1 e1 r1 h1 => ?_⟩
  obtain ⟨ds, e1, h1⟩ := h1.obb
  cases x <;> simp [asSq] at e1
  subst e1
  obtain ⟨a, xs, rfl, q1, q2⟩ := RP.list r1
  exact ⟨a, xs, rfl, q1, fun p hp => h1.okN (same_new hp) (RN.newLst h1.trk hp q2.reverse)⟩
def O3 (cf : Str → List D → CR) (X : Cx) (Wx : WX) (e : Option Expr) (c : CO) : Prop := PO X e (fun σ H Q => ∃ ρ, tOI X Wx (pureO c) ρ (evalO cf c ρ) σ H Q)
theorem o_no : O3 cf X Wx none .no := PO.imp po_none fun σ H Q ⟨ρ, Φ, U, h⟩ => h.ok (Same.refl _) rfl
theorem o_so {e : Expr} {c : CE} (h : E3 cf X Wx e c) : O3 cf X Wx (some e) (.so c) := by
  refine PO.imp (po_some h.v) fun σ H Q ⟨ρ, Φ, U, h⟩ => ?_
  simp only [evalO, pureO] at h
  refine ⟨ρ, Φ, U, h.bind rEq.mono (p2 := true) (fun z => ⟨z, rfl⟩) fun x ρ1 v H1 U1 l1 s1 e1 r1 h1 => ?_⟩
  obtain ⟨i, e, h1⟩ := h1.obb
  cases x <;> simp [asI] at e
  subst e
  simp only [RM, R] at r1
  exact ⟨_, r1, h1.ok (Same.refl _) rfl⟩
theorem e_slc {a : Expr} {lo hi : Option Expr} {ca : CE} {cl ch : CO} {p2 pos : Pos} (ha : E3 cf X Wx a ca) (hl : O3 cf X Wx lo cl) (hh : O3 cf X Wx hi ch) : E3 cf X Wx (.Subscript a (.Slice lo hi none p2) pos) (.slc ca cl ch) := by
  refine .ofFr (PE.imp (pe_slice slcD_ok (ha.m (pureO cl && pureO ch)) hl hh) fun σ H Q ⟨ρ, Φ, U, h⟩ => ?_) (fun ρ => rfl)
  simp only [evalE, pureE] at h
  refine ⟨ρ, Φ, U, h.bind (RM.mono _) (p2 := pureO cl && pureO ch) and2 fun x ρ1 v H1 U1 l1 s1 e1 r1 h1 => ⟨ρ1, Φ, U1, h1.bind (RM.mono _) (p2 := pureO ch) and2 fun l ρ2 l' H2 U2 l2 s2 e2 r2 h2 => ⟨ρ2, Φ, U2, h2.bind (RM.mono _) (p2 := true) (fun z => ⟨z, rfl⟩) fun u ρ3 u' H3 U3 l3 s3 e3 r3 h3 => ?_⟩⟩⟩
  obtain ⟨d, e, h3⟩ := h3.ob
  have r2 : l = l' := r2
  have r3 : u = u' := r3
  subst r2 r3
  exact ⟨_, x, d, h3.trk, RM.keep r1 (s2.trans s3) (fun a z => l2 a (l3 a z)) (fun z => (e2 (and2 z).1).trans (e3 (and2 z).2)), e, fun v H' s r => h3.okN s r⟩
end
end DI
set_option Elab.async false
set_option linter.all false
set_option maxRecDepth 100000
set_option maxHeartbeats 4000000
/-! methods of dicts that read -/
namespace DI
open PySem PySem.Spec PyProof.Rows L2
section
variable {X : Cx} {Wx : WX} {pins : List (Addr × Obj)} {σ : L2.St} {H H' : Hp} {W W' : WS} {s : Shared} {k : Nat} {Φ : Fr} {U : WS} {ρ : Rho} {cf : Str → List D → CR} {m : Md}
def isDx (x : V) (H : Hp) : Prop := ∃ a o, x = .ref a ∧ H a = some (.ext fun h => h.get? a = some o) ∧ o.ExactDict
theorem RP.isDx {K : PySem.W.Frag × World} {kvs : List (D × D)} {v : V} (h : RP K H W (.dict kvs) v) : isDx v H := by
  obtain ⟨a, o, es, ep, e, h1, h2, h3, _⟩ := h.dict
  exact ⟨a, o, e, h1, h3⟩
theorem pe_dm {o e : Expr} {es : List Expr} {to : TE} {t : TA} {name : Str} {id : String} {apos cpos : Pos} {r : V → List V → Hp → VK → Prop} (slot : Slot "dict" name id) (hty : typeOf (.builtin id) = pure (.type "method_descriptor")) (hm : MtR X id r) (ho : PE X o to) (ha : PA X (e :: es) t)
    (hbase : attributeBase o name X.env (eval o X.env) = eval o X.env)
    (hfew : ((backTo cpos (starEach (e :: es) X.env)).all (fun x => !x.1) && (backToKw cpos (keywordEach [] X.env)).all (fun x => x.1.isSome)
      && decide ((e :: es).length + ([] : List Keyword).length + (if ([] : List Keyword).isEmpty then 0 else 1) < 30)) = true)
    (hline : (apos.endLine == cpos.line) = true) (hs : starEach (e :: es) X.env = (false, eval e X.env) :: starEach es X.env) (hpl : (backTo cpos (starEach es X.env)).any (·.1) = false) :
    PE X (.Call (.Attribute o name apos) (e :: es) [] cpos) (fun σ H Q => to σ H fun x H1 => isDx x H1 ∧ t σ H1 fun xs H2 => r x xs H2 Q) := by
  refine ⟨fun pins s σ H Q I h => ?_⟩
  refine wpAny_Call_method_late hbase hfew hline rfl (thn (ho.run pins s σ H _ I h) fun v s1 ⟨x, H1, I1, r1, ⟨a, ob, ea, eH, hx⟩, q1⟩ => ?_)
  subst ea
  cases r1
  obtain ⟨h1, h2⟩ := dict_ty I1 eH hx
  refine ⟨"dict", id, PySem.F.plainAttrs_dict, slot, hty, h1, h2, ?_⟩
  have hA := ha.run cpos pins s1 σ H1 _ I1 q1
  rw [hs] at hA ⊢
  refine Calls.callWith_builtin (by show (false || (backTo cpos (starEach es X.env)).any (·.1)) = false; rw [hpl]; rfl) (Calls.evalArgs_plain ?_)
  exact thn hA fun us s2 ⟨vs, H2, I2, r2, q2⟩ => hm pins s2 σ H2 (.ref a) vs (.ref a) us Q I2 rfl r2 q2
def rGetM (X : Cx) : V → List V → Hp → VK → Prop := fun x vs H Q => ∃ W kvs ds d, RP (X.K, X.w) H W (.dict kvs) x ∧ Rs (X.K, X.w) H W ds vs ∧ getM kvs ds = some d ∧ ∀ v, R (X.K, X.w) H W d v → Q v H
theorem mt_getM (hu : X.A.units + 70 < cLine) : MtR X "dict.get" (rGetM X) := by
  intro pins s σ H x vs v us Q I rx rv ⟨W, kvs, ds, d, hd, hr, hg, q⟩
  match ds, hg with
  | [kd], hg =>
    simp only [getM] at hg
    obtain ⟨g, e⟩ := guardP_some hg
    cases e
    simp only [Rs] at hr
    obtain ⟨y, r, rfl, h1, rfl⟩ := hr
    obtain ⟨u, rfl, ru⟩ := Vals.one rv
    exact d_get1D hu I hd h1 g rx ru q
  | [kd, dd], hg =>
    simp only [getM] at hg
    obtain ⟨g, e⟩ := guardP_some hg
    cases e
    simp only [Rs] at hr
    obtain ⟨y, r, rfl, h1, t, r', rfl, h2, rfl⟩ := hr
    obtain ⟨u, w, rfl, ru, rw'⟩ := Vals.two rv
    exact d_get2D hu I hd h1 h2 g rx ru rw' q
theorem e_mget {o e : Expr} {es : List Expr} {co : CE} {cl : CL} {apos cpos : Pos} (hr : Room k X.A) (ho : E3 cf X Wx o co) (h : PA X (e :: es) (tL cf X Wx cl))
    (hbase : attributeBase o "get" X.env (eval o X.env) = eval o X.env)
    (hfew : ((backTo cpos (starEach (e :: es) X.env)).all (fun x => !x.1) && (backToKw cpos (keywordEach [] X.env)).all (fun x => x.1.isSome)
      && decide ((e :: es).length + ([] : List Keyword).length + (if ([] : List Keyword).isEmpty then 0 else 1) < 30)) = true)
    (hline : (apos.endLine == cpos.line) = true) (hs : starEach (e :: es) X.env = (false, eval e X.env) :: starEach es X.env) (hpl : (backTo cpos (starEach es X.env)).any (·.1) = false) :
    E3 cf X Wx (.Call (.Attribute o "get" apos) (e :: es) [] cpos) (.mget co cl) := by
  refine .ofVal (PE.imp (pe_dm PySem.F.slot_dict_get PySem.F.type_dict_get (mt_getM (by have := hr.un; omega)) (ho.m (pureL cl)) h hbase hfew hline hs hpl) fun σ H Q ⟨ρ, Φ, U, a⟩ => ?_) (fun ρ => rfl) rfl
  simp only [evalE, pureE] at a
  refine ⟨ρ, Φ, U, a.bind (RM.mono _) (p2 := pureL cl) and2 fun x ρ1 v H1 U1 l1 s1 e1 r1 h1 => ?_⟩
  obtain ⟨kvs, e2, h1⟩ := h1.obb
  cases x <;> simp [asDc] at e2
  subst e2
  refine ⟨RP.isDx (RM.rp r1), ρ1, Φ, U1, h1.bind (RM.mono _) (p2 := true) (fun z => ⟨z, rfl⟩) fun ds ρ2 vs H2 U2 l2 s2 e2 r2 h2 => ?_⟩
  obtain ⟨d, e3, h2⟩ := h2.ob
  exact ⟨_, _, ds, d, RM.keep r1 s2 l2 e2, r2, e3, fun v' hv => h2.ok (Same.refl H2) hv⟩
theorem RN.newDic {K : PySem.W.Frag × World} {H : Hp} {W : WS} {p : Addr} {o : Obj} (hW : ∀ a, W a → H a ≠ Option.none) (hp : H p = Option.none) (h1 : (p == sysModules) = false) (h2 : o.ExactDict) (h3 : o.data = .dict #[] 0) : RN K H (upd H p (.ext fun h => h.get? p = some o)) W (.dict []) (.ref p) := by
  have ok : dOk [] = true := by decide
  refine ⟨?_, fun _ => ⟨p, rfl, hp, ?_⟩⟩
  · simp only [R]
    exact ⟨p, o, #[], 0, rfl, upd_same, fun q => hW p q hp, h1, h2, h3, by simp [Re], ok⟩
  · simp only [OwnAt]
    exact ⟨o, #[], 0, upd_same, h1, h2, h3, by simp [Re], ok⟩
theorem pe_dic {pos : Pos} : PE X (.Dict [] [] pos) (fun σ H Q => ∀ p o, H p = none → (p == sysModules) = false → o.ExactDict → o.data = .dict #[] 0 → Q (.ref p) (upd H p (.ext fun h => h.get? p = some o))) := ⟨fun pins s σ H Q I h =>
  wpAny_Dict_empty ⟨.ref s.heap.objs.size, _, I.laid (a := s.heap.objs.size) (o := .ext fun h => h.get? s.heap.objs.size = some { cls := .type "dict", data := .dict #[] }) (t' := s.toks) (fun _ _ q => Heap.get?_push_of_some _ q) (Nat.le_refl _) ⟨Heap.get?_push_size _ rfl, ⟨_, Heap.get?_push_size _ rfl⟩, fun h1 h2 q1 q2 => q2 _ q1⟩, rfl, h _ _ (I.hok.fresh (Nat.le_refl _)) (beq_eq_false_iff_ne.mpr (Ne.symm (Nat.ne_of_lt I.big))) ⟨rfl, rfl, rfl⟩ rfl⟩⟩
theorem e_dic {pos : Pos} : E3 cf X Wx (.Dict [] [] pos) .dic0 := by
  refine .ofFr (PE.imp pe_dic fun σ H Q ⟨ρ, Φ, U, a⟩ => ?_) (fun ρ => rfl)
  simp only [evalE] at a
  exact fun p o hp h1 h2 h3 => a.okN (same_new hp) (RN.newDic a.1.wtrk hp h1 h2 h3)
theorem strs_rs {K : PySem.W.Frag × World} : ∀ {ds : List D} {ys : List Str} {xs : List V}, strsOf ds = some ys → Rs K H W ds xs → xs = ys.map V.str
  | [], ys, xs, e, r => by
    simp only [strsOf, Option.some.injEq] at e
    subst e
    have : xs = [] := by simpa only [Rs] using r
    rw [this]
    rfl
  | d :: ds, ys, xs, e, r => by
    cases d <;> simp only [strsOf] at e <;> first | cases e | skip
    obtain ⟨zs, e1, e2⟩ := Option.map_eq_some_iff.mp e
    subst e2
    simp only [Rs, R] at r
    obtain ⟨x, r', rfl, rfl, h⟩ := r
    rw [strs_rs e1 h]
    rfl
theorem joinS_some {t : Str} {o : Option (List Str)} {d : D} (h : joinS t o = some d) : ∃ ys, o = some ys ∧ (ys.map (·.length)).sum + ys.length * t.length ≤ 16777216 ∧ d = .str (Txt.join t ys) := by
  cases o with
  | none => cases h
  | some ys =>
    obtain ⟨g, e⟩ := guardP_some (show guardP _ _ = some d from h)
    cases e
    exact ⟨ys, rfl, by simpa using g, rfl⟩
theorem e_joi {o e : Expr} {co c : CE} {apos cpos : Pos} (ho : E3 cf X Wx o co) (he : E3 cf X Wx e c)
    (hbase : attributeBase o "join" X.env (eval o X.env) = eval o X.env) (hline : (apos.endLine == cpos.line) = true) (hst : starEach [e] X.env = [(false, eval e X.env)]) :
    E3 cf X Wx (.Call (.Attribute o "join" apos) [e] [] cpos) (.joi co c) := by
  refine .ofVal (PE.imp (pe_bm PySem.F.plainAttrs_str PySem.F.slot_str_join PySem.F.type_str_join mt_join ho.p (pa_cons he.p pa_nil hst) hbase (by rw [hst]; rfl) hline hst rfl) fun σ H Q ⟨ρ, Φ, U, a⟩ => ?_) (fun ρ => rfl) rfl
  simp only [evalE, pureE] at a
  refine ⟨ρ, Φ, U, a.bind (RM.mono _) (p2 := pureE c) and2 fun x ρ1 v H1 U1 l1 s1 e1 r1 h1 => ?_⟩
  obtain ⟨t, e1, h1⟩ := h1.obb
  cases x <;> simp [asS] at e1
  subst e1
  have ev := RP.str r1
  subst ev
  refine ⟨rfl, ρ1, Φ, U1, h1.bind (RM.mono _) (p2 := true) (fun z => ⟨z, rfl⟩) fun y ρ2 u H2 U2 l2 s2 e2 r2 h2 => ?_⟩
  obtain ⟨d, e2, h2⟩ := h2.ob
  cases y <;> simp only [joiD] at e2 <;> first | cases e2 | skip
  · obtain ⟨ys, e3, hz, rfl⟩ := joinS_some e2
    obtain ⟨b, xs, rfl, k1, k2⟩ := RP.list r2
    rw [strs_rs e3 k2] at k1
    exact ⟨_, b, ys, rfl, rfl, .inl k1, hz, h2.ok (Same.refl H2) (by simp only [RM, R])⟩
  · obtain ⟨ys, e3, hz, rfl⟩ := joinS_some e2
    obtain ⟨b, xs, rfl, k1, k2⟩ := RP.tuple r2
    rw [strs_rs e3 k2] at k1
    exact ⟨_, b, ys, rfl, rfl, .inr k1.sq, hz, h2.ok (Same.refl H2) (by simp only [RM, R])⟩
theorem bi_dict : CallR X (.type "dict") (rDL X (biD "dict")) := by
  intro pins s σ H xs us Q I rv ⟨W, ds, d, hW, h, e, q⟩
  obtain ⟨kvs, rfl, g, rfl⟩ : ∃ kvs, ds = [.dict kvs] ∧ kdS kvs = true ∧ d = .dict kvs := by
    match ds with
    | [] => simp [biD] at e
    | [a] =>
      cases a <;> simp [biD] at e
      obtain ⟨g, e⟩ := guardP_some e
      cases e
      exact ⟨_, rfl, g, rfl⟩
    | _ :: _ :: _ => simp [biD] at e
  obtain ⟨x, rfl, h1⟩ := h.one
  obtain ⟨u, rfl, ru⟩ := Vals.one rv
  obtain ⟨a, o, es, ep, rfl, e1, hs, hx, hdt, r, ok⟩ := h1.dict
  cases ru
  have hl := dOk_nd ok
  obtain ⟨vs, q1, q2⟩ := dict_scal (I.hok a _ e1).1 hx hdt r g hl.1
  have hlen : vs.length = kvs.length := (Paired.length q2).symm
  refine kt_call_dict hs q1 (by rw [hlen, sizeLine_eq]; exact hl.2) fun h' dd sb => ?_
  obtain ⟨o', es', ep', ho', hx', hd', hk', hp', _⟩ := dd
  have hm : (s.heap.objs.size == sysModules) = false := beq_eq_false_iff_ne.mpr (Nat.ne_of_gt I.big)
  have hn := I.hok.fresh (Nat.le_refl _)
  have sm : Same H (upd H s.heap.objs.size (.ext fun h => h.get? s.heap.objs.size = some o')) := same_new hn
  have hr := re_back (P := X.prog) (K := (X.K, X.w)) (H := H) (W := W) hp' (fun e' he => hk' e' (by simpa using he)) g q2
  have st : ∀ W', (∀ b, W' b → W b ∨ b = s.heap.objs.size) → Stp H W (upd H s.heap.objs.size (.ext fun h => h.get? s.heap.objs.size = some o')) W' := fun W' hw => ⟨fun b o e n => ⟨sm b o e, fun z => (hw b z).elim n (ne_of_none e hn)⟩, fun b z => (hw b z).elim .inl fun z => .inr (z ▸ hn)⟩
  refine ⟨.ref s.heap.objs.size, _, I.laid (a := s.heap.objs.size) (o := .ext fun h => h.get? s.heap.objs.size = some o') (t' := s.toks) (fun b u e => (sb.2 b (Nat.ne_of_lt (Heap.lt_size e))).trans (Heap.get?_push_of_some _ e)) (Nat.le_refl _) ⟨ho', ⟨_, ho'⟩, fun h1 h2 q1 q2 => q2 _ q1⟩, rfl, q _ _ sm ⟨?_, fun _ => ⟨_, rfl, hn, ?_⟩⟩⟩
  · simp only [R]
    exact ⟨_, o', es', ep', rfl, upd_same, fun z => hW _ z hn, hm, hx', hd', Re.stp (st W fun b z => .inl z) _ _ hr, ok⟩
  · simp only [OwnAt]
    exact ⟨o', es', ep', upd_same, hm, hx', hd', Re.stp (st _ fun b z => z) _ _ hr, ok⟩
end
end DI
set_option Elab.async false
set_option linter.all false
set_option maxRecDepth 100000
set_option maxHeartbeats 4000000
/-! calls, targets, comprehensions -/
namespace DI
open PySem PySem.Spec PyProof.Rows L2
def bltK : List (String × Bool) := [("len", false), ("list", true), ("tuple", true), ("int", true), ("all", false), ("any", false), ("sum", false), ("min", false), ("max", false), ("sorted", false), ("dict", true)]
def bltV (p : String × Bool) : Value := if p.2 = true then .type p.1 else .builtin p.1
theorem bltK_boot : ∀ p ∈ bltK, bootBuiltins (Str.ofString p.1) = some (bltV p) := by decide +kernel
theorem bltK_nm : ∀ p ∈ bltK, Str.ofString p.1 ≠ ("__name__" : Str) := by decide +kernel
theorem bltK_db : ∀ p ∈ bltK, (Str.ofString p.1 == ("__debug__" : Str)) = false := by decide +kernel
theorem isiTs_boot : ∀ t ∈ isiTs, bootBuiltins (Str.ofString t) = some (.type t) := by decide +kernel
theorem isiTs_nm : ∀ p ∈ isiTs, Str.ofString p ≠ ("__name__" : Str) := by decide +kernel
theorem isiTs_db : ∀ p ∈ isiTs, (Str.ofString p == ("__debug__" : Str)) = false := by decide +kernel
section
variable {X : Cx} {Wx : WX} {pins : List (Addr × Obj)} {σ : L2.St} {H H' : Hp} {W W' : WS} {s : Shared} {k : Nat} {Φ : Fr} {U : WS} {ρ : Rho} {cf : Str → List D → CR} {m : Md}
theorem biD_ok (hc : X.calm = true) (hr : Room k X.A) : ∀ p ∈ bltK, CallR X (bltV p) (rDL X (biD p.1)) := fun p hp => by
  simp only [bltK, List.mem_cons, List.not_mem_nil, or_false] at hp
  rcases hp with rfl | rfl | rfl | rfl | rfl | rfl | rfl | rfl | rfl | rfl | rfl
  · exact bi_len
  · exact bi_list
  · exact bi_tuple
  · exact bi_int
  · exact bi_all hc
  · exact bi_any hc
  · exact bi_sum hc
  · exact bi_min hc
  · exact bi_max hc
  · exact bi_sorted (by have := hr.un; omega)
  · exact bi_dict
theorem e_bi {f : String} {t : Bool} {e : Expr} {es : List Expr} {cl : CL} {p pos : Pos} (hc : X.calm = true) (hr : Room k X.A) (hp : (f, t) ∈ bltK) (hg : Gl X (Str.ofString f)) (hm : X.mg (Str.ofString f) = none)
    (h : PA X (e :: es) (tPL cf X Wx cl)) (he : starEach (e :: es) X.env = (false, eval e X.env) :: starEach es X.env) (hpl : (backTo pos (starEach es X.env)).any (·.1) = false) :
    E3 cf X Wx (.Call (.Name (Str.ofString f) p) (e :: es) [] pos) (.bi f cl) := by
  have key : PE X (.Call (.Name (Str.ofString f) p) (e :: es) [] pos) (tCB (rDL X (biD f)) (tPL cf X Wx cl)) := by
    have h1 := biD_ok hc hr (f, t) hp
    have h2 := bltK_boot (f, t) hp
    cases t with
    | true => exact pe_callTy h1 hg hm h2 h (bltK_nm _ hp) (bltK_db _ hp) he hpl
    | false => exact pe_callB h1 hg hm h2 h (bltK_nm _ hp) (bltK_db _ hp) he hpl
  refine .ofFr (PE.imp key fun σ H Q ⟨ρ, Φ, U, a⟩ => ?_) (fun ρ => rfl)
  simp only [evalE, pureE] at a
  refine ⟨ρ, Φ, U, a.bind (RM.mono _) (p2 := true) (fun z => ⟨z, rfl⟩) fun ds ρ1 vs H1 U1 l1 s1 e1 r1 h1 => ?_⟩
  obtain ⟨d, e, h1⟩ := h1.ob
  exact ⟨_, ds, d, h1.trk, r1, e, fun v H' s r => h1.okN s r⟩
theorem e_isi {t : String} {e : Expr} {c : CE} {p pos p2 : Pos} (ht : t ∈ isiTs) (hg : Gl X "isinstance") (hm : X.mg "isinstance" = none) (hg2 : Gl X (Str.ofString t)) (hm2 : X.mg (Str.ofString t) = none) (h : E3 cf X Wx e c)
    (he : starEach (e :: [.Name (Str.ofString t) p2]) X.env = (false, eval e X.env) :: starEach [.Name (Str.ofString t) p2] X.env) :
    E3 cf X Wx (.Call (.Name "isinstance" p) [e, .Name (Str.ofString t) p2] [] pos) (.isi c t) := by
  have hb : PE X (.Name (Str.ofString t) p2) (tC (.ty t)) := pe_bltn hg2 hm2 (isiTs_boot t ht) rfl (isiTs_nm t ht) (isiTs_db t ht)
  have ha := pa_cons h.p (pa_cons hb pa_nil) he
  refine .ofVal (PE.imp (pe_callB (bi_isi t ht) hg hm (by decide +kernel) ha (by decide) (by decide) he rfl) fun σ H Q ⟨ρ, Φ, U, a⟩ => ?_) (fun ρ => rfl) rfl
  simp only [evalE, pureE] at a
  refine ⟨ρ, Φ, U, a.bind (RM.mono _) (p2 := true) (fun z => ⟨z, rfl⟩) fun x ρ1 v H1 U1 l1 s1 e1 r1 h1 => ?_⟩
  obtain ⟨d, e, h1⟩ := h1.ob
  refine ⟨_, v, x, rfl, r1, fun b hb => ?_⟩
  rw [hb] at e
  cases e
  exact h1.ok (Same.refl _) (by simp only [RM, R])
/-! the program's own functions -/
/-- how a parameter is handed over: a value; an owned one, that may be changed; one to be read -/
inductive PKd where
  | a | s | p
  deriving DecidableEq
def HandOk (K : PySem.W.Frag × World) (H : Hp) (W : WS) (as0 : List Addr) : List PKd → List D → List V → List Addr → Prop
  | [], [], [], [] => True
  | .a :: ks, d :: ds, v :: vs, as => R K H W d v ∧ HandOk K H W as0 ks ds vs as
  | .p :: ks, d :: ds, v :: vs, as => (R K H W d v ∨ ∃ a, v = .ref a ∧ OwnAt K H W a d ∧ W a ∧ a ∉ as0) ∧ HandOk K H W as0 ks ds vs as
  | .s :: ks, d :: ds, v :: vs, a :: as => v = .ref a ∧ OwnAt K H W a d ∧ HandOk K H W as0 ks ds vs as
  | _, _, _, _ => False
def OutOk (K : PySem.W.Frag × World) (H : Hp) (W : WS) : List PKd → List D → List Addr → Prop
  | [], [], [] => True
  | .s :: ks, d :: os, a :: as => OwnAt K H W a d ∧ OutOk K H W ks os as
  | .a :: ks, _ :: os, as => OutOk K H W ks os as
  | .p :: ks, _ :: os, as => OutOk K H W ks os as
  | _, _, _ => False
def KeepB (H : Hp) (as : List Addr) (H' : Hp) : Prop := (∀ a o, H a = some o → a ∉ as → H' a = some o) ∧ ∀ a, H' a = none → H a = none
def ExcM (mg : Str → Option Value) (c : Str) (p : List D) (cls : Value) (dd : Option Addr) (H : Hp) : Prop := ∃ C, mg c = some (.ref C) ∧ cls = .ref C ∧ p = [] ∧ dd = none
/-- what a function promises: what cf tells of the arguments -/
def spF (K : PySem.W.Frag × World) (mg : Str → Option Value) (ks : List PKd) (fr : Bool) (f : List D → CR) : Sp := fun vs H Q E => ∃ W ds as, (∀ a, W a → H a ≠ none) ∧ as.Nodup ∧ (∀ a ∈ as, W a) ∧ HandOk K H W as ks ds vs as ∧ match f ds with
  | .ok d os => ∀ v H', KeepB H as H' → (as = [] ∨ OutOk K H' (fun b => W b ∨ (fr = true ∧ apF d v = some b)) ks os as) → (if fr = true then RN K H H' W d v else R K H' W d v) → Q v H'
  | .exc c p os => ∀ cls dd H', KeepB H as H' → (as = [] ∨ OutOk K H' W ks os as) → ExcM mg c p cls dd H' → E cls dd H'
  | .bad => False
structure FnGood (X : Cx) (k : Nat) (cf : Str → List D → CR) (x : Str) (fr : Bool) (ks : List PKd) : Prop where
  ex : ∃ (f : Addr) (fd : FuncData) (ps : List Str), X.mg x = some (.ref f) ∧ PySem.W.keepIn X.K (.ref f) = true ∧ Binds X.K fd ps [] ∧ FnOk X.prog X.w X.K X.mg X.base (L2.CX X.prog X.w) k f fd ps (spF (X.K, X.w) X.mg ks fr (cf x))
  db : (x == ("__debug__" : Str)) = false
/-- the arguments' values -/
def ArgOk (K : PySem.W.Frag × World) (σ : L2.St) (H : Hp) (W : WS) : List AK → List D → List V → Prop
  | [], [], [] => True
  | .a :: is, d :: ds, v :: vs => R K H W d v ∧ ArgOk K σ H W is ds vs
  | .s i :: is, _ :: ds, v :: vs => σ[i]? = some (some v) ∧ ArgOk K σ H W is ds vs
  | .p i :: is, _ :: ds, v :: vs => σ[i]? = some (some v) ∧ ArgOk K σ H W is ds vs
  | _, _, _ => False
def rAs (K : PySem.W.Frag × World) (is : List AK) : Rel (List D) (List V) := fun σ Φ _ U _ H ds vs => ArgOk K σ H (WU Φ U) is ds vs
theorem rAs.mono {K : PySem.W.Frag × World} {is : List AK} : Mono (rAs K is) := fun _ _ _ _ _ _ _ _ _ _ h => h
abbrev tA (cf : Str → List D → CR) (X : Cx) (Wx : WX) (cl : CL) : TA := fun σ H Q => ∃ ρ, An X Wx (pureL cl) ρ (evalL cf cl ρ) (rAs (X.K, X.w) (ioOf cl)) σ H Q
theorem pa_Anil : PA X [] (tA cf X Wx .nil) := PA.imp pa_nil fun σ H Q ⟨ρ, Φ, U, h⟩ => h.ok (Same.refl H) (by simp only [rAs, ioOf, ArgOk])
theorem pa_Acons {e : Expr} {es : List Expr} {c : CE} {cl : CL} (he : E3 cf X Wx e c) (h : PA X es (tA cf X Wx cl)) (hs : starEach (e :: es) X.env = (false, eval e X.env) :: starEach es X.env) : PA X (e :: es) (tA cf X Wx (.cons c cl)) := by
  refine PA.imp (pa_cons he.v h hs) fun σ H Q ⟨ρ, Φ, U, h⟩ => ?_
  simp only [evalL, pureL] at h
  exact ⟨ρ, Φ, U, h.bind rAs.mono (p2 := pureL cl) and2 fun x ρ1 v H1 U1 l1 s1 e1 r1 h1 => ⟨ρ1, Φ, U1, h1.bind rAs.mono (p2 := true) (fun z => ⟨z, rfl⟩) fun xs ρ2 vs H2 U2 l2 s2 e2 r2 h2 => h2.ok (Same.refl H2) (by simp only [rAs, ioOf, ArgOk]; exact ⟨R.sx s2 r1, r2⟩)⟩⟩
/-- a slot that may be read -/
theorem Rep.ownP {K : PySem.W.Frag × World} (r : Rep K Φ U σ H ρ) {i : Nat} {d : D} (hi : slotP ρ[i]? = some d) : ∃ F v, RepF K Φ U σ H ρ F ∧ σ[i]? = some (some v) ∧ (R K H (WU Φ U) d v ∨ ∃ a, v = .ref a ∧ OwnAt K H (WU Φ U) a d ∧ (a ∈ F i ∨ Φ.r0 a)) := by
  obtain ⟨F, r⟩ := r
  cases e : ρ[i]? with
  | none => rw [e] at hi; cases hi
  | some sl =>
    rw [e] at hi
    have ok := r.ok i _ e
    cases sl <;> simp only [slotP] at hi <;> first | cases hi | skip
    · obtain ⟨h1, u, h2, h3⟩ := ok; exact ⟨F, u, r, h2, .inl h3⟩
    · obtain ⟨a, h1, h2, h3⟩ := ok; exact ⟨F, _, r, h2, .inr ⟨a, rfl, h3, .inl (by rw [h1]; simp)⟩⟩
    · obtain ⟨a, h1, h2, h3⟩ := ok; exact ⟨F, _, r, h2, .inr ⟨a, rfl, h3, .inl (by rw [h1]; simp)⟩⟩
    · obtain ⟨h1, u, h2, h3⟩ := ok; exact ⟨F, u, r, h2, h3.imp id fun ⟨a, e, h4, h5⟩ => ⟨a, e, h4, .inr (.inl h5)⟩⟩
    · obtain ⟨h1, a, h2, h3, h4⟩ := ok; exact ⟨F, _, r, h2, .inr ⟨a, rfl, h3, .inr (.inr h4)⟩⟩
theorem pa_Aio {i : Nat} {x : Str} {pos : Pos} {es : List Expr} {cl : CL} (hN : X.N[i]? = some x) (hv : Vis X.env.scope x) (hd : (x == ("__debug__" : Str)) = false) (hcd : (x == ("__classdict__" : Str)) = false) (h : PA X es (tA cf X Wx cl)) : PA X (.Name x pos :: es) (tA cf X Wx (.io i cl)) := by
  refine PA.imp (pa_cons (pe_var hN hv hd hcd) h rfl) fun σ H Q ⟨ρ, Φ, U, h⟩ => ?_
  simp only [evalL, pureL] at h
  cases e : slotD ρ[i]? with
  | none => rw [e] at h; exact h.2.elim
  | some d =>
    rw [e, if_pos (show (some d).isSome = true from rfl)] at h
    obtain ⟨a, h1, h2, h3⟩ := h.1.own e
    exact ⟨.ref a, h1, ρ, Φ, U, h.bind rAs.mono (p2 := true) (fun z => by cases z) fun xs ρ2 vs H2 U2 l2 s2 e2 r2 h2 => h2.ok (Same.refl H2) (by simp only [rAs, ioOf, ArgOk]; exact ⟨h1, r2⟩)⟩
theorem pa_Apk {i : Nat} {x : Str} {pos : Pos} {es : List Expr} {cl : CL} (hN : X.N[i]? = some x) (hv : Vis X.env.scope x) (hd : (x == ("__debug__" : Str)) = false) (hcd : (x == ("__classdict__" : Str)) = false) (h : PA X es (tA cf X Wx cl)) : PA X (.Name x pos :: es) (tA cf X Wx (.pk i cl)) := by
  refine PA.imp (pa_cons (pe_var hN hv hd hcd) h rfl) fun σ H Q ⟨ρ, Φ, U, h⟩ => ?_
  simp only [evalL, pureL] at h
  cases e : slotP ρ[i]? with
  | none => rw [e] at h; exact h.2.elim
  | some d =>
    rw [e, if_pos (show (some d).isSome = true from rfl)] at h
    obtain ⟨F, v, r, h1, h2⟩ := h.1.ownP e
    exact ⟨v, h1, ρ, Φ, U, h.bind rAs.mono (p2 := true) (fun z => ⟨z, rfl⟩) fun xs ρ2 vs H2 U2 l2 s2 e2 r2 h2 => h2.ok (Same.refl H2) (by simp only [rAs, ioOf, ArgOk]; exact ⟨h1, r2⟩)⟩
end
end DI
set_option Elab.async false
set_option linter.all false
set_option maxRecDepth 100000
set_option maxHeartbeats 4000000
/-! calls of the program's own functions -/
namespace DI
open PySem PySem.Spec PyProof.Rows L2
def fitK : List PKd → List AK → Bool
  | [], [] => true
  | .a :: ks, .a :: is => fitK ks is
  | .p :: ks, .a :: is => fitK ks is
  | .p :: ks, .p _ :: is => fitK ks is
  | .s :: ks, .s _ :: is => fitK ks is
  | _, _ => false
def handed (σ : L2.St) : List AK → List Addr
  | [] => []
  | .s i :: is => (match σ[i]? with | some (some (.ref a)) => [a] | _ => []) ++ handed σ is
  | _ :: is => handed σ is
section
variable {X : Cx} {Wx : WX} {pins : List (Addr × Obj)} {σ : L2.St} {H H' H1 : Hp} {W W' : WS} {s : Shared} {k : Nat} {Φ : Fr} {U : WS} {ρ ρ' : Rho} {cf : Str → List D → CR} {m : Md} {K : PySem.W.Frag × World} {F : Nat → List Addr}
theorem putIo_len : ∀ (is : List AK) (os : List D) (ρ : Rho), (putIo is os ρ).length = ρ.length
  | [], os, ρ => by cases os <;> rfl
  | .s i :: is, [], ρ => rfl
  | .s i :: is, d :: os, ρ => by
    show (putIo is os (ρ.set i (withD ρ[i]? d))).length = _
    rw [putIo_len is os]; simp
  | .a :: is, [], ρ => rfl
  | .a :: is, d :: os, ρ => putIo_len is os ρ
  | .p i :: is, [], ρ => rfl
  | .p i :: is, d :: os, ρ => putIo_len is os ρ
/-- a handed slot -/
def HSl (σ : L2.St) (ρ : Rho) (F : Nat → List Addr) (i : Nat) : Prop := ∃ a d, F i = [a] ∧ σ[i]? = some (some (V.ref a)) ∧ slotD ρ[i]? = some d
theorem RepF.hsl (r : RepF K Φ U σ H ρ F) {i : Nat} {d : D} (hi : slotD ρ[i]? = some d) : ∃ a, F i = [a] ∧ σ[i]? = some (some (V.ref a)) ∧ OwnAt K H (WU Φ U) a d := by
  unfold slotD at hi
  split at hi
  · rename_i d0 e
    cases hi
    obtain ⟨a, h1, h2, h3⟩ := r.ok i _ e
    exact ⟨a, h1, h2, h3⟩
  · rename_i d0 e
    cases hi
    obtain ⟨a, h1, h2, h3⟩ := r.ok i _ e
    exact ⟨a, h1, h2, h3⟩
  · cases hi
theorem fill_hsl (r : RepF K Φ U σ H ρ F) : ∀ {is : List AK} {ds es : List D}, fillIo ρ is ds = some es → ∀ i ∈ slotsK is, HSl σ ρ F i
  | [], ds, es, h, i, hi => by cases hi
  | .s j :: is, [], es, h, i, hi => by simp [fillIo] at h
  | .s j :: is, d :: ds, es, h, i, hi => by
    simp only [fillIo] at h
    obtain ⟨d1, e1, h⟩ := Option.bind_eq_some_iff.mp h
    obtain ⟨es', e2, e3⟩ := Option.map_eq_some_iff.mp h
    rcases List.mem_cons.mp (show i ∈ j :: slotsK is from hi) with hi | hi
    · subst hi
      obtain ⟨a, h1, h2, h3⟩ := r.hsl e1
      exact ⟨a, d1, h1, h2, e1⟩
    · exact fill_hsl r e2 i hi
  | .a :: is, [], es, h, i, hi => by simp [fillIo] at h
  | .a :: is, d :: ds, es, h, i, hi => by
    simp only [fillIo] at h
    obtain ⟨es', e2, e3⟩ := Option.map_eq_some_iff.mp h
    exact fill_hsl r e2 i hi
  | .p j :: is, [], es, h, i, hi => by simp [fillIo] at h
  | .p j :: is, d :: ds, es, h, i, hi => by
    simp only [fillIo] at h
    obtain ⟨d1, e1, h⟩ := Option.bind_eq_some_iff.mp h
    obtain ⟨es', e2, e3⟩ := Option.map_eq_some_iff.mp h
    exact fill_hsl r e2 i hi
theorem handed_mem : ∀ {is : List AK}, (∀ i ∈ slotsK is, HSl σ ρ F i) → ∀ a ∈ handed σ is, ∃ i ∈ slotsK is, F i = [a]
  | [], h, a, ha => by cases ha
  | .s i :: is, h, a, ha => by
    obtain ⟨b, d, h1, h2, h3⟩ := h i List.mem_cons_self
    unfold handed at ha
    rw [h2] at ha
    rcases List.mem_cons.mp (show a ∈ b :: handed σ is from ha) with ha | ha
    · exact ⟨i, List.mem_cons_self, by rw [h1, ha]⟩
    · obtain ⟨j, g1, g2⟩ := handed_mem (fun j hj => h j (List.mem_cons_of_mem _ hj)) a ha
      exact ⟨j, List.mem_cons_of_mem _ g1, g2⟩
  | .a :: is, h, a, ha => handed_mem (is := is) h a ha
  | .p i :: is, h, a, ha => handed_mem (is := is) h a ha
theorem handed_nodup (r : RepF K Φ U σ H ρ F) : ∀ {is : List AK}, (∀ i ∈ slotsK is, HSl σ ρ F i) → (slotsK is).Nodup → (handed σ is).Nodup
  | [], h, n => .nil
  | .s i :: is, h, n => by
    obtain ⟨b, d, h1, h2, h3⟩ := h i List.mem_cons_self
    have n : (i :: slotsK is).Nodup := n
    rw [List.nodup_cons] at n
    unfold handed
    rw [h2]
    refine List.nodup_cons.mpr ⟨fun z => ?_, handed_nodup r (fun j hj => h j (List.mem_cons_of_mem _ hj)) n.2⟩
    obtain ⟨j, g1, g2⟩ := handed_mem (fun j hj => h j (List.mem_cons_of_mem _ hj)) b z
    have := r.sep i j b (by rw [h1]; simp) (by rw [g2]; simp)
    exact n.1 (this ▸ g1)
  | .a :: is, h, n => handed_nodup (is := is) r h n
  | .p i :: is, h, n => handed_nodup (is := is) r h n
theorem hand_ok (r : RepF K Φ U σ H ρ F) {as0 : List Addr} {js0 : List Nat} (h0 : ∀ a ∈ as0, (∃ i ∈ js0, F i = [a]) ∨ (¬ U a ∧ ¬ Φ.r0 a)) : ∀ {ks : List PKd} {is : List AK} {ds es : List D} {vs : List V}, fitK ks is = true → fillIo ρ is ds = some es → ArgOk K σ H (WU Φ U) is ds vs → pkOff js0 is = true → HandOk K H (WU Φ U) as0 ks es vs (handed σ is)
  | ks, [], [], es, vs, hf, h, ha, hp => by
    simp only [fillIo, Option.some.injEq] at h
    subst h
    cases ks with
    | cons _ _ => cases ‹PKd› <;> simp [fitK] at hf
    | nil =>
      cases vs with
      | nil => exact trivial
      | cons _ _ => simp only [ArgOk] at ha
  | ks, [], _ :: _, es, vs, hf, h, ha, hp => by simp [fillIo] at h
  | ks, .a :: is, [], es, vs, hf, h, ha, hp => by simp [fillIo] at h
  | ks, .s _ :: is, [], es, vs, hf, h, ha, hp => by simp [fillIo] at h
  | ks, .p _ :: is, [], es, vs, hf, h, ha, hp => by simp [fillIo] at h
  | ks, .a :: is, d :: ds, es, vs, hf, h, ha, hp => by
    simp only [fillIo] at h
    obtain ⟨es', e2, rfl⟩ := Option.map_eq_some_iff.mp h
    cases vs with
    | nil => simp only [ArgOk] at ha
    | cons v vs =>
      simp only [ArgOk] at ha
      cases ks with
      | nil => simp [fitK] at hf
      | cons kd ks =>
        cases kd <;> simp only [fitK] at hf <;> first | cases hf | skip
        · exact ⟨ha.1, hand_ok (is := is) r h0 hf e2 ha.2 hp⟩
        · exact ⟨.inl ha.1, hand_ok (is := is) r h0 hf e2 ha.2 hp⟩
  | ks, .s i :: is, d :: ds, es, vs, hf, h, ha, hp => by
    simp only [fillIo] at h
    obtain ⟨d1, e1, h⟩ := Option.bind_eq_some_iff.mp h
    obtain ⟨es', e2, rfl⟩ := Option.map_eq_some_iff.mp h
    cases vs with
    | nil => simp only [ArgOk] at ha
    | cons v vs =>
      simp only [ArgOk] at ha
      cases ks with
      | nil => simp [fitK] at hf
      | cons kd ks =>
        cases kd <;> simp only [fitK] at hf <;> first | cases hf | skip
        obtain ⟨a, h1, h2, h3⟩ := r.hsl e1
        have hv := ha.1
        rw [h2] at hv
        cases hv
        unfold handed
        rw [h2]
        exact ⟨rfl, h3, hand_ok r h0 hf e2 ha.2 hp⟩
  | ks, .p i :: is, d :: ds, es, vs, hf, h, ha, hp => by
    simp only [fillIo] at h
    obtain ⟨d1, e1, h⟩ := Option.bind_eq_some_iff.mp h
    obtain ⟨es', e2, rfl⟩ := Option.map_eq_some_iff.mp h
    simp only [pkOff, Bool.and_eq_true, Bool.not_eq_true'] at hp
    have hni : i ∉ js0 := by simpa using hp.1
    cases vs with
    | nil => simp only [ArgOk] at ha
    | cons v vs =>
      simp only [ArgOk] at ha
      cases ks with
      | nil => simp [fitK] at hf
      | cons kd ks =>
        cases kd <;> simp only [fitK] at hf <;> first | cases hf | skip
        refine ⟨?_, hand_ok (is := is) r h0 hf e2 ha.2 hp.2⟩
        have hU : ∀ a j, F j = [a] → U a := fun a j q => (r.mem a).mpr ⟨j, by rw [q]; simp⟩
        cases e : ρ[i]? with
        | none => rw [e] at e1; cases e1
        | some sl =>
          rw [e] at e1
          have ok := r.ok i _ e
          cases sl <;> simp only [slotP] at e1 <;> first | cases e1 | skip
          · obtain ⟨h1, u, h2, h3⟩ := ok
            rw [ha.1] at h2; cases h2
            exact .inl h3
          · obtain ⟨a, h1, h2, h3⟩ := ok
            rw [ha.1] at h2; cases h2
            refine .inr ⟨a, rfl, h3, .inr (hU a i h1), fun z => ?_⟩
            rcases h0 a z with ⟨j, g1, g2⟩ | ⟨g1, _⟩
            case inr => exact g1 (hU a i h1)
            have := r.sep i j a (by rw [h1]; simp) (by rw [g2]; simp)
            exact hni (this ▸ g1)
          · obtain ⟨a, h1, h2, h3⟩ := ok
            rw [ha.1] at h2; cases h2
            refine .inr ⟨a, rfl, h3, .inr (hU a i h1), fun z => ?_⟩
            rcases h0 a z with ⟨j, g1, g2⟩ | ⟨g1, _⟩
            case inr => exact g1 (hU a i h1)
            have := r.sep i j a (by rw [h1]; simp) (by rw [g2]; simp)
            exact hni (this ▸ g1)
          · obtain ⟨h1, u, h2, h3⟩ := ok
            rw [ha.1] at h2; cases h2
            refine h3.imp id fun ⟨a, e, h4, h5⟩ => ⟨a, e, h4, .inl (.inl (.inl h5)), fun z => ?_⟩
            rcases h0 a z with ⟨j, g1, g2⟩ | ⟨_, g1⟩
            case inr => exact g1 (.inl h5)
            exact r.own a (hU a j g2) (.inl (.inl h5))
          · obtain ⟨h1, a, h2, h3, h5⟩ := ok
            rw [ha.1] at h2; cases h2
            refine .inr ⟨a, rfl, h3, .inl (.inl (.inr h5)), fun z => ?_⟩
            rcases h0 a z with ⟨j, g1, g2⟩ | ⟨_, g1⟩
            case inr => exact g1 (.inr h5)
            exact r.own a (hU a j g2) (.inl (.inr h5))
theorem withD_get {ρ : Rho} {i : Nat} {d d' : D} (h : slotD ρ[i]? = some d) : (ρ[i]? = some (.ow d) ∧ withD ρ[i]? d' = .ow d') ∨ (ρ[i]? = some (.io d) ∧ withD ρ[i]? d' = .io d') := by
  unfold slotD at h
  split at h
  · rename_i e; cases h; rw [e]; exact .inl ⟨rfl, rfl⟩
  · rename_i e; cases h; rw [e]; exact .inr ⟨rfl, rfl⟩
  · cases h
/-- what the slots are behind the call -/
theorem put_ok : ∀ {ks : List PKd} {is : List AK} {os : List D} {ρ : Rho}, fitK ks is = true → (∀ i ∈ slotsK is, HSl σ ρ F i) → (slotsK is).Nodup → OutOk K H' W ks os (handed σ is) → ∀ (i : Nat) (sl : Sl), (putIo is os ρ)[i]? = some sl →
    (ρ[i]? = some sl ∧ i ∉ slotsK is) ∨ (i ∈ slotsK is ∧ ∃ a d d', F i = [a] ∧ OwnAt K H' W a d' ∧ ((ρ[i]? = some (.ow d) ∧ sl = .ow d') ∨ (ρ[i]? = some (.io d) ∧ sl = .io d')))
  | ks, [], os, ρ, hf, hs, hn, ho, i, sl, e => by
    have : putIo [] os ρ = ρ := by cases os <;> rfl
    rw [this] at e
    exact .inl ⟨e, fun z => by cases z⟩
  | ks, .s j :: is, os, ρ, hf, hs, hn, ho, i, sl, e => by
    obtain ⟨a, d, h1, h2, h3⟩ := hs j List.mem_cons_self
    have hn : (j :: slotsK is).Nodup := hn
    rw [List.nodup_cons] at hn
    cases ks with
    | nil => simp [fitK] at hf
    | cons kd ks =>
      cases kd <;> simp only [fitK] at hf <;> first | cases hf | skip
      unfold handed at ho
      rw [h2] at ho
      cases os with
      | nil => exact ho.elim
      | cons d' os =>
        obtain ⟨ho1, ho2⟩ := ho
        have e : (putIo is os (ρ.set j (withD ρ[j]? d')))[i]? = some sl := e
        have hs' : ∀ i ∈ slotsK is, HSl σ (ρ.set j (withD ρ[j]? d')) F i := fun i hi => by
          obtain ⟨a2, d2, q1, q2, q3⟩ := hs i (List.mem_cons_of_mem _ hi)
          have hne : i ≠ j := fun z => hn.1 (z ▸ hi)
          exact ⟨a2, d2, q1, q2, by rw [set_ne hne]; exact q3⟩
        have hl : j < ρ.length := by
          cases e0 : ρ[j]? with
          | none => rw [e0] at h3; cases h3
          | some _ => exact (List.getElem?_eq_some_iff.mp e0).1
        rcases put_ok hf hs' hn.2 ho2 i sl e with ⟨q1, q2⟩ | ⟨q0, a2, d2, d2', q1, q2, q3⟩
        · by_cases hij : i = j
          · subst hij
            rw [List.getElem?_set_self hl] at q1
            cases q1
            refine .inr ⟨List.mem_cons_self, a, d, d', h1, ho1, ?_⟩
            rcases withD_get (d' := d') h3 with ⟨w1, w2⟩ | ⟨w1, w2⟩
            · exact .inl ⟨w1, w2⟩
            · exact .inr ⟨w1, w2⟩
          · rw [set_ne hij] at q1
            exact .inl ⟨q1, fun z => (List.mem_cons.mp (show i ∈ j :: slotsK is from z)).elim hij q2⟩
        · have hij : i ≠ j := fun z => hn.1 (z ▸ q0)
          rw [set_ne hij] at q3
          exact .inr ⟨List.mem_cons_of_mem _ q0, a2, d2, d2', q1, q2, q3⟩
  | ks, .a :: is, os, ρ, hf, hs, hn, ho, i, sl, e => by
    cases ks with
    | nil => simp [fitK] at hf
    | cons kd ks =>
      cases kd <;> simp only [fitK] at hf <;> first | cases hf | skip
      all_goals
        cases os with
        | nil => exact ho.elim
        | cons d' os => exact put_ok (is := is) hf hs hn ho i sl e
  | ks, .p j :: is, os, ρ, hf, hs, hn, ho, i, sl, e => by
    cases ks with
    | nil => simp [fitK] at hf
    | cons kd ks =>
      cases kd <;> simp only [fitK] at hf <;> first | cases hf | skip
      cases os with
      | nil => exact ho.elim
      | cons d' os => exact put_ok (is := is) hf hs hn ho i sl e
theorem handed_nil : ∀ {is : List AK}, (∀ i ∈ slotsK is, HSl σ ρ F i) → handed σ is = [] → slotsK is = []
  | [], h, e => rfl
  | .s i :: is, h, e => by
    obtain ⟨b, d, h1, h2, h3⟩ := h i List.mem_cons_self
    unfold handed at e
    rw [h2] at e
    cases e
  | .a :: is, h, e => handed_nil (is := is) h e
  | .p i :: is, h, e => handed_nil (is := is) h e
theorem putIo_nil : ∀ {is : List AK} {os : List D} {ρ : Rho}, slotsK is = [] → putIo is os ρ = ρ
  | [], os, ρ, h => by cases os <;> rfl
  | .s i :: is, os, ρ, h => by cases h
  | .a :: is, [], ρ, h => rfl
  | .a :: is, d :: os, ρ, h => putIo_nil (is := is) (os := os) h
  | .p i :: is, [], ρ, h => rfl
  | .p i :: is, d :: os, ρ, h => putIo_nil (is := is) (os := os) h
theorem pureL_slots : ∀ {cl : CL}, pureL cl = true → slotsK (ioOf cl) = []
  | .nil, h => rfl
  | .cons e es, h => by simp only [pureL, Bool.and_eq_true] at h; exact pureL_slots (cl := es) h.2
  | .io i es, h => by cases h
  | .pk i es, h => by simp only [pureL] at h; exact pureL_slots (cl := es) h
/-- behind the call the slots are right -/
theorem RepF.called {oa : Option Addr} (r : RepF K Φ U σ H ρ F) {ks : List PKd} {is : List AK} {os : List D} (hf : fitK ks is = true) (hs : ∀ i ∈ slotsK is, HSl σ ρ F i) (hn : (slotsK is).Nodup) (kp : KeepB H (handed σ is) H') (ho : handed σ is = [] ∨ OutOk K H' (WU (Φ.plus oa) U) ks os (handed σ is)) (ha : ∀ a ∈ oa, H a = none ∧ H' a ≠ none) :
    RepF K (Φ.plus oa) U σ H' (putIo is os ρ) F := by
  have hm := handed_mem hs
  have hCU : ∀ a ∈ handed σ is, U a := fun a z => let ⟨i, g1, g2⟩ := hm a z; (r.mem a).mpr ⟨i, by rw [g2]; simp⟩
  refine r.reG (C := fun a => a ∈ handed σ is) (putIo_len is os ρ) kp.1 (fun a z => .inr (hCU a z)) (fun a z q => r.own a (hCU a z) (.inl q)) kp.2 ha fun i sl e => ?_
  have hni : ∀ i, i ∉ slotsK is → ∀ a ∈ F i, a ∉ handed σ is := fun i hi a h1 z => by
    obtain ⟨j, g1, g2⟩ := hm a z
    have := r.sep i j a h1 (by rw [g2]; simp)
    exact hi (this ▸ g1)
  rcases ho with ho | ho
  · have h0 := handed_nil hs ho
    rw [putIo_nil h0] at e
    exact .inl ⟨e, hni i (by rw [h0]; simp)⟩
  · rcases put_ok hf hs hn ho i sl e with ⟨q1, q2⟩ | ⟨_, q⟩
    · exact .inl ⟨q1, hni i q2⟩
    · exact .inr q
theorem out_less {W W' : WS} (hw : ∀ b, W' b → W b) : ∀ {ks : List PKd} {os : List D} {as : List Addr}, OutOk K H W ks os as → OutOk K H W' ks os as
  | [], [], [], h => h
  | .s :: ks, d :: os, a :: as, h => ⟨h.1.less hw, out_less hw h.2⟩
  | .a :: ks, _ :: os, as, h => by
    have h : OutOk K H W ks os as := by cases as <;> exact h
    have := out_less hw h
    cases as <;> exact this
  | .p :: ks, _ :: os, as, h => by
    have h : OutOk K H W ks os as := by cases as <;> exact h
    have := out_less hw h
    cases as <;> exact this
  | [], _ :: _, _, h => h.elim
  | [], [], _ :: _, h => h.elim
  | .s :: _, [], _, h => h.elim
  | .s :: _, _ :: _, [], h => h.elim
  | .a :: _, [], _, h => h.elim
  | .p :: _, [], _, h => h.elim
theorem call_sp {ks : List PKd} {fr : Bool} {x : Str} {is : List AK} {ds : List D} {vs : List V} {Q : VK} {md : Md} {pu : Bool} (hm : md = .fr → fr = true) (hf : fitK ks is = true) (hpu : pu = true → slotsK is = []) (h : AnW X Wx Φ U pu ρ (callV x cf is ds ρ) (RM (X.K, X.w) md) σ H Q) (ha : ArgOk (X.K, X.w) σ H (WU Φ U) is ds vs) :
    spF (X.K, X.w) X.mg ks fr (cf x) vs H Q (WE Wx σ) := by
  have tr := h.trk
  unfold callV at h
  split at h
  case isFalse => exact h.bad.elim
  rename_i hg
  rw [Bool.and_eq_true, decide_eq_true_eq] at hg
  obtain ⟨hn, hp⟩ := hg
  split at h
  case h_2 => exact h.bad.elim
  rename_i es he
  obtain ⟨⟨F, r⟩, h⟩ := h
  have hs := fill_hsl r he
  have hm0 := handed_mem hs
  refine ⟨WU Φ U, es, handed σ is, tr, handed_nodup r hs hn, fun a z => let ⟨i, g1, g2⟩ := hm0 a z; .inr ((r.mem a).mpr ⟨i, by rw [g2]; simp⟩), hand_ok r (fun a z => .inl (hm0 a z)) hf he ha hp, ?_⟩
  have sx : ∀ {H'}, KeepB H (handed σ is) H' → SX H U H' U := fun kp => SX.re (C := fun a => a ∈ handed σ is) kp.1 (fun a z => let ⟨i, g1, g2⟩ := hm0 a z; (r.mem a).mpr ⟨i, by rw [g2]; simp⟩) kp.2
  revert h
  cases cf x es with
  | ok d os =>
    intro h v H' kp ho hv
    have ho1 : handed σ is = [] ∨ OutOk (X.K, X.w) H' (WU Φ U) ks os (handed σ is) := ho.imp id (out_less fun b z => .inl z)
    have rep1 := r.called (oa := none) hf hs hn kp ho1 (fun a z => by cases z)
    refine h v H' U ⟨F, rep1⟩ (sx kp) (fun a z => z) (fun z a o e => kp.1 a o e (by
      have : handed σ is = [] := by
        cases hh : handed σ is with
        | nil => rfl
        | cons a l =>
          obtain ⟨i, g1, g2⟩ := hm0 a (by rw [hh]; simp)
          rw [hpu z] at g1
          cases g1
      rw [this]; simp)) ?_
    cases md with
    | val =>
      split at hv
      · exact hv.1
      · exact hv
    | pk =>
      split at hv
      · exact .inl hv.1
      · exact .inl hv
    | fr =>
      rw [hm rfl, if_pos rfl] at hv
      refine ⟨hv, F, ?_⟩
      refine r.called hf hs hn kp (ho.imp id (out_less fun b z => ?_)) fun a z => ?_
      · cases e : apF d v with
        | none => rw [e] at z; exact .inl z
        | some a =>
          rw [e] at z
          exact z.elim (fun z => z.elim (fun w => .inl (.inl (.inl w))) fun w => w.elim (fun q => .inl (.inl (.inr q))) fun q => .inr ⟨hm rfl, by rw [q]⟩) fun z => .inl (.inr z)
      · unfold apF at z
        split at z
        · rename_i hb
          obtain ⟨a', e, h1, h2⟩ := hv.2 hb
          subst e
          cases z
          exact ⟨h1, h2.trk⟩
        · cases z
  | exc c p os =>
    intro h cls dd H' kp ho hx
    exact h cls dd H' U ⟨F, r.called (oa := none) hf hs hn kp ho (fun a z => by cases z)⟩ (sx kp) (fun a z => z) hx
  | bad => exact id
theorem e_call {x : Str} {fr : Bool} {e : Expr} {es : List Expr} {cl : CL} {ks : List PKd} {p pos : Pos} (tk : Takes X Wx) (hr : Room k X.A) (hg : Gl X x) (F : FnGood X k cf x fr ks) (hf : fitK ks (ioOf cl) = true)
    (h : PA X (e :: es) (tA cf X Wx cl)) (he : starEach (e :: es) X.env = (false, eval e X.env) :: starEach es X.env) (hpl : (backTo pos (starEach es X.env)).any (·.1) = false) :
    E3 cf X Wx (.Call (.Name x p) (e :: es) [] pos) (.call x fr cl) := by
  obtain ⟨f, fd, ps, gm, gk, gb, G⟩ := F.ex
  have key : ∀ (md : Md), (md = .fr → fr = true) → PE X (.Call (.Name x p) (e :: es) [] pos) (fun σ H Q => ∃ ρ, tE X Wx (pureE (.call x fr cl)) md ρ (evalE cf false (.call x fr cl) ρ) σ H Q) := fun md hmd => by
    refine PE.imp (pe_callS (E := WE Wx) G hr hg gm gk gb (fun σ => passAt tk σ) h F.db he hpl) fun σ H Q ⟨ρ, Φ, U, a⟩ => ?_
    simp only [evalE, pureE] at a
    exact ⟨ρ, Φ, U, a.bind (RM.mono _) (p2 := pureL cl) (fun z => ⟨z, z⟩) fun ds ρ1 vs H1 U1 l1 s1 e1 r1 h1 => call_sp hmd hf pureL_slots h1 r1⟩
  exact ⟨fun b => by
    cases b
    · exact key .val (fun z => by cases z)
    · exact key .pk (fun z => by cases z), fun z => key .fr (fun _ => z)⟩
end
end DI
set_option Elab.async false
set_option linter.all false
set_option maxRecDepth 100000
set_option maxHeartbeats 4000000
/-! calls whose first argument is new, and handed over -/
namespace DI
open PySem PySem.Spec PyProof.Rows L2
section
variable {X : Cx} {Wx : WX} {σ : L2.St} {H H' H1 H2 : Hp} {W W' : WS} {k : Nat} {Φ Φ' : Fr} {U U1 U2 : WS} {ρ ρ2 : Rho} {cf : Str → List D → CR} {K : PySem.W.Frag × World} {F : Nat → List Addr}
theorem RepF.lessAp (h1 : Φ'.w0 = Φ.w0) (h2 : Φ'.lw = Φ.lw) (h3 : Φ'.pin = Φ.pin) (h4 : ∀ a, Φ.ap a → Φ'.ap a) (r : RepF K Φ' U σ H ρ F) : RepF K Φ U σ H ρ F := by
  have hal : ∀ c, Φ.all c → Φ'.all c := fun c z => by
    unfold Fr.all Fr.r0 at *
    rw [h1, h2]
    exact z.imp id (h4 c)
  have st : Stp H (WU Φ' U) H (WU Φ U) := Stp.less fun c z => z.elim (fun z => .inl (hal c z)) .inr
  exact ⟨r.len, r.out, fun i sl e => (r.ok i sl e).stp st (fun c _ o q => q) (fun c z => by rw [h1] at z; exact z) (fun c z => by rw [h2] at z; exact z), r.bo, r.nd, r.sep, r.mem, fun c z q => r.own c z (hal c q), fun c z => r.trk c (hal c z), fun i a z => r.pin i a (by rw [h3]; exact z), fun i d e => by rw [← h3]; exact r.lkp i d e⟩
theorem plus_w0 (Φ : Fr) (oa : Option Addr) : (Φ.plus oa).w0 = Φ.w0 := by cases oa <;> rfl
theorem plus_lw (Φ : Fr) (oa : Option Addr) : (Φ.plus oa).lw = Φ.lw := by cases oa <;> rfl
theorem plus_pin (Φ : Fr) (oa : Option Addr) : (Φ.plus oa).pin = Φ.pin := by cases oa <;> rfl
theorem plus_ap {Φ Φ' : Fr} (h : ∀ a, Φ.ap a → Φ'.ap a) (oa : Option Addr) : ∀ a, (Φ.plus oa).ap a → (Φ'.plus oa).ap a := fun a z => by
  cases oa with
  | none => exact h a z
  | some b => exact z.imp (h a) id
/-- behind the call the slots are right -/
theorem RepF.calledF {oa : Option Addr} {a : Addr} (r : RepF K (Φ.plus (some a)) U σ H ρ F) {ks : List PKd} {is : List AK} {os : List D} (hf : fitK ks is = true) (hs : ∀ i ∈ slotsK is, HSl σ ρ F i) (hn : (slotsK is).Nodup) (kp : KeepB H (a :: handed σ is) H') (ho : OutOk K H' (WU ((Φ.plus (some a)).plus oa) U) ks os (handed σ is)) (ha : ∀ a ∈ oa, H a = none ∧ H' a ≠ none) (hna : ¬ Φ.r0 a) :
    RepF K (Φ.plus oa) U σ H' (putIo is os ρ) F := by
  have hm := handed_mem hs
  have hCU : ∀ b ∈ handed σ is, U b := fun b z => let ⟨i, g1, g2⟩ := hm b z; (r.mem b).mpr ⟨i, by rw [g2]; simp⟩
  have haU : ¬ U a := fun z => r.own a z (.inr (.inr rfl))
  have := r.reG (oa := oa) (C := fun b => b ∈ a :: handed σ is) (putIo_len is os ρ) kp.1 (fun b z => (List.mem_cons.mp z).elim (fun z => .inl (.inr (.inr z))) fun z => .inr (hCU b z)) (fun b z q => (List.mem_cons.mp z).elim (fun z => hna (z ▸ q)) fun z => r.own b (hCU b z) (.inl q)) kp.2 ha fun i sl e => by
    have hni : ∀ i, i ∉ slotsK is → ∀ b ∈ F i, b ∉ a :: handed σ is := fun i hi b h1 z => by
      rcases List.mem_cons.mp z with z | z
      · exact haU (z ▸ (r.mem b).mpr ⟨i, h1⟩)
      · obtain ⟨j, g1, g2⟩ := hm b z
        have := r.sep i j b h1 (by rw [g2]; simp)
        exact hi (this ▸ g1)
    rcases put_ok hf hs hn ho i sl e with ⟨q1, q2⟩ | ⟨_, q⟩
    · exact .inl ⟨q1, hni i q2⟩
    · exact .inr q
  exact RepF.lessAp (by rw [plus_w0, plus_w0, plus_w0]) (by rw [plus_lw, plus_lw, plus_lw]) (by rw [plus_pin, plus_pin, plus_pin]) (plus_ap (Φ := Φ) (Φ' := Φ.plus (some a)) (fun c z => (Or.inl z : Φ.ap c ∨ c = a)) oa) this
theorem call_spF {ks : List PKd} {fr : Bool} {x : Str} {is : List AK} {ds : List D} {vs : List V} {Q : VK} {md : Md} {a : Addr} {x0 : D} (hm : md = .fr → fr = true) (hf : fitK ks is = true)
    (h : AnW X Wx Φ U false ρ (callVF x cf is x0 ds ρ2) (RM (X.K, X.w) md) σ H Q)
    (hna : H a = none) (hr0 : ∀ b, Φ.all b → H b ≠ none) (rep2 : Rep (X.K, X.w) (Φ.plus (some a)) U2 σ H2 ρ2) (s2 : SX H U H2 U2) (l2 : ∀ b, U2 b → U b) (ha : ArgOk (X.K, X.w) σ H2 (WU (Φ.plus (some a)) U2) is ds vs) (ho : OwnAt (X.K, X.w) H2 (WU (Φ.plus (some a)) U2) a x0) :
    spF (X.K, X.w) X.mg (.s :: ks) fr (cf x) (.ref a :: vs) H2 Q (WE Wx σ) := by
  have tr := rep2.wtrk
  obtain ⟨_, h⟩ := h
  unfold callVF at h
  by_cases hg : (decide (slotsK is).Nodup && pkOff (slotsK is) is) = true
  case neg => rw [if_neg hg] at h; exact h.elim
  rw [if_pos hg] at h
  rw [Bool.and_eq_true, decide_eq_true_eq] at hg
  obtain ⟨hn, hp⟩ := hg
  cases he : fillIo ρ2 is ds with
  | none => rw [he] at h; exact h.elim
  | some es =>
  rw [he] at h
  dsimp only at h
  obtain ⟨F, r⟩ := rep2
  have hs := fill_hsl r he
  have hm0 := handed_mem hs
  have haU : ¬ U2 a := fun z => r.own a z (.inr (.inr rfl))
  have hnr : ¬ Φ.r0 a := fun z => hr0 a (.inl z) hna
  have hCU : ∀ b ∈ handed σ is, U2 b := fun b z => let ⟨i, g1, g2⟩ := hm0 b z; (r.mem b).mpr ⟨i, by rw [g2]; simp⟩
  have hnr' : ¬ (Φ.plus (some a)).r0 a := hnr
  refine ⟨WU (Φ.plus (some a)) U2, x0 :: es, a :: handed σ is, tr, List.nodup_cons.mpr ⟨fun z => haU (hCU a z), handed_nodup r hs hn⟩, fun b z => (List.mem_cons.mp z).elim (fun z => .inl (.inr (.inr z))) fun z => .inr (hCU b z),
    ⟨rfl, ho, hand_ok r (js0 := slotsK is) (fun b z => (List.mem_cons.mp z).elim (fun z => .inr (by rw [z]; exact ⟨haU, hnr'⟩)) fun z => .inl (hm0 b z)) hf he ha hp⟩, ?_⟩
  have sx : ∀ {H'}, KeepB H2 (a :: handed σ is) H' → SX H U H' U2 := fun kp => ⟨fun c o q n => by
      obtain ⟨w1, w2⟩ := s2.keep c o q n
      exact ⟨kp.1 c o w1 fun z => (List.mem_cons.mp z).elim (fun z => by rw [z, hna] at q; cases q) fun z => w2 (hCU c z), w2⟩, s2.new, fun c z => s2.trk c (kp.2 c z)⟩
  have tl : ∀ {H' : Hp} {W' : WS} {os : List D}, ((a :: handed σ is) = [] ∨ OutOk (X.K, X.w) H' W' (.s :: ks) os (a :: handed σ is)) → OutOk (X.K, X.w) H' W' ks os.tail (handed σ is) := fun {H' W' os} z => by
    rcases z with z | z
    · cases z
    · cases os with
      | nil => exact z.elim
      | cons o os => exact z.2
  revert h
  cases cf x (x0 :: es) with
  | ok d os =>
    intro h v H' kp ho1 hv
    have rep1 := r.calledF (oa := none) hf hs hn kp (out_less (fun b z => .inl z) (tl ho1)) (fun a z => by cases z) hnr
    have less : ∀ b, WU Φ U2 b → WU (Φ.plus (some a)) U2 b := fun b z => z.imp (fun z => z.imp id .inl) id
    have vR : R (X.K, X.w) H' (WU (Φ.plus (some a)) U2) d v := by
      split at hv
      · exact hv.1
      · exact hv
    refine h v H' U2 ⟨F, rep1⟩ (sx kp) l2 (fun z => by cases z) ?_
    cases md with
    | val => exact R.stp (Stp.less less) d v vR
    | pk => exact .inl (R.stp (Stp.less less) d v vR)
    | fr =>
      rw [hm rfl, if_pos rfl] at hv
      refine ⟨⟨R.stp (Stp.less less) d v hv.1, fun hb => ?_⟩, F, ?_⟩
      · obtain ⟨a', e, w1, w2⟩ := hv.2 hb
        exact ⟨a', e, s2.trk a' w1, w2.less fun b z => z.imp (less b) id⟩
      · refine r.calledF hf hs hn kp (out_less (fun b z => ?_) (tl ho1)) (fun a' z => ?_) hnr
        · cases e : apF d v with
          | none => rw [e] at z; exact .inl z
          | some a' =>
            rw [e] at z
            exact z.elim (fun z => z.elim (fun w => .inl (.inl (.inl w))) fun w => w.elim (fun q => .inl (.inl (.inr q))) fun q => .inr ⟨hm rfl, by rw [q]⟩) fun z => .inl (.inr z)
        · unfold apF at z
          split at z
          · rename_i hb
            obtain ⟨a2, e, h1, h2⟩ := hv.2 hb
            subst e
            cases z
            exact ⟨h1, h2.trk⟩
          · cases z
  | exc c p os =>
    intro h cls dd H' kp ho1 hx
    exact h cls dd H' U2 ⟨F, r.calledF (oa := none) hf hs hn kp (tl ho1) (fun a z => by cases z) hnr⟩ (sx kp) l2 hx
  | bad => exact id
theorem e_callF {x : Str} {fr : Bool} {e : Expr} {es : List Expr} {c : CE} {cl : CL} {ks : List PKd} {p pos : Pos} (tk : Takes X Wx) (hr : Room k X.A) (hg : Gl X x) (F : FnGood X k cf x fr (.s :: ks)) (hf : fitK ks (ioOf cl) = true) (hfe : freshE c = true) (hc : E3 cf X Wx e c)
    (h : PA X es (tA cf X Wx cl)) (he : starEach (e :: es) X.env = (false, eval e X.env) :: starEach es X.env) (hpl : (backTo pos (starEach es X.env)).any (·.1) = false) :
    E3 cf X Wx (.Call (.Name x p) (e :: es) [] pos) (.callF x fr c cl) := by
  obtain ⟨f, fd, ps, gm, gk, gb, G⟩ := F.ex
  have key : ∀ (md : Md), (md = .fr → fr = true) → PE X (.Call (.Name x p) (e :: es) [] pos) (fun σ H Q => ∃ ρ, tE X Wx (pureE (.callF x fr c cl)) md ρ (evalE cf false (.callF x fr c cl) ρ) σ H Q) := fun md hmd => by
    refine PE.imp (pe_callS (E := WE Wx) G hr hg gm gk gb (fun σ => passAt tk σ) (pa_cons (hc.f hfe) h he) F.db he hpl) fun σ H Q ⟨ρ, Φ, U, h⟩ => ?_
    simp only [evalE, pureE, hfe, Bool.true_and] at h
    obtain ⟨rep, h⟩ := h
    refine ⟨ρ, Φ, U, rep, ?_⟩
    cases ee : evalE cf false c ρ with
    | bad => rw [ee] at h; exact h
    | exc c p ρ1 => rw [ee] at h; exact h
    | ok x0 ρ1 =>
      rw [ee] at h
      simp only [ebind_ok] at h
      intro v H1 U1 r1 s1 l1 e1 rn
      by_cases hq : isBox x0 = true
      case neg => rw [if_neg hq] at h; exact h.elim
      rw [if_pos hq] at h
      obtain ⟨rn, rp⟩ := rn
      obtain ⟨a, ev, hn, ho⟩ := rn.2 hq
      subst ev
      have ea : apF x0 (.ref a) = some a := by unfold apF; rw [if_pos hq]
      rw [ea] at rp
      refine ⟨ρ1, Φ.plus (some a), U1, rp, ?_⟩
      cases el : evalL cf cl ρ1 with
      | bad => rw [el] at h; exact h
      | exc c p ρ2 =>
        rw [el] at h
        intro cls dd H2 U2 ⟨F2, r2⟩ s2 l2 q2
        exact h cls dd H2 U2 ⟨F2, RepF.lessAp (Φ := Φ) (Φ' := Φ.plus (some a)) rfl rfl rfl (fun c z => (Or.inl z : Φ.ap c ∨ c = a)) r2⟩ (s1.trans s2) (fun b z => l1 b (l2 b z)) q2
      | ok ds ρ2 =>
        rw [el] at h
        simp only [ebind_ok] at h
        intro vs H2 U2 r2 s2 l2 e2 ra
        have hall : ∀ b, Φ.all b → H b ≠ none := fun b z => rep.wtrk b (.inl z)
        have hU1 : ¬ U1 a := fun z => (s1.new a z).elim (fun z => rep.wtrk a (.inr z) hn) fun _ => by
          obtain ⟨F1, rf1⟩ := rp
          exact rf1.own a z (.inr (.inr rfl))
        have ho2 : OwnAt (X.K, X.w) H2 (WU (Φ.plus (some a)) U2) a x0 := by
          have h1 : OwnAt (X.K, X.w) H1 (WU (Φ.plus (some a)) U1) a x0 := ho.less fun b z => z.elim (fun z => z.elim (fun z => .inl (.inl (.inl z))) fun z => z.elim (fun z => .inl (.inl (.inr z))) .inr) fun z => .inl (.inr z)
          exact h1.stp s2.stp fun o q => (s2.keep a o q hU1).1
        exact call_spF hmd hf ⟨rep, h⟩ hn hall r2 (s1.trans s2) (fun b z => l1 b (l2 b z)) ra ho2
  exact ⟨fun b => by
    cases b
    · exact key .val (fun z => by cases z)
    · exact key .pk (fun z => by cases z), fun z => key .fr (fun _ => z)⟩
end
end DI
set_option Elab.async false
set_option linter.all false
set_option maxRecDepth 100000
set_option maxHeartbeats 4000000
/-! sorted(xs, key=f), f a def of the program -/
namespace DI
open PySem PySem.Spec PyProof.Rows L2
def ksX (X : Cx) : Cx := { X with A := X.A.in1.in1, xe := fun _ _ => False }
theorem mapD_exc {f : List D → Out D} : ∀ (ds : List D) (c : Str) (p : List D), mapD f ds ≠ .exc c p
  | [], c, p, h => by cases h
  | d :: ds, c, p, h => by
    simp only [mapD] at h
    split at h
    · cases e : mapD f ds with
      | ok r => rw [e] at h; cases h
      | exc c' p' => exact mapD_exc ds c' p' e
      | bad => rw [e] at h; cases h
    · cases h
theorem mapD_get {f : List D → Out D} : ∀ {ds ks : List D}, mapD f ds = .ok ks → ks.length = ds.length ∧ ∀ (i : Nat) (d : D), ds[i]? = some d → ∃ k, ks[i]? = some k ∧ f [d] = .ok k
  | [], ks, h => by
    simp only [mapD] at h
    cases h
    exact ⟨rfl, fun i d e => by simp at e⟩
  | d :: ds, ks, h => by
    simp only [mapD] at h
    cases e : f [d] with
    | ok x =>
      rw [e] at h
      dsimp only at h
      cases e2 : mapD f ds with
      | ok r =>
        rw [e2] at h
        cases h
        obtain ⟨h1, h2⟩ := mapD_get e2
        refine ⟨by rw [List.length_cons, List.length_cons, h1], fun i d' e' => ?_⟩
        cases i with
        | zero =>
          simp at e'
          subst e'
          exact ⟨x, rfl, e⟩
        | succ i =>
          obtain ⟨k, k1, k2⟩ := h2 i d' (by simpa using e')
          exact ⟨k, by simpa using k1, k2⟩
      | exc c p => rw [e2] at h; cases h
      | bad => rw [e2] at h; cases h
    | exc c p => rw [e] at h; cases h
    | bad => rw [e] at h; cases h
section
variable {X : Cx} {Wx : WX} {pins : List (Addr × Obj)} {σ : L2.St} {H H' : Hp} {W W' : WS} {s : Shared} {k : Nat} {Φ : Fr} {U : WS} {ρ : Rho} {cf : Str → List D → CR} {m : Md}
theorem inv_ks (I : Inv X pins σ H s) : Inv (ksX X) pins σ H s :=
  ⟨⟨I.ok.mod, I.ok.kind, I.ok.glob, I.ok.blt, I.ok.above, I.ok.inj, I.ok.has, I.ok.cab, I.ok.hd, I.ok.frames, I.ok.stk, I.ok.exf, I.ok.bs, I.ok.bsz, I.ok.noex, I.ok.exfs, I.ok.funs, I.ok.frf⟩, I.os, I.bare, I.base, I.loc, I.cell, I.free, I.freeC, I.pin, I.hok, I.len⟩
theorem inv_unks (ok : X.Ok) (I : Inv (ksX X) pins σ H s) : Inv X pins σ H s :=
  ⟨ok, I.os, I.bare, I.base, I.loc, I.cell, I.free, I.freeC, I.pin, I.hok, I.len⟩
theorem room_ks (hr : Room (k + 1) X.A) : Room k (ksX X).A := ⟨hr.hd, by have := hr.dp; show X.A.depth + 3 * k + 5 < _; omega, by have := hr.un; show X.A.units + 1 + 1 + 16 * k + 200 < _; omega⟩
/-- one key -/
theorem key_turn {x : Str} {fr : Bool} (hr : Room (k + 1) X.A) (F : FnGood X k cf x fr [.a]) {fa : Addr} (hfa : X.mg x = some (.ref fa)) (I : Inv X pins σ H s) {d key : D} {v : V} {u : Value} (hW : ∀ a, W a → H a ≠ none) (r : R (X.K, X.w) H W d v) (rv : RelV v u) (hk : cf1 cf x [d] = .ok key) :
    wpAny (model X.prog X.w) X.A.in1.in1 (call (.ref fa) [u]) (fun u' s' => ∃ v' H', Inv X pins σ H' s' ∧ RelV v' u' ∧ Same H H' ∧ R (X.K, X.w) H' W key v') (fun _ _ => False) s := by
  obtain ⟨f, fd, ps, gm, gk, gb, G⟩ := F.ex
  rw [hfa] at gm
  cases gm
  have key0 : wpAny (model X.prog X.w) (ksX X).A (call (.ref fa) [u]) (EP (ksX X) pins σ (fun v' H' => Same H H' ∧ R (X.K, X.w) H' W key v')) (ksX X).xe s := by
    refine run_fnS (X := ksX X) (E := WE (fun _ _ _ _ => False)) (k := k) G (room_ks hr) gb (passAt takes0 σ) (inv_ks I) (vs := [v]) (.cons rv .nil) ?_
    have hk' : cf x [d] = .ok key [] := by
      unfold cf1 at hk
      split at hk
      · rename_i e; cases hk; exact e
      · cases hk
    refine ⟨W, [d], [], hW, .nil, fun a h => (List.not_mem_nil h).elim, ⟨r, trivial⟩, ?_⟩
    rw [hk']
    intro v' H' kp _ q
    refine ⟨fun a o e => kp.1 a o e (by simp), ?_⟩
    split at q
    · exact q.1
    · exact q
  exact wpAny_mono key0 (fun u' s' ⟨v', H', I', rv', q1, q2⟩ => ⟨v', H', inv_unks I.ok I', rv', q1, q2⟩) fun _ _ z => z
/-- the record at it is another one; it is ours and not tracked -/
theorem inv_turned {h' : Heap} {t' : Nat} {it : Addr} (I : Inv X pins σ H s) (kp : ∀ b o, b ≠ it → s.heap.get? b = some o → h'.get? b = some o) (fp : FpOk X pins H it) : Inv X pins σ H { s with heap := h', toks := t' } :=
  I.turned kp fp.1 fp.2.1 fp.2.2.2.1 fp.2.2.2.2.1 fp.2.2.2.2.2
theorem inv_pin {it : Addr} {o : Obj} (I : Inv X pins σ H s) (fp : FpOk X pins H it) (e : s.heap.get? it = some o) (hd : ∀ v, o.data ≠ .cell v) : Inv X (pins ++ [(it, o)]) σ H s :=
  I.pins_of fun p hp => by
    rcases List.mem_append.mp hp with hp | hp
    · exact I.pin p (List.mem_append_right _ hp)
    · rw [List.mem_singleton] at hp
      subst hp
      exact ⟨e, fp.1, fp.2.1, fp.2.2.1, hd⟩
theorem inv_unpin {q : Addr × Obj} (I : Inv X (pins ++ [q]) σ H s) : Inv X pins σ H s := I.unpinned
theorem fpOk_mono {it : Addr} {ps : List (Addr × Obj)} (fp : FpOk X (pins ++ ps) H it) (hn : H' it = none) : FpOk X pins H' it :=
  ⟨hn, fp.2.1, fp.2.2.1, fp.2.2.2.1, fp.2.2.2.2.1, fun p hp => fp.2.2.2.2.2 p ((List.mem_append.mp hp).elim (fun z => List.mem_append_left _ z) fun z => List.mem_append_right _ (List.mem_append_left _ z))⟩
theorem plain_all : ∀ (l : List D), (∀ d ∈ l, shp d = true) → PyData.plainAll l = true
  | [], _ => rfl
  | d :: l, h => by
    simp only [PyData.plainAll, Bool.and_eq_true]
    exact ⟨shp_plain (h d List.mem_cons_self), plain_all l fun e he => h e (List.mem_cons_of_mem _ he)⟩
/-- the loop over the keys -/
theorem key_loop {x : Str} {fr : Bool} (hr : Room (k + 1) X.A) (F : FnGood X k cf x fr [.a]) {fa a kS : Addr} (hfa : X.mg x = some (.ref fa)) {ds ks : List D} {vs : List V} {its : List Value} {e1 : Nat} {b : Bool} {P : PySem.Fin → Shared → Prop} {E : Value → Shared → Prop}
    (hm : mapD (cf1 cf x) ds = .ok ks) (hg : srtOk ks = true) (hlen : its.length = ds.length) (hz : its.length ≤ sizeLine)
    (I : Inv X (pins ++ [(a, seqObj "list" #[] e1)]) σ H s) (fk : FpOk X (pins ++ [(a, seqObj "list" #[] e1)]) H kS) (ok : s.heap.get? kS = some (seqObj "list" #[] 0))
    (hW : ∀ a, W a → H a ≠ none) (r : Rs (X.K, X.w) H W ds vs) (rv : Vals vs its)
    (fin : ∀ (H' : Hp) (h' : Heap) (s' : Shared) (tk c : Nat) (out : List Value), Inv X (pins ++ [(a, seqObj "list" #[] e1)]) σ H' s' → Same H H' → (∀ c o, c ≠ a → c ≠ kS → s'.heap.get? c = some o → h'.get? c = some o) → H' kS = none → s'.heap.get? kS ≠ none →
      h'.get? a = some (seqObj "list" out.toArray c) → PySem.W.KeyedOut b ks its out → P (.done (.ret .none)) { s' with heap := h', toks := tk }) :
    wpAny (model X.prog X.w) X.A.in1.in1 (PyProof.Rows.ksk_rest a (.ref fa) b its.toArray e1 (.ref kS)) P E s := by
  obtain ⟨al, so, sh, hl⟩ := srtOk_all hg
  obtain ⟨kl, kget⟩ := mapD_get hm
  have rl := r.length
  have hka : kS ≠ a := fun z => fk.2.2.2.2.2 (a, seqObj "list" #[] e1) (List.mem_append_right _ (List.mem_append_right _ (List.mem_singleton.mpr rfl))) z.symm
  unfold PyProof.Rows.ksk_rest
  refine wpAny_bind (wpAny_rule ?_)
  rw [List.forIn_toArray]
  refine wpAny_bind (PyProof.Rows.ksk_fold (fun j s' => ∃ H' kvs kA n, Inv X (pins ++ [(a, seqObj "list" #[] e1)]) σ H' s' ∧ FpOk X (pins ++ [(a, seqObj "list" #[] e1)]) H' kS ∧ s'.heap.get? kS = some (seqObj "list" kA n) ∧ Vals kvs kA.toList ∧ Rs (X.K, X.w) H' W (ks.take j) kvs ∧ Same H H') its 0 s
    ⟨H, [], #[], 0, I, fk, ok, .nil, by simp [Rs], Same.refl H⟩ (fun j u s' hj hI => ?_) fun s' hI => ?_)
  · simp only [Nat.zero_add] at hI ⊢
    obtain ⟨H1, kvs, kA, n, I1, fk1, ok1, rk1, rs1, sm1⟩ := hI
    have hjl : j < its.length := (List.getElem?_eq_some_iff.mp hj).1
    have hdj : ds[j]? = some (ds[j]'(by omega)) := List.getElem?_eq_getElem (by omega)
    obtain ⟨v, hv, rd⟩ := (Rs.same sm1 r).get hdj
    obtain ⟨key, hk1, hk2⟩ := kget j _ hdj
    obtain ⟨u', hu', rvu⟩ := rv.get hv
    rw [hj] at hu'
    cases hu'
    have W1 : ∀ c, W c → H1 c ≠ none := fun c hc => by
      cases e : H c with
      | none => exact absurd e (hW c hc)
      | some o => rw [sm1 c o e]; simp
    have Ip := inv_pin I1 fk1 ok1 (fun v z => by cases z)
    refine wpAny_bind (wpAny_attempt (wpAny_mono (key_turn hr F hfa Ip W1 rd rvu hk2) (fun w s2 hq => ?_) fun _ _ z => z.elim))
    obtain ⟨kv, H2, I2, rkv, sm2, Rk⟩ := hq
    have pk := I2.pin (kS, seqObj "list" kA n) (List.mem_append_right _ (List.mem_append_right _ (List.mem_singleton.mpr rfl)))
    have I3 := inv_unpin I2
    have fk3 : FpOk X (pins ++ [(a, seqObj "list" #[] e1)]) H2 kS := ⟨pk.2.1, fk1.2⟩
    have ksz : kA.size = j := by
      have h1 := rk1.length
      have h2 := rs1.length
      rw [List.length_take] at h2
      rw [← Array.length_toList, ← h1, h2]
      omega
    dsimp only
    obtain ⟨c2, hc2⟩ : ∃ c2, (s2.heap.update kS (Obj.mapSeq (·.push w))).get? kS = some (seqObj "list" (kA.push w) c2) := ⟨_, get?_update_seq pk.1 (·.push w)⟩
    have sb := Heap.SameBut.update s2.heap kS (Obj.mapSeq (·.push w))
    refine wpAny_bind (listUpdate_at pk.1 rfl ?_ (by rw [ksz]; omega) (by rw [Array.size_push, ksz]; omega))
    refine wpAny_pure ⟨rfl, H2, kvs ++ [kv], kA.push w, c2, inv_turned (t' := s2.toks) I3 (fun c o hc e => (sb.2 c hc).trans e) fk3, fk3, hc2, ?_, ?_, sm1.trans sm2⟩
    · rw [Array.toList_push]
      exact rk1.append (.cons rkv .nil)
    · rw [List.take_add_one, hk1]
      exact (Rs.same sm2 rs1).append (Rs.one Rk)
  · simp only [Nat.zero_add] at hI
    obtain ⟨H1, kvs, kA, n, I1, fk1, ok1, rk1, rs1, sm1⟩ := hI
    rw [List.take_of_length_le (by omega)] at rs1
    have pa := I1.pin (a, seqObj "list" #[] e1) (List.mem_append_right _ (List.mem_append_right _ (List.mem_singleton.mpr rfl)))
    obtain ⟨as, hr2⟩ := Rs.reads I1 ks kvs kA.toList (plain_all ks sh) rs1 rk1
    have ke : PySem.W.EachIs (fun v d => ∃ as, Reads s'.heap v d as) kA.toList ks := PySem.W.readsAll_each (fun d => d) (by rw [List.map_id']; exact hr2)
    have ksz : kA.size = its.length := by
      have h1 := rk1.length
      have h2 := rs1.length
      rw [← Array.length_toList, ← h1, h2]
      omega
    obtain ⟨G, g1, g2⟩ := restrict s'.heap fun c => decide (c ≠ kS)
    refine wpAny_bind (listItems_at ok1 rfl ?_)
    refine PySem.W.keyH_end (κ := PySem.W.dataKind s'.heap ks) (h₁ := G) (fun c o hc e => ?_) (g2 kS (by simp)) ok1 pa.1 hka (PySem.W.SortsAt.data ke al so fun d hd => ?_) ksz hz fun h3 tk3 c k3 n3 => ?_
    · by_cases hck : c = kS
      · subst hck
        rw [g2 c (by simp)] at e
        cases e
      · rw [g1 c (by simpa using hck)] at e
        exact e
    · have := shp_depth (sh d hd)
      have := hr.un
      show X.A.units + 1 + 1 + _ < _
      omega
    · refine fin H1 h3 s' tk3 c _ I1 sm1 (fun c' o h1 h2 e => k3 c' o h1 ?_) fk1.1 (by rw [ok1]; simp) n3 ⟨s'.heap, kA.toList, al, rfl, ke⟩
      rw [g1 c' (by simpa using h2)]
      exact e
/-- two records of ours are other ones; the one is tracked from now on -/
theorem inv_two {h' : Heap} {t' : Nat} {a kS : Addr} {xs : List V} (I : Inv X pins σ H s) (kp : ∀ b o, b ≠ a → b ≠ kS → s.heap.get? b = some o → h'.get? b = some o) (fa : FpOk X pins H a) (fk : FpOk X pins H kS) (new : ObjOk X.prog X.w (upd H a (.lst xs)) h' a (.lst xs)) :
    Inv X pins σ (upd H a (.lst xs)) { s with heap := h', toks := t' } := by
  obtain ⟨G, g1, g2⟩ := restrict s.heap fun c => decide (c ≠ a) && decide (c ≠ kS)
  have gk : ∀ c o, G.get? c = some o → h'.get? c = some o := fun c o e => by
    by_cases h1 : c = a
    · subst h1
      rw [g2 c (by simp)] at e
      cases e
    · by_cases h2 : c = kS
      · subst h2
        rw [g2 c (by simp)] at e
        cases e
      · rw [g1 c (by simp [h1, h2])] at e
        exact kp c o h1 h2 e
  have hokG : HOk X.prog X.w H G := fun c o e => by
    refine (I.hok c o e).stay (fun c' u hc q => ?_) (fun _ q => q) fun _ _ q => q
    have n1 : c' ≠ a := fun z => by
      rcases hc with hc | hc
      · rw [← hc, z, fa.1] at e; cases e
      · rw [z, fa.1] at hc; cases hc
    have n2 : c' ≠ kS := fun z => by
      rcases hc with hc | hc
      · rw [← hc, z, fk.1] at e; cases e
      · rw [z, fk.1] at hc; cases hc
    rw [g1 c' (by simp [n1, n2])]
    exact q
  have hokN : HOk X.prog X.w (upd H a (.lst xs)) h' := fun c o e => by
    by_cases hc : c = a
    · subst hc
      rw [upd_same] at e
      cases e
      exact new
    · rw [upd_ne hc] at e
      exact (hokG c o e).stay (fun c' u _ q => gk c' u q) (fun c' q => by rw [upd_ne (fun z => by rw [z, fa.1] at q; cases q)]; exact q) fun c' ys q => by rw [upd_ne (fun z => by rw [z, fa.1] at q; cases q)]; exact q
  have nin : ∀ c, c ∉ [a, kS] → c ≠ a ∧ c ≠ kS := fun c hc => by simpa using hc
  refine I.step (g' := s.gens) (d' := s.drawn) (ch := [a, kS]) (fun c hc => ?_) (fun c o _ _ hc e _ => kp c o (nin c hc).1 (nin c hc).2 e) (fun c o _ _ hc e _ => ⟨o.slots, kp c o (nin c hc).1 (nin c hc).2 e⟩) (fun c o hc e n => by rw [upd_ne (nin c hc).1]; exact n)
    (fun c o hc e => ⟨o, kp c o (nin c hc).1 (nin c hc).2 e⟩) (fun c xs e => ?_) (fun c o u e => ?_) (fun c ps e => ⟨#[], ?_⟩) (fun m hm => ?_) hokN I.bare
  · have hc' : c = a ∨ c = kS := by simpa using hc
    rcases hc' with hc' | hc' <;> subst hc'
    · exact ⟨fa.2.2.2.1, fa.2.1, fa.2.2.2.2.1, fa.2.2.2.2.2⟩
    · exact ⟨fk.2.2.2.1, fk.2.1, fk.2.2.2.2.1, fk.2.2.2.2.2⟩
  · rw [upd_ne (fun z => by rw [z, fa.1] at e; cases e)]; exact e
  · rw [upd_ne (fun z => by rw [z, fa.1] at e; cases e)]; exact e
  · rw [upd_ne (fun z => by rw [z, fa.1] at e; cases e), e]; simp
  · obtain ⟨o, es, ep, hl, r⟩ := hm
    exact ⟨o, es, ep, kp _ o (Ne.symm fa.2.1) (Ne.symm fk.2.1) hl, r⟩
theorem srt_run {x : Str} {fr : Bool} (hr : Room (k + 1) X.A) (F : FnGood X k cf x fr [.a]) {fa l : Addr} (hfa : X.mg x = some (.ref fa)) {ds ks : List D} {vs : List V} (hm : mapD (cf1 cf x) ds = .ok ks) (hg : srtOk ks = true)
    (I : Inv X pins σ H s) (hs : SqL X.K H l vs) (hW : ∀ a, W a → H a ≠ none) (r : Rs (X.K, X.w) H W ds vs) {Q : VK} (q : ∀ v H', Same H H' → RN (X.K, X.w) H H' W (.list (srtK ds ks)) v → Q v H') :
    wpAny (model X.prog X.w) X.A (call (.builtin "sorted") [.ref l] [(Str.ofString "key", .ref fa)]) (EP X pins σ Q) X.xe s := by
  obtain ⟨its, rv, hL, hz⟩ := I.list hs
  obtain ⟨kl, kget⟩ := mapD_get hm
  obtain ⟨al, so, sh, hkl⟩ := srtOk_all hg
  have hlen := r.length
  have hil : its.length = ds.length := by rw [← rv.length, hlen]
  have hz' : its.length ≤ sizeLine := by rw [← rv.length]; exact hz
  refine PySem.W.sorted_of_sort hL.isList hz' (PyProof.Rows.ksk_s1 _ _) (fun _ => PyProof.Rows.ksk_l1 _ _) fun E' => ?_
  rw [PyProof.Rows.ksk_t1]
  have hO : (PySem.W.copyHeap s.heap its).get? (s.heap.objs.size + 1) = some (seqObj "list" its.toArray 0) := PySem.W.copyHeap_at s.heap its
  have hsz := Heap.lt_size hO
  generalize ha : s.heap.objs.size + 1 = a at hO hsz ⊢
  have aH : H a = none := I.hok.fresh (by omega)
  obtain ⟨e1, hO1⟩ : ∃ e1, ((PySem.W.copyHeap s.heap its).update a (Obj.mapSeq fun _ => (#[] : Array Value))).get? a = some (seqObj "list" #[] e1) := ⟨_, get?_update_seq hO fun _ => #[]⟩
  have hkS : (((PySem.W.copyHeap s.heap its).update a (Obj.mapSeq fun _ => (#[] : Array Value))).push (seqObj "tuple" its.toArray 0)).objs.size = (PySem.W.copyHeap s.heap its).objs.size + 1 := by
    simp [Heap.push, Heap.size_update]
  unfold PyProof.Rows.ksk_tree
  refine wpAny_bind (listItems_at hO rfl ?_)
  refine wpAny_bind (listUpdate_at hO rfl ?_ (by rw [List.size_toArray]; exact hz') (Nat.zero_le _))
  refine wpAny_bind (seqEpoch_at hO1 rfl ?_)
  refine wpAny_bind (wpAny_newTuple ?_ (by show its.length ≤ _; exact hz'))
  refine wpAny_bind (wpAny_newList ?_ (Nat.zero_le _))
  refine wpAny_holding ?_
  have kp0 : ∀ c o, s.heap.get? c = some o → (PySem.W.sortingHeap (PySem.W.copyHeap s.heap its) a its).get? c = some o := fun c o e => PySem.W.sortingHeap_old (Nat.ne_of_lt (Nat.lt_of_lt_of_eq (Nat.lt_succ_of_lt (Heap.lt_size e)) ha)) (PySem.W.copyHeap_old e)
  have I0 : Inv X pins σ H { s with heap := PySem.W.sortingHeap (PySem.W.copyHeap s.heap its) a its } := I.kept (t' := s.toks) kp0
  have fA : FpOk X pins H a := I.fpOk (by omega) aH
  have eA : (PySem.W.sortingHeap (PySem.W.copyHeap s.heap its) a its).get? a = some (seqObj "list" #[] e1) := Heap.get?_push_of_some _ (Heap.get?_push_of_some _ hO1)
  have I1 := inv_pin I0 fA eA (fun v z => by cases z)
  have kz : s.heap.objs.size ≤ (((PySem.W.copyHeap s.heap its).update a (Obj.mapSeq fun _ => (#[] : Array Value))).push (seqObj "tuple" its.toArray 0)).objs.size := by rw [hkS]; exact Nat.le_succ_of_le (Nat.le_trans (Nat.le_of_lt (Nat.lt_of_lt_of_eq (Nat.lt_succ_self _) ha)) (Nat.le_of_lt hsz))
  have kH := I.hok.fresh kz
  have fK0 : FpOk X pins H _ := I.fpOk kz kH
  have fK : FpOk X (pins ++ [(a, seqObj "list" #[] e1)]) H (((PySem.W.copyHeap s.heap its).update a (Obj.mapSeq fun _ => (#[] : Array Value))).push (seqObj "tuple" its.toArray 0)).objs.size := by
    refine ⟨fK0.1, fK0.2.1, fK0.2.2.1, fK0.2.2.2.1, fK0.2.2.2.2.1, fun p hp => ?_⟩
    rcases List.mem_append.mp hp with hp | hp
    · exact fK0.2.2.2.2.2 p (List.mem_append_left _ hp)
    · rcases List.mem_append.mp hp with hp | hp
      · exact fK0.2.2.2.2.2 p (List.mem_append_right _ hp)
      · rw [List.mem_singleton] at hp
        subst hp
        rw [hkS]
        exact Nat.ne_of_lt (Nat.lt_succ_of_lt hsz)
  refine key_loop (s := { s with heap := PySem.W.sortingHeap (PySem.W.copyHeap s.heap its) a its }) hr F hfa hm hg hil hz' I1 fK (Heap.get?_push_size _ rfl) hW r rv fun H' h' s' tk c out I2 sm kp hkn hkk hO2 ko => ⟨rfl, ?_⟩
  -- what is told
  have hzl : ((ds.zip ks).zip vs).length = ds.length := by rw [List.length_zip, List.length_zip, hlen, kl]; omega
  have em : ((ds.zip ks).zip vs).map (fun b : (D × D) × V => b.1.2) = ks := by
    rw [show (fun b : (D × D) × V => b.1.2) = Prod.snd ∘ Prod.fst from rfl, ← List.map_map, List.map_fst_zip (by rw [List.length_zip, hlen, kl]; omega), List.map_snd_zip (by omega)]
  have em1 : ((ds.zip ks).zip vs).map (fun b : (D × D) × V => b.1.1) = ds := by
    rw [show (fun b : (D × D) × V => b.1.1) = Prod.fst ∘ Prod.fst from rfl, ← List.map_map, List.map_fst_zip (by rw [List.length_zip, hlen, kl]; omega), List.map_fst_zip (by omega)]
  have em2 : ((ds.zip ks).zip vs).map (fun b : (D × D) × V => b.2) = vs := by
    rw [show (fun b : (D × D) × V => b.2) = Prod.snd from rfl, List.map_snd_zip (by rw [List.length_zip, hlen, kl]; omega)]
  have ev : PySem.W.EachIs (fun (u : Value) (b : (D × D) × V) => RelV b.2 u) its ((ds.zip ks).zip vs) := each_vals (fun b : (D × D) × V => b.2) (by rw [em2]; exact rv)
  have hE := PySem.W.keyedOut_each (fun b : (D × D) × V => b.1.2) (by rw [em]; exact ko) (PySem.W.each_mem ev)
  have hv := vals_each (P := fun b : (D × D) × V => b ∈ (ds.zip ks).zip vs) (fun b : (D × D) × V => b.2) hE
  have rs' := Rs.same sm r
  have hW' : ∀ c, W c → H' c ≠ none := fun c hc => by
    cases e : H c with
    | none => exact absurd e (hW c hc)
    | some o => rw [sm c o e]; simp
  have aH' : H' a = none := (I2.pin (a, seqObj "list" #[] e1) (List.mem_append_right _ (List.mem_append_right _ (List.mem_singleton.mpr rfl)))).2.1
  have hR : Rs (X.K, X.w) H' W (srtK ds ks) ((((ds.zip ks).zip vs).mergeSort (PySem.W.dataLe false fun b : (D × D) × V => b.1.2)).map fun b : (D × D) × V => b.2) := by
    rw [← srt_back hlen.symm kl]
    refine rs_pairs _ _ _ fun p hp => ?_
    have hp := List.mem_mergeSort.mp hp
    have h3 : (p.1.1, p.2) ∈ ds.zip vs := by
      have z := List.zip_map' (f := fun b : (D × D) × V => b.1.1) (g := fun b : (D × D) × V => b.2) (l := (ds.zip ks).zip vs)
      rw [em1, em2] at z
      rw [z]
      exact List.mem_map_of_mem hp
    exact rs_zip rs' _ h3
  have fA' : FpOk X pins H' a := ⟨aH', fA.2⟩
  have fK' : FpOk X pins H' (((PySem.W.copyHeap s.heap its).update a (Obj.mapSeq fun _ => (#[] : Array Value))).push (seqObj "tuple" its.toArray 0)).objs.size := ⟨hkn, fK0.2⟩
  refine ⟨.ref a, upd H' a (.lst _), inv_two (inv_unpin I2) kp fA' fK' ⟨?_, out, c, hv, hO2⟩, rfl, q _ _ (sm.trans (same_new aH')) ((RN.newLst hW' aH' hR).start fun b e => sm.free e)⟩
  rw [List.length_map, List.length_mergeSort, hzl, ← hil]
  exact hz'
def rSrt (X : Cx) (cf : Str → List D → CR) (x : Str) : List V → List V → Hp → VK → Prop := fun vs zs H Q => ∃ W ds ks v fa, (∀ a, W a → H a ≠ none) ∧ vs = [v] ∧ RP (X.K, X.w) H W (.list ds) v ∧ zs = [V.ref fa] ∧ X.mg x = some (.ref fa) ∧ mapD (cf1 cf x) ds = .ok ks ∧ srtOk ks = true ∧
  ∀ v H', Same H H' → RN (X.K, X.w) H H' W (.list (srtK ds ks)) v → Q v H'
theorem cr_srt {x : Str} {fr : Bool} (hr : Room (k + 1) X.A) (F : FnGood X k cf x fr [.a]) : CallRK X (.builtin "sorted") [Str.ofString "key"] (rSrt X cf x) := by
  intro pins s σ H vs zs us ws Q I r rz ⟨W, ds, ks, v, fa, hW, e1, r1, e2, hfa, hm, hg, q⟩
  subst e1 e2
  obtain ⟨a, xs, rfl, s1, r1⟩ := r1.list
  rw [Vals.ref1 r, Vals.ref1 rz]
  exact srt_run hr F hfa hm hg I s1 hW r1 q
theorem e_srt {x : Str} {fr : Bool} {e : Expr} {c : CE} {p px kp pos : Pos} (hr : Room (k + 1) X.A) (F : FnGood X k cf x fr [.a]) (hg : Gl X "sorted") (hm : X.mg "sorted" = none) (hgx : Gl X x) (h : E3 cf X Wx e c) (he : starEach [e] X.env = [(false, eval e X.env)]) :
    E3 cf X Wx (.Call (.Name "sorted" p) [e] [⟨some (Str.ofString "key"), .Name x px, kp⟩] pos) (.srt x c) := by
  obtain ⟨f, fd, ps, gm, gk, gb, G⟩ := F.ex
  refine .ofFr (PE.imp (pe_callBK (cr_srt hr F) hg hm (by decide +kernel) (pa_cons h.p pa_nil he) (pk_cons (pe_glob hgx gm (show RelV (V.ref f) (.ref f) from rfl) F.db) pk_nil) (by decide) (by decide) (by rw [he]; rfl) (by rw [he]; rfl)) fun σ H Q ⟨ρ, Φ, U, a⟩ => ?_) (fun ρ => rfl)
  simp only [evalE, pureE] at a
  refine ⟨ρ, Φ, U, a.bind (RM.mono _) (p2 := true) (fun z => ⟨z, rfl⟩) fun x' ρ1 v H1 U1 l1 s1 e1 r1 h1 => ?_⟩
  obtain ⟨ds, e1, h1⟩ := h1.obb
  cases x' <;> simp [asSq] at e1
  subst e1
  rename_i dds _
  cases hq : mapD (cf1 cf x) dds with
  | exc c p => exact absurd hq (mapD_exc _ _ _)
  | bad => rw [hq] at h1; exact h1.bad.elim
  | ok ks =>
    rw [hq] at h1
    obtain ⟨d, e2, h1⟩ := AnW.ob h1
    obtain ⟨g, e2⟩ := guardP_some e2
    cases e2
    exact ⟨_, _, ks, v, f, h1.trk, rfl, r1, rfl, gm, hq, g, fun v' H' s r => h1.okN s r⟩
end
end DI
set_option Elab.async false
set_option linter.all false
set_option maxRecDepth 100000
set_option maxHeartbeats 4000000
/-! ranges, zip; targets; comprehensions -/
namespace DI
open PySem PySem.Spec PyProof.Rows L2
section
variable {X : Cx} {Wx : WX} {pins : List (Addr × Obj)} {σ σ' : L2.St} {H H' : Hp} {W W' : WS} {s : Shared} {k : Nat} {Φ : Fr} {U ap : WS} {ρ ρ' : Rho} {cf : Str → List D → CR} {m : Md} {K : PySem.W.Frag × World}
def I3 (cf : Str → List D → CR) (X : Cx) (Wx : WX) (tg e : Expr) (c : CI) : Prop := ∀ pk, PI X tg e (fun σ H Q => ∃ ρ, tI X Wx (pureI c) pk ρ (evalI cf pk c ρ) σ H Q)
theorem FeedsM.mono {pk : Bool} : Mono (FeedsM K pk) := fun _ _ _ _ _ _ _ _ _ _ h => h
theorem pi_any {tg e : Expr} {t : Rho → TI} (h : ∀ ρ, PI X tg e (t ρ)) : PI X tg e (fun σ H Q => ∃ ρ, t ρ σ H Q) := ⟨fun pins s σ H Q I ⟨ρ, q⟩ => (h ρ).run pins s σ H Q I q⟩
theorem rng_ok {i j : Int} {ds : List D} (h : rngD i j = some ds) : (-(2 ^ 62) ≤ i ∧ i < 2 ^ 62 ∧ -(2 ^ 62) ≤ j ∧ j < 2 ^ 62) ∧ ds = (List.range (j - i).toNat).map fun (k : Nat) => .int (i + k) := by
  unfold rngD at h
  obtain ⟨g, e⟩ := guardP_some h
  simp only [Bool.and_eq_true, decide_eq_true_eq] at g
  cases e
  exact ⟨⟨g.1.1.1, g.1.1.2, g.1.2, g.2⟩, rfl⟩
theorem feeds_rng0 {i : Int} : Feeds K H W ap ((List.range (i - 0).toNat).map fun (k : Nat) => .int (0 + k)) (Itr 0 i.toNat) := by
  rw [Int.sub_zero]
  exact feeds_rng
theorem noAp {pk : Bool} {ds : List D} {J : It} {σ : L2.St} {ρ : Rho} {H0 : Hp} (h : Feeds K H (WU Φ U) (fun _ => False) ds J) : FeedsM K pk σ Φ ρ U H0 H ds J := ⟨fun _ => False, fun _ _ z => z, h⟩
theorem i_rng1 {tg a : Expr} {c : CE} {p pos : Pos} (hg : Gl X "range") (hm : X.mg "range" = none) (h : E3 cf X Wx a c) (hs : starEach [a] X.env = [(false, eval a X.env)]) : I3 cf X Wx tg (.Call (.Name "range" p) [a] [] pos) (.rng1 c) := fun pk => by
  refine PI.imp (pi_range1 hg hm (pa_cons h.v pa_nil hs) hs) fun σ H Q ⟨ρ, Φ, U, q⟩ => ?_
  simp only [evalI, pureI] at q
  refine ⟨ρ, Φ, U, q.bind FeedsM.mono (p2 := true) (fun z => ⟨z, rfl⟩) fun x ρ1 v H1 U1 l1 s1 e1 r1 h1 => ?_⟩
  obtain ⟨i, e, h1⟩ := h1.obb
  cases x <;> simp [asI] at e
  subst e
  simp only [RM, R] at r1
  obtain ⟨ds, e, h1⟩ := h1.ob
  obtain ⟨⟨g1, g2, g3, g4⟩, rfl⟩ := rng_ok e
  exact ⟨_, by rw [r1], g3, g4, h1.ok (Same.refl _) (noAp feeds_rng0)⟩
theorem i_rng2 {tg a b : Expr} {c c2 : CE} {p pos : Pos} (hg : Gl X "range") (hm : X.mg "range" = none) (h : E3 cf X Wx a c) (h2 : E3 cf X Wx b c2) (hs : starEach [a, b] X.env = [(false, eval a X.env), (false, eval b X.env)]) (hs2 : starEach [b] X.env = [(false, eval b X.env)]) :
    I3 cf X Wx tg (.Call (.Name "range" p) [a, b] [] pos) (.rng2 c c2) := fun pk => by
  refine PI.imp (pi_range2 hg hm (pa_cons h.v (pa_cons h2.v pa_nil hs2) (by rw [hs, hs2])) hs hs2) fun σ H Q ⟨ρ, Φ, U, q⟩ => ?_
  simp only [evalI, pureI] at q
  refine ⟨ρ, Φ, U, q.bind FeedsM.mono (p2 := pureE c2) and2 fun x ρ1 v H1 U1 l1 s1 e1 r1 h1 => ⟨ρ1, Φ, U1, h1.bind FeedsM.mono (p2 := true) (fun z => ⟨z, rfl⟩) fun y ρ2 u H2 U2 l2 s2 e2 r2 h2 => ?_⟩⟩
  obtain ⟨i, e, h2⟩ := h2.obb
  cases x <;> simp [asI] at e
  subst e
  obtain ⟨j, e, h2⟩ := h2.obb
  cases y <;> simp [asI] at e
  subst e
  simp only [RM, R] at r1 r2
  obtain ⟨ds, e, h2⟩ := h2.ob
  obtain ⟨g, rfl⟩ := rng_ok e
  exact ⟨_, _, by rw [r1, r2], g, h2.ok (Same.refl _) (noAp feeds_rng)⟩
theorem R.pair {p : Addr} {x y : V} {d e : D} (hW : ∀ a, W a → H a ≠ none) (hp : H p = none) (h1 : R K H W d x) (h2 : R K H W e y) : R K (upd H p (.tup [x, y])) W (.tuple [d, e]) (.ref p) :=
  R.newTup hW hp (by simp only [Rs]; exact ⟨x, [y], rfl, h1, y, [], rfl, h2, rfl⟩)
theorem zip_get {ds es : List D} {i : Nat} {d : D} (h : (List.zipWith (fun x y => PyData.tuple [x, y]) ds es)[i]? = some d) : ∃ a b, ds[i]? = some a ∧ es[i]? = some b ∧ d = .tuple [a, b] := by
  rw [List.getElem?_zipWith] at h
  cases e1 : ds[i]? with
  | none => rw [e1] at h; cases h
  | some a =>
    cases e2 : es[i]? with
    | none => rw [e1, e2] at h; cases h
    | some b =>
      rw [e1, e2] at h
      cases h
      exact ⟨a, b, rfl, rfl, rfl⟩
theorem feeds_zipL {a b : Addr} {xs ys : List V} {ds es : List D} (s1 : LstAt K.1 H W a xs) (r1 : Rs K H W ds xs) (s2 : LstAt K.1 H W b ys) (r2 : Rs K H W es ys) : Feeds K H W ap (List.zipWith (fun x y => PyData.tuple [x, y]) ds es) (Itz K.1 a b) := by
  intro H' W' st kp tr
  have q1 := s1.stp st
  have q2 := s2.stp st
  have t1 := Rs.stp st _ _ r1
  have t2 := Rs.stp st _ _ r2
  refine ⟨fun i d e => ?_, xs, ys, q1.sq, q2.sq, ?_⟩
  · obtain ⟨c1, c2, e1, e2, rfl⟩ := zip_get e
    obtain ⟨x, f1, g1⟩ := t1.get e1
    obtain ⟨y, f2, g2⟩ := t2.get e2
    refine ⟨⟨xs, ys, x, y, q1.sq, q2.sq, f1, f2⟩, fun v H'' ⟨T, x', y', ev, hT, eH, k1, k2⟩ => ?_⟩
    have z1 := k1 xs q1.sq
    have z2 := k2 ys q2.sq
    rw [f1] at z1
    rw [f2] at z2
    cases z1
    cases z2
    subst ev eH
    exact ⟨same_new hT, R.pair tr hT g1 g2⟩
  · rw [List.length_zipWith, r1.length, r2.length]
    rcases Nat.le_total ds.length es.length with h | h
    · exact .inl (by rw [Nat.min_eq_left h]; exact Nat.le_refl _)
    · exact .inr (by rw [Nat.min_eq_right h]; exact Nat.le_refl _)
theorem feeds_zipT {a b : Addr} {xs ys : List V} {ds es : List D} (s1 : TupAt K.1 H W a xs) (r1 : Rs K H W ds xs) (s2 : TupAt K.1 H W b ys) (r2 : Rs K H W es ys) : Feeds K H W ap (List.zipWith (fun x y => PyData.tuple [x, y]) ds es) (RZ.ItzT K.1 a b) := by
  intro H' W' st kp tr
  have q1 := s1.stp st
  have q2 := s2.stp st
  have t1 := Rs.stp st _ _ r1
  have t2 := Rs.stp st _ _ r2
  refine ⟨fun i d e => ?_, xs, ys, q1.sq, q2.sq, ?_⟩
  · obtain ⟨c1, c2, e1, e2, rfl⟩ := zip_get e
    obtain ⟨x, f1, g1⟩ := t1.get e1
    obtain ⟨y, f2, g2⟩ := t2.get e2
    refine ⟨⟨xs, ys, x, y, q1.sq, q2.sq, f1, f2⟩, fun v H'' ⟨T, x', y', ev, hT, eH, k1, k2⟩ => ?_⟩
    have z1 := k1 xs q1.sq
    have z2 := k2 ys q2.sq
    rw [f1] at z1
    rw [f2] at z2
    cases z1
    cases z2
    subst ev eH
    exact ⟨same_new hT, R.pair tr hT g1 g2⟩
  · rw [List.length_zipWith, r1.length, r2.length]
    rcases Nat.le_total ds.length es.length with h | h
    · exact .inl (by rw [Nat.min_eq_left h]; exact Nat.le_refl _)
    · exact .inr (by rw [Nat.min_eq_right h]; exact Nat.le_refl _)
theorem i_zip {elts : List Expr} {kk : Nat} {tpos : Pos} {a b : Expr} {c c2 : CE} {p pos : Pos} (hg : Gl X "zip") (hm : X.mg "zip" = none) (h : E3 cf X Wx a c) (h2 : E3 cf X Wx b c2)
    (hs : starEach [a, b] X.env = (false, eval a X.env) :: starEach [b] X.env) (hs2 : starEach [b] X.env = [(false, eval b X.env)]) (hpl : (backTo pos (starEach [b] X.env)).any (·.1) = false) :
    I3 cf X Wx (.Tuple elts kk tpos) (.Call (.Name "zip" p) [a, b] [] pos) (.zip c c2) := fun pk => by
  refine PI.imp (RZ.pi_zipA hg hm (pa_cons h.v (pa_cons h2.v pa_nil hs2) hs) hs hpl) fun σ H Q ⟨ρ, Φ, U, q⟩ => ?_
  simp only [evalI, pureI] at q
  refine ⟨ρ, Φ, U, q.bind FeedsM.mono (p2 := pureE c2) and2 fun x ρ1 v H1 U1 l1 s1 e1 r1 h1 => ⟨ρ1, Φ, U1, h1.bind FeedsM.mono (p2 := true) (fun z => ⟨z, rfl⟩) fun y ρ2 u H2 U2 l2 s2 e2 r2 h2 => ?_⟩⟩
  obtain ⟨ds, e, h2⟩ := h2.ob
  have r1' := R.sx s2 (show R (X.K, X.w) H1 (WU Φ U1) x v from r1)
  simp only [RM] at r2
  cases x <;> cases y <;> simp only [zipD] at e <;> first | cases e | skip
  · simp only [R] at r1' r2
    obtain ⟨a, xs, rfl, t1, g1⟩ := r1'
    obtain ⟨b, ys, rfl, t2, g2⟩ := r2
    exact ⟨a, b, xs, ys, rfl, .inl ⟨t1.sq, t2.sq, h2.ok (Same.refl _) (noAp (feeds_zipL t1 g1 t2 g2))⟩⟩
  · simp only [R] at r1' r2
    obtain ⟨a, xs, rfl, t1, g1⟩ := r1'
    obtain ⟨b, ys, rfl, t2, g2⟩ := r2
    exact ⟨a, b, xs, ys, rfl, .inr ⟨t1.sq, t2.sq, h2.ok (Same.refl _) (noAp (feeds_zipT t1 g1 t2 g2))⟩⟩
theorem enm_get {xs : List D} {i : Nat} {d : D} (h : ((List.range xs.length).zipWith (fun (k : Nat) x => PyData.tuple [.int k, x]) xs)[i]? = some d) : ∃ a, xs[i]? = some a ∧ d = .tuple [.int i, a] := by
  rw [List.getElem?_zipWith] at h
  cases e1 : (List.range xs.length)[i]? with
  | none => rw [e1] at h; cases h
  | some a =>
    have hi : i < xs.length := by have := (List.getElem?_eq_some_iff.mp e1).1; simpa using this
    rw [List.getElem?_range hi] at e1
    cases e1
    cases e2 : xs[i]? with
    | none => rw [e2, List.getElem?_range hi] at h; cases h
    | some b =>
      rw [e2, List.getElem?_range hi] at h
      cases h
      exact ⟨b, rfl, rfl⟩
theorem feeds_enm {a : Addr} {xs : List V} {ds : List D} (s1 : LstAt K.1 H W a xs) (r1 : Rs K H W ds xs) : Feeds K H W ap ((List.range ds.length).zipWith (fun (k : Nat) x => PyData.tuple [.int k, x]) ds) (Ite K.1 a) := by
  intro H' W' st kp tr
  have q1 := s1.stp st
  have t1 := Rs.stp st _ _ r1
  refine ⟨fun i d e => ?_, xs, q1.sq, ?_⟩
  · obtain ⟨c1, e1, rfl⟩ := enm_get e
    obtain ⟨x, f1, g1⟩ := t1.get e1
    refine ⟨⟨xs, x, q1.sq, f1⟩, fun v H'' ⟨T, x', ev, hT, eH, k1⟩ => ?_⟩
    have z1 := k1 xs q1.sq
    rw [f1] at z1
    cases z1
    subst ev eH
    exact ⟨same_new hT, R.pair tr hT (by simp only [R]) g1⟩
  · rw [List.length_zipWith, r1.length, List.length_range, Nat.min_self]
    exact Nat.le_refl _
theorem i_enm {elts : List Expr} {kk : Nat} {tpos : Pos} {a : Expr} {c : CE} {p pos : Pos} (hg : Gl X "enumerate") (hm : X.mg "enumerate" = none) (h : E3 cf X Wx a c) (hs : starEach [a] X.env = [(false, eval a X.env)]) : I3 cf X Wx (.Tuple elts kk tpos) (.Call (.Name "enumerate" p) [a] [] pos) (.enm c) := fun pk => by
  refine PI.imp (pi_enum hg hm (pa_cons h.v pa_nil hs) hs) fun σ H Q ⟨ρ, Φ, U, q⟩ => ?_
  simp only [evalI, pureI] at q
  refine ⟨ρ, Φ, U, q.bind FeedsM.mono (p2 := true) (fun z => ⟨z, rfl⟩) fun x ρ1 v H1 U1 l1 s1 e1 r1 h1 => ?_⟩
  obtain ⟨ds, e, h1⟩ := h1.ob
  cases x <;> simp only [enmD] at e <;> first | cases e | skip
  simp only [RM, R] at r1
  obtain ⟨a, xs, rfl, t1, g1⟩ := r1
  exact ⟨a, xs, rfl, t1.sq, h1.ok (Same.refl _) (noAp (feeds_enm t1 g1))⟩
theorem i_val {tg e : Expr} {c : CE} (h : E3 cf X Wx e c) : I3 cf X Wx tg e (.val c) := fun pk => by
  refine PI.imp (pi_val (pk := pk) (h.m pk)) fun σ H Q ⟨ρ, q⟩ => ⟨ρ, by simpa only [evalI, pureI] using q⟩
/-! targets -/
/-- the target takes d -/
def gD (X : Cx) (tg : List Nat) (isT : Bool) : TG := fun v σ H Q => ∃ Φ U ρ d ρ', Rep (X.K, X.w) Φ U σ H ρ ∧ R (X.K, X.w) H (WU Φ U) d v ∧ setTg tg isT d ρ = some ρ' ∧
  ∀ σ' U', Rep (X.K, X.w) Φ U' σ' H ρ' → (∀ a, U' a → U a) → σ'.length = σ.length → (∀ i, i ∉ tg → σ'[i]? = σ[i]?) → Q σ' H
theorem PG.imp {e : Expr} {t t' : TG} (h : PG X e t) (i : ∀ v σ H Q, t' v σ H Q → t v σ H Q) : PG X e t' := ⟨fun pins s σ H v u Q I r q => h.run pins s σ H v u Q I r (i v σ H Q q)⟩
theorem g_name {i : Nat} {x : Str} {pos : Pos} (hN : X.N.Nodup) (hi : X.N[i]? = some x) (hx : Loc X.env.scope x) (hf : X.fn x = true ∨ X.env.scope.names.lookup x = some .local) : PG X (.Name x pos) (gD X [i] false) := by
  refine PG.imp (pg_name hN hi hx hf) fun v σ H Q ⟨Φ, U, ρ, d, ρ', rep, r, e, q⟩ => ?_
  simp only [setTg, Bool.false_eq_true, if_false] at e
  obtain ⟨U1, h1, h2⟩ := rep.setSh e r
  exact q _ _ h1 h2 (by simp) fun j hj => List.getElem?_set_ne (fun z => hj (by simp [z]))
/-- the targets, one after another -/
def gDs (X : Cx) (tg : List Nat) : TGs := fun vs σ H Q => ∃ Φ U ρ ds ρ', Rep (X.K, X.w) Φ U σ H ρ ∧ Rs (X.K, X.w) H (WU Φ U) ds vs ∧ ds.length = tg.length ∧ setAll tg ds ρ = some ρ' ∧
  ∀ σ' U', Rep (X.K, X.w) Φ U' σ' H ρ' → (∀ a, U' a → U a) → σ'.length = σ.length → (∀ i, i ∉ tg → σ'[i]? = σ[i]?) → Q σ' H
theorem PGs.imp {e : List Expr} {t t' : TGs} (h : PGs X e t) (i : ∀ v σ H Q, t' v σ H Q → t v σ H Q) : PGs X e t' := ⟨fun pins s σ H v u Q I r q => h.run pins s σ H v u Q I r (i v σ H Q q)⟩
/-- all are names of their own -/
structure TgOk (X : Cx) (e : Expr) (i : Nat) : Prop where
  ex : ∃ x pos, e = .Name x pos ∧ X.N[i]? = some x ∧ Loc X.env.scope x ∧ (X.fn x = true ∨ X.env.scope.names.lookup x = some .local)
theorem gs_names (hN : X.N.Nodup) : ∀ {es : List Expr} {tg : List Nat}, Paired (TgOk X) es tg → PGs X es (gDs X tg)
  | [], [], .nil => by
    refine PGs.imp pgs_nil fun vs σ H Q ⟨Φ, U, ρ, ds, ρ', rep, r, hl, e, q⟩ => ?_
    have : ds = [] := List.length_eq_zero_iff.mp hl
    subst this
    simp only [setAll, Option.some.injEq] at e
    subst e
    simp only [Rs] at r
    exact ⟨r, q σ U rep (fun a h => h) rfl (fun i _ => rfl)⟩
  | e :: es, i :: tg, .cons h1 h2 => by
    obtain ⟨x, pos, rfl, hi, hx, hf⟩ := h1.ex
    refine PGs.imp (pgs_cons (pg_name hN hi hx hf) (gs_names hN h2) rfl) fun vs σ H Q ⟨Φ, U, ρ, ds, ρ', rep, r, hl, e, q⟩ => ?_
    match ds, hl with
    | d :: ds, hl =>
      simp only [setAll] at e
      obtain ⟨ρ1, e1, e2⟩ := Option.bind_eq_some_iff.mp e
      simp only [Rs] at r
      obtain ⟨v, vr, rfl, r1, r2⟩ := r
      obtain ⟨U1, k1, k2⟩ := rep.setSh e1 r1
      refine ⟨v, vr, rfl, Φ, U1, ρ1, ds, ρ', k1, Rs.stp (Stp.less fun a z => z.imp id (k2 a)) _ _ r2, by simpa using hl, e2, fun σ' U' p1 p2 p4 p5 => ?_⟩
      refine q σ' U' p1 (fun a z => k2 a (p2 a z)) (by rw [p4]; simp) fun j hj => ?_
      simp only [List.mem_cons, not_or] at hj
      rw [p5 j hj.2]
      exact List.getElem?_set_ne (fun z => hj.1 z.symm)
theorem assignEach_names : ∀ {es : List Expr} {tg : List Nat}, Paired (TgOk X) es tg → (assignEach es X.env).length = tg.length ∧ (assignEach es X.env).findIdx? (·.1) = none
  | [], [], .nil => ⟨rfl, rfl⟩
  | e :: es, i :: tg, .cons h1 h2 => by
    obtain ⟨x, pos, rfl, hi, hx, hf⟩ := h1.ex
    obtain ⟨a, b⟩ := assignEach_names h2
    have e1 : assignEach (.Name x pos :: es) X.env = (false, assign (.Name x pos) X.env) :: assignEach es X.env := rfl
    rw [e1]
    refine ⟨by simp [a], ?_⟩
    rw [List.findIdx?_cons, b]
    rfl
theorem g_tup {es : List Expr} {tg : List Nat} {kk : Nat} {pos : Pos} (hc : X.calm = true) (hN : X.N.Nodup) (h : Paired (TgOk X) es tg) : PG X (.Tuple es kk pos) (gD X tg true) := by
  obtain ⟨e1, e2⟩ := assignEach_names h
  refine PG.imp (pg_tup hc (gs_names hN h) e1 e2) fun v σ H Q ⟨Φ, U, ρ, d, ρ', rep, r, e, q⟩ => ?_
  simp only [setTg, if_true] at e
  cases d <;> simp only at e <;> first | cases e | skip
  rename_i ds
  split at e
  · rename_i hl
    simp only [R] at r
    obtain ⟨a, xs, rfl, t, r⟩ := r
    exact ⟨a, xs, rfl, t.sq, by rw [r.length, hl], Φ, U, ρ, ds, ρ', rep, r, hl, e, q⟩
  · cases e
end
end DI
set_option Elab.async false
set_option linter.all false
set_option maxRecDepth 100000
set_option maxHeartbeats 4000000
/-! comprehensions -/
namespace DI
open PySem PySem.Spec PyProof.Rows L2
theorem wipe_get (σ : L2.St) : ∀ (vs : List Nat) (i : Nat), (L2.wipe σ vs)[i]? = if i ∈ vs then (σ[i]?).map (fun _ => none) else σ[i]?
  | [], i => by simp [L2.wipe]
  | v :: vs, i => by
    unfold L2.wipe
    have ih := wipe_get σ vs
    by_cases hv : v = i
    · subst hv
      rw [if_pos (by simp)]
      by_cases hl : v < σ.length
      · rw [List.getElem?_set_self (by rw [wipe_length]; exact hl), List.getElem?_eq_getElem hl]
        rfl
      · rw [List.getElem?_eq_none (by simp [wipe_length]; omega), List.getElem?_eq_none (by omega)]
        rfl
    · rw [List.getElem?_set_ne hv, ih i]
      have : (i ∈ v :: vs) = (i ∈ vs) := by simp [Ne.symm hv]
      simp only [this]
theorem wipe_agree {σ σ2 : L2.St} {vs tg : List Nat} (hl : σ2.length = (L2.wipe σ vs).length) (hs : ∀ i ∈ tg, i ∈ vs) (h : ∀ i, i ∉ tg → σ2[i]? = (L2.wipe σ vs)[i]?) : L2.wipe σ2 vs = L2.wipe σ vs := by
  rw [wipe_length] at hl
  apply List.ext_getElem?
  intro i
  rw [wipe_get, wipe_get]
  by_cases hi : i ∈ vs
  · rw [if_pos hi, if_pos hi]
    by_cases hb : i < σ.length
    · rw [List.getElem?_eq_getElem hb, List.getElem?_eq_getElem (by omega)]
      rfl
    · rw [List.getElem?_eq_none (by omega), List.getElem?_eq_none (by omega)]
  · rw [if_neg hi, if_neg hi, h i (fun z => hi (hs i z)), wipe_get, if_neg hi]
theorem lcLoop_exc {f : D → Rho → EO (Option D)} : ∀ (ds : List D) (ρ ρ' : Rho) (c : Str) (p : List D), lcLoop f ds ρ ≠ .exc c p ρ'
  | [], ρ, ρ', c, p, h => by cases h
  | d :: ds, ρ, ρ', c, p, h => by
    simp only [lcLoop] at h
    split at h
    · rename_i x ρ1 e1
      cases e : lcLoop f ds ρ1 with
      | ok r ρ2 => rw [e] at h; cases h
      | exc c' p' ρ2 => exact lcLoop_exc ds ρ1 ρ2 c' p' e
      | bad => rw [e] at h; cases h
    · exact lcLoop_exc ds _ _ c p h
    · cases h
theorem lcLoop_pre {f : D → Rho → EO (Option D)} {P : Rho → Prop} (hf : ∀ d ρ, ¬ P ρ → f d ρ = .bad) {ds : List D} {ρ ρ2 : Rho} {r : List D} (h : lcLoop f ds ρ = .ok r ρ2) (h2 : P ρ2) : P ρ := by
  cases ds with
  | nil => simp only [lcLoop] at h; cases h; exact h2
  | cons d ds =>
    by_cases hp : P ρ
    · exact hp
    · simp only [lcLoop, hf d ρ hp] at h
      cases h
theorem wipeR_get : ∀ (vs : List Nat) (ρ : Rho) (i : Nat), (wipeR ρ vs)[i]? = if i ∈ vs then (ρ[i]?).map (fun _ => Sl.un) else ρ[i]?
  | [], ρ, i => by simp [wipeR]
  | v :: vs, ρ, i => by
    have hlen : ∀ vs, (wipeR ρ vs).length = ρ.length := fun vs => by
      induction vs with
      | nil => rfl
      | cons v vs ih => unfold wipeR; simpa using ih
    have ih := wipeR_get vs ρ
    unfold wipeR
    by_cases hv : v = i
    · subst hv
      rw [if_pos (by simp)]
      by_cases hl : v < ρ.length
      · rw [List.getElem?_set_self (by rw [hlen]; exact hl), List.getElem?_eq_getElem hl]
        rfl
      · rw [List.getElem?_eq_none (by rw [List.length_set, hlen]; omega), List.getElem?_eq_none (by omega)]
        rfl
    · rw [List.getElem?_set_ne hv, ih i]
      have : (i ∈ v :: vs) = (i ∈ vs) := by simp [Ne.symm hv]
      simp only [this]
theorem wipeR_len (ρ : Rho) : ∀ vs : List Nat, (wipeR ρ vs).length = ρ.length
  | [] => rfl
  | v :: vs => by unfold wipeR; rw [List.length_set, wipeR_len ρ vs]
theorem backR_len (ρ0 ρ : Rho) : ∀ vs : List Nat, (backR ρ0 ρ vs).length = ρ.length
  | [] => rfl
  | v :: vs => by
    unfold backR
    split
    · rw [List.length_set, backR_len ρ0 ρ vs]
    · exact backR_len ρ0 ρ vs
theorem backR_get {ρ0 ρ : Rho} (hl : ρ0.length = ρ.length) : ∀ (vs : List Nat) (i : Nat), (backR ρ0 ρ vs)[i]? = if i ∈ vs then ρ0[i]? else ρ[i]?
  | [], i => by simp [backR]
  | v :: vs, i => by
    have ih := backR_get hl vs
    unfold backR
    by_cases hv : v = i
    · subst hv
      rw [if_pos (by simp)]
      split
      · rename_i sl e
        have : v < ρ0.length := (List.getElem?_eq_some_iff.mp e).1
        rw [List.getElem?_set_self (by rw [backR_len]; omega), e]
      · rename_i e
        rw [e]
        have : ρ0.length ≤ v := List.getElem?_eq_none_iff.mp e
        exact List.getElem?_eq_none (by rw [backR_len]; omega)
    · have : (i ∈ v :: vs) = (i ∈ vs) := by simp [Ne.symm hv]
      split
      · rw [List.getElem?_set_ne hv, ih i]; simp only [this]
      · rw [ih i]; simp only [this]
section
variable {X : Cx} {Wx : WX} {pins : List (Addr × Obj)} {σ σ' : L2.St} {H H' H1 H2 : Hp} {W W' : WS} {s : Shared} {k : Nat} {Φ Φ' : Fr} {U U1 U2 : WS} {ρ ρ' ρ1 ρ2 : Rho} {cf : Str → List D → CR} {m : Md} {K : PySem.W.Frag × World} {F F1 F2 : Nat → List Addr}
theorem notOw_cases {i : Nat} {sl : Sl} (h : notOw ρ i = true) (e : ρ[i]? = some sl) : sl = .un ∨ ∃ d, sl = .sh d := by
  unfold notOw at h
  rw [e] at h
  cases sl <;> simp [plainS] at h
  · exact .inl rfl
  · exact .inr ⟨_, rfl⟩
theorem Rep.minus {oa : Option Addr} (r : Rep K (Φ.plus oa) U σ H ρ) : Rep K Φ U σ H ρ := by
  obtain ⟨F, r⟩ := r
  have hall : ∀ b, Φ.all b → (Φ.plus oa).all b := fun b q => by
    cases oa with
    | none => exact q
    | some a => exact q.elim .inl fun z => .inr (.inl z)
  have hw0 : (Φ.plus oa).w0 = Φ.w0 := by cases oa <;> rfl
  have hlw : (Φ.plus oa).lw = Φ.lw := by cases oa <;> rfl
  have hpn : (Φ.plus oa).pin = Φ.pin := by cases oa <;> rfl
  exact ⟨F, r.len, r.out, fun i sl e => (r.ok i sl e).stp (Stp.less fun b q => q.elim (fun z => .inl (hall b z)) .inr) (fun b _ o q => q) (fun a q => by rw [hw0] at q; exact q) fun a q => by rw [hlw] at q; exact q, r.bo, r.nd, r.sep, r.mem, fun a q w => r.own a q (hall a w), fun a w => r.trk a (hall a w), fun i a h => r.pin i a (by rw [hpn]; exact h), fun i d h => by rw [← hpn]; exact r.lkp i d h⟩
theorem Rep.wipe : ∀ (vs : List Nat), Rep K Φ U σ H ρ → (vs.all (notOw ρ)) = true → ∃ U1, Rep K Φ U1 (L2.wipe σ vs) H (wipeR ρ vs) ∧ ∀ a, U1 a → U a
  | [], r, h => ⟨U, r, fun a z => z⟩
  | v :: vs, r, h => by
    simp only [List.all_cons, Bool.and_eq_true] at h
    obtain ⟨U1, ⟨F, r1⟩, l1⟩ := Rep.wipe vs r h.2
    have hs : DI.setS v .un (wipeR ρ vs) = some ((wipeR ρ vs).set v .un) := by
      unfold DI.setS
      rw [wipeR_get]
      cases e : ρ[v]? with
      | none => split <;> simp_all
      | some sl =>
        rcases notOw_cases h.1 e with rfl | ⟨d, rfl⟩ <;> (by_cases hv : v ∈ vs <;> simp [hv])
    obtain ⟨U2, F2, q1, q2, _⟩ := RepF.setG (oa := none) r1 (fun a z => by cases z) (v := none) (f := []) (fun a => by simp) hs (fun i k z => by cases z) (fun d z => by cases z) .nil rfl
    exact ⟨U2, ⟨F2, q1⟩, fun a z => (q2 a z).elim (l1 a) fun w => by cases w⟩
/-- behind the block its own names are what they were -/
theorem Rep.back {vs : List Nat} (r1 : Rep K Φ U1 σ H1 ρ1) (h1 : (vs.all (notOw ρ1)) = true) (r2 : Rep K Φ' U2 (L2.wipe σ vs) H2 (wipeR ρ2 vs)) (st : Stp H1 (WU Φ U1) H2 (WU Φ' U2)) : Rep K Φ' U2 σ H2 (backR ρ1 ρ2 vs) := by
  obtain ⟨F1, r1⟩ := r1
  obtain ⟨F2, r2⟩ := r2
  have hl : ρ1.length = ρ2.length := by rw [r1.len, ← wipeR_len ρ2 vs, r2.len, wipe_length]
  have get : ∀ (i : Nat) (sl : Sl), (backR ρ1 ρ2 vs)[i]? = some sl → (i ∈ vs ∧ ρ1[i]? = some sl) ∨ (i ∉ vs ∧ (wipeR ρ2 vs)[i]? = some sl ∧ (L2.wipe σ vs)[i]? = σ[i]?) := fun i sl e => by
    rw [backR_get hl] at e
    by_cases hi : i ∈ vs
    · rw [if_pos hi] at e; exact .inl ⟨hi, e⟩
    · rw [if_neg hi] at e; exact .inr ⟨hi, by rw [wipeR_get, if_neg hi]; exact e, by rw [wipe_get, if_neg hi]⟩
  have hF2 : ∀ i ∈ vs, F2 i = [] := fun i hi => by
    cases e : ρ2[i]? with
    | none => exact r2.out i (by rw [wipeR_len]; exact List.getElem?_eq_none_iff.mp e)
    | some sl => exact r2.ok i .un (by rw [wipeR_get, if_pos hi, e]; rfl)
  have pl : ∀ i ∈ vs, notOw ρ1 i = true := fun i hi => (List.all_eq_true.mp h1) i hi
  refine ⟨F2, by rw [backR_len, ← hl]; exact r1.len, fun i hi => r2.out i (by rw [wipeR_len, ← backR_len ρ1 ρ2 vs]; exact hi), fun i sl e => ?_, fun i j k e => ?_, r2.nd, r2.sep, r2.mem, r2.own, r2.trk, fun i a h => ?_, fun i d h => ?_⟩
  · rcases get i sl e with ⟨hi, e1⟩ | ⟨hi, e1, e2⟩
    · rw [hF2 i hi]
      rcases notOw_cases (pl i hi) e1 with rfl | ⟨d, rfl⟩
      · rfl
      · obtain ⟨_, u, q1, q2⟩ := r1.ok i _ e1
        exact ⟨rfl, u, q1, R.stp st d u q2⟩
    · rw [← e2]
      exact r2.ok i sl e1
  · rcases get i _ e with ⟨hi, e1⟩ | ⟨hi, e1, e2⟩
    · rcases notOw_cases (pl i hi) e1 with z | ⟨d, z⟩ <;> cases z
    · obtain ⟨a1, bs1, kvs1, n, k', d1, b, y1, y2, y3, y4, y5, y6⟩ := r2.bo i j k e1
      have hj : j ∉ vs := fun z => by
        rw [wipeR_get, if_pos z] at y1
        cases e : ρ2[j]? <;> rw [e] at y1 <;> cases y1
      rw [wipeR_get, if_neg hj] at y1
      exact ⟨a1, bs1, kvs1, n, k', d1, b, by rw [backR_get hl, if_neg hj]; exact y1, y2, y3, y4, y5, by rw [← e2]; exact y6⟩
  · obtain ⟨q1, sl, q2, q3⟩ := r2.pin i a h
    have hi : i ∉ vs := fun z => by
      rw [wipeR_get, if_pos z] at q2
      cases e : ρ2[i]? <;> rw [e] at q2 <;> cases q2
      cases q3
    rw [wipe_get, if_neg hi] at q1
    rw [wipeR_get, if_neg hi] at q2
    exact ⟨q1, sl, by rw [backR_get hl, if_neg hi]; exact q2, q3⟩
  · rcases get i _ h with ⟨hi, e1⟩ | ⟨hi, e1, e2⟩
    · rcases notOw_cases (pl i hi) e1 with z | ⟨d, z⟩ <;> cases z
    · exact r2.lkp i d e1
/-- the list that is made, changed -/
theorem Rep.apUpd {D : Addr} {o : HO} (r : Rep K Φ U σ H ρ) (h : Φ.ap D) (hw : ¬ Φ.r0 D) : Rep K Φ U σ (upd H D o) ρ := by
  obtain ⟨F, r⟩ := r
  have st : Stp H (WU Φ U) (upd H D o) (WU Φ U) := ⟨fun a u e n => ⟨by rw [upd_ne (fun z => n (.inl (.inr (by rw [z]; exact h))))]; exact e, n⟩, fun a q => .inl q⟩
  refine ⟨F, r.len, r.out, fun i sl e => (r.ok i sl e).stp st (fun b hb u q => ?_) (fun a q => q) fun a q => q, r.bo, r.nd, r.sep, r.mem, r.own, fun a q => ?_, r.pin, r.lkp⟩
  · have hne : b ≠ D := fun z => hb.elim (fun w => r.own b ((r.mem b).mpr ⟨i, w⟩) (.inr (z ▸ h))) fun w => hw (z ▸ w)
    rw [upd_ne hne]
    exact q
  · by_cases e : a = D
    · rw [e, upd_same]; simp
    · rw [upd_ne e]; exact r.trk a q
theorem e_lc {elt tg iter : Expr} {ifs : List Expr} {scope : Scope} {own : List (Str × Nat)} {tgl : List Nat} {isT : Bool} {ci : CI} {cifs : CO} {celt : CE} {pos : Pos}
    (hc : X.calm = true) (hN : X.N.Nodup) (hi : I3 cf X Wx tg iter ci) (ok : BlkOk X.N X.env.scope scope own) (hsub : ∀ i ∈ tgl, i ∈ own.map (·.2))
    (hg : ∀ (s : Shared) (H : Hp) (C : Addr) (cl : List (Str × Addr)) (fp : List Addr), PG (X.blk s H scope (compEnvC scope cl C X.env) fp) tg (gD X tgl isT))
    (ht : ∀ (s : Shared) (H : Hp) (C : Addr) (cl : List (Str × Addr)) (fp : List Addr), PTs (X.blk s H scope (compEnvC scope cl C X.env) fp) ifs (fun σ H Q => ∃ ρ, tB X (fun _ _ _ _ => False) (pureO cifs) ρ (evalT cf cifs ρ) σ H Q))
    (he : ∀ (s : Shared) (H : Hp) (C : Addr) (cl : List (Str × Addr)) (fp : List Addr), PE (X.blk s H scope (compEnvC scope cl C X.env) fp) elt (fun σ H Q => ∃ ρ, tE X (fun _ _ _ _ => False) (pureE celt) .val ρ (evalE cf false celt ρ) σ H Q))
    (hs : ∀ x, foldedSetIterable iter X.env x = pure x) :
    ∃ wi g tt te, PI X tg iter wi ∧ (∀ (s : Shared) (H : Hp) (C : Addr) (cl : List (Str × Addr)) (fp : List Addr), PG (X.blk s H scope (compEnvC scope cl C X.env) fp) tg g) ∧ (∀ (s : Shared) (H : Hp) (C : Addr) (cl : List (Str × Addr)) (fp : List Addr), PTs (X.blk s H scope (compEnvC scope cl C X.env) fp) ifs tt) ∧
      (∀ (s : Shared) (H : Hp) (C : Addr) (cl : List (Str × Addr)) (fp : List Addr), PE (X.blk s H scope (compEnvC scope cl C X.env) fp) elt te) ∧
      ∀ σ H Q, (∃ ρ, tE X Wx (pureE (.lc (own.map (·.2)) tgl isT ci cifs celt)) .fr ρ (evalE cf false (.lc (own.map (·.2)) tgl isT ci cifs celt) ρ) σ H Q) → tLc wi g tt te (own.map (·.2)) σ H Q := by
  refine ⟨_, gD X tgl isT, _, _, hi (pureO cifs && pureE celt), hg, ht, he, fun σ H Q ⟨ρ, Φ, U, h⟩ => ?_⟩
  simp only [evalE, pureE] at h
  generalize hvs : own.map (·.2) = vs at h hsub ⊢
  refine ⟨ρ, Φ, U, h.bind (RM.mono _) (p2 := pureO cifs && pureE celt) and2 fun ds ρ1 J H1 U1 l1 s1 e1 feeds h1 => ?_⟩
  obtain ⟨ap, hap, feeds⟩ := feeds
  generalize hf : (fun (d : D) (ρ : Rho) => if (vs.all (notOw ρ)) = true then (eob (setTg tgl isT d (wipeR ρ vs)) ρ).bind fun ρ' _ => (evalT cf cifs ρ').bind fun k ρ' => if k = true then (evalE cf false celt ρ').bind fun x ρ' => EO.ok (some x) ρ' else EO.ok none ρ' else EO.bad) = f at h1
  intro D hD
  cases hr : lcLoop f ds ρ1 with
  | bad => rw [hr] at h1; exact h1.bad.elim
  | exc c p ρ2 => exact absurd hr (lcLoop_exc ds _ _ c p)
  | ok r ρ2 =>
  rw [hr] at h1
  simp only [ebind_ok] at h1
  cases hno : (vs.all (notOw ρ1) && vs.all (notOw ρ2)) with
  | false =>
    rw [hno, if_neg Bool.false_ne_true] at h1
    exact h1.bad.elim
  | true =>
  rw [hno, if_pos rfl] at h1
  rw [Bool.and_eq_true] at hno
  obtain ⟨hno1, hno2⟩ := hno
  cases hgd : szOk ds.length with
  | false => rw [hgd] at h1; exact h1.2.elim
  | true =>
  rw [hgd] at h1
  have hsz := szOk_le hgd
  obtain ⟨rep1, h1⟩ := h1
  have h1 : ∀ v H' U', Rep (X.K, X.w) Φ U' σ H' (backR ρ1 ρ2 vs) → SX H1 U1 H' U' → (∀ a, U' a → U1 a) → ((pureO cifs && pureE celt) = true → Same H1 H') → RM (X.K, X.w) .fr σ Φ (backR ρ1 ρ2 vs) U' H1 H' (PyData.list r) v → Q v H' := h1
  have hfb : ∀ d ρ, ¬ (vs.all (notOw ρ)) = true → f d ρ = .bad := fun d ρ z => by rw [← hf]; simp only [z, if_false, Bool.false_eq_true]
  have hw0 : ¬ Φ.r0 D := fun z => rep1.wtrk D (.inl (.inl z)) hD
  let Ψ := Φ.plus (some D)
  have hΨ : ∀ b, Ψ.all b → Φ.all b ∨ b = D := fun b q => q.elim (fun z => .inl (.inl z)) fun z => z.elim (fun w => .inl (.inr w)) .inr
  have hapD : Ψ.ap D := .inr rfl
  have st0 : ∀ {H' : Hp} {Ui : WS}, SX H1 U1 H' Ui → Stp H1 (WU Φ U1) H' (WU Ψ Ui) := fun {H' Ui} sx => ⟨fun a o e n => ⟨(sx.keep a o e fun z => n (.inr z)).1, fun q => q.elim (fun z => (hΨ a z).elim (fun w => n (.inl w)) fun w => by rw [w, hD] at e; cases e) fun z => (sx.keep a o e fun z => n (.inr z)).2 z⟩,
    fun a q => q.elim (fun z => (hΨ a z).elim (fun w => .inl (.inl w)) fun w => .inr (w ▸ hD)) fun z => (sx.new a z).elim (fun w => .inl (.inr w)) .inr⟩
  let PvR := fun (i : Nat) (H' : Hp) => ∃ racc rrest acc ρi Ui, r = racc ++ rrest ∧ lcLoop f (ds.drop i) ρi = .ok rrest ρ2 ∧ Rep (X.K, X.w) Ψ Ui (L2.wipe σ vs) H' (wipeR ρi vs) ∧ SX H1 U1 H' Ui ∧ (∀ a, Ui a → U1 a) ∧ H' D = some (.lst acc) ∧ Rs (X.K, X.w) H' (WU Ψ Ui) racc acc ∧ acc.length ≤ i ∧ ((pureO cifs && pureE celt) = true → ∀ b o, H1 b = some o → H' b = some o)
  have start : PvR 0 (upd H1 D (.lst [])) := by
    obtain ⟨F, rf⟩ := rep1
    have rp : Rep (X.K, X.w) Ψ U1 σ (upd H1 D (.lst [])) ρ1 := ⟨F, rf.plusF (same_new hD) hD (by rw [upd_same]; simp)⟩
    obtain ⟨U2, q1, q2⟩ := rp.wipe vs hno1
    exact ⟨[], r, [], ρ1, U2, rfl, by simpa using hr, q1, SX.less (same_new hD) q2, q2, upd_same, by simp [Rs], Nat.zero_le _, fun _ b o e => by rw [upd_ne (ne_of_none e hD)]; exact e⟩
  refine ⟨fun i m H' => m = ds.length - i ∧ i ≤ ds.length ∧ PvR i H', ⟨ds.length, by simp, Nat.zero_le _, start⟩, ?_⟩
  rintro i m H' ⟨rfl, hi', racc, rrest, acc, ρi, Ui, er, el, rep, sx, le, eD, rs, hl, kp⟩
  obtain ⟨fd1, fd2⟩ := feeds H' (WU Ψ Ui) (st0 sx) (fun a ha o e => by
    cases hpu : (pureO cifs && pureE celt) with
    | true => exact kp hpu a o e
    | false => exact (hap hpu a ha).elim) rep.wtrk
  by_cases hlt : i < ds.length
  · obtain ⟨d, hd⟩ : ∃ d, ds[i]? = some d := ⟨ds[i], List.getElem?_eq_getElem hlt⟩
    obtain ⟨go, yl⟩ := fd1 i d hd
    refine .inr ⟨go, PvR (i + 1), fun H'' nx => ⟨ds.length - (i + 1), by omega, rfl, hlt, nx⟩, fun x H2 hy => ?_⟩
    obtain ⟨sm2, rx⟩ := yl x H2 hy
    have hdr : ds.drop i = d :: ds.drop (i + 1) := by
      rw [List.drop_eq_getElem_cons hlt]
      have : ds[i] = d := by rw [List.getElem?_eq_getElem hlt] at hd; exact Option.some.inj hd
      rw [this]
    have hnoi : (vs.all (notOw ρi)) = true := lcLoop_pre (P := fun ρ => (vs.all (notOw ρ)) = true) hfb el hno2
    rw [hdr] at el
    simp only [lcLoop] at el
    have hfd : f d ρi = (eob (setTg tgl isT d (wipeR ρi vs)) ρi).bind fun ρ' _ => (evalT cf cifs ρ').bind fun k ρ' => if k = true then (evalE cf false celt ρ').bind fun x ρ' => EO.ok (some x) ρ' else EO.ok none ρ' := by rw [← hf]; simp only [hnoi, if_true]
    cases hst : setTg tgl isT d (wipeR ρi vs) with
    | none => rw [hst] at hfd; rw [show f d ρi = .bad from hfd] at el; cases el
    | some ρ' =>
    rw [hst] at hfd
    have hfd : f d ρi = (evalT cf cifs ρ').bind fun k ρ' => if k = true then (evalE cf false celt ρ').bind fun x ρ' => EO.ok (some x) ρ' else EO.ok none ρ' := hfd
    refine ⟨_, Ui, _, d, ρ', rep.same sm2, rx, hst, fun σ2 U3 rep3 less3 len3 ag3 => ?_⟩
    refine ⟨wipe_agree len3 hsub ag3, ρ', Ψ, U3, rep3, ?_⟩
    cases htv : evalT cf cifs ρ' with
    | bad => rw [htv] at hfd; rw [show f d ρi = .bad from hfd] at el; cases el
    | exc c p ρe => rw [htv] at hfd; rw [show f d ρi = .exc c p ρe from hfd] at el; cases el
    | ok kb ρt =>
    rw [htv] at hfd
    simp only [ebind_ok] at hfd
    intro v H3 U4 rep4 sx4 le4 e4 ev
    have ev : kb = v := ev
    subst ev
    have nD : ∀ {Uj : WS}, Rep (X.K, X.w) Ψ Uj σ2 H3 ρt → ¬ Uj D := fun {Uj} r z => let ⟨F, r⟩ := r; r.own D z (.inr hapD)
    have eD2 : H2 D = some (.lst acc) := sm2 D _ eD
    have nD3 : ¬ U3 D := fun z => let ⟨F, r⟩ := rep3; r.own D z (.inr hapD)
    have eD3 : H3 D = some (.lst acc) := (sx4.keep D _ eD2 nD3).1
    have sxB : SX H1 U1 H3 U4 := sx.trans ((SX.less sm2 less3).trans sx4)
    have rs3 : Rs (X.K, X.w) H3 (WU Ψ U4) racc acc := Rs.sx sx4 (Rs.stp (Stp.less fun a q => q.imp id (less3 a)) _ _ (Rs.same sm2 rs))
    have leB : ∀ a, U4 a → U1 a := fun a z => le a (less3 a (le4 a z))
    have kpB : (pureO cifs && pureE celt) = true → ∀ b o, H1 b = some o → H3 b = some o := fun z b o e => e4 (and2 z).1 b o (sm2 b o (kp z b o e))
    cases kb with
    | false =>
      simp only [Bool.false_eq_true, if_false] at hfd ⊢
      rw [hfd] at el
      dsimp only at el
      have hnot : (vs.all (notOw ρt)) = true := lcLoop_pre (P := fun ρ => (vs.all (notOw ρ)) = true) hfb el hno2
      obtain ⟨U5, q1, q2⟩ := rep4.wipe vs hnot
      rw [wipe_agree len3 hsub ag3] at q1
      exact ⟨racc, rrest, acc, ρt, U5, er, el, q1, sxB.trans (SX.less (Same.refl _) q2), fun a z => leB a (q2 a z), eD3, Rs.stp (Stp.less fun a q => q.imp id (q2 a)) _ _ rs3, Nat.le_succ_of_le hl, kpB⟩
    | true =>
      simp only [if_true] at hfd ⊢
      refine ⟨ρt, Ψ, U4, rep4, ?_⟩
      cases hev : evalE cf false celt ρt with
      | bad => rw [hev] at hfd; rw [show f d ρi = .bad from hfd] at el; cases el
      | exc c p ρe => rw [hev] at hfd; rw [show f d ρi = .exc c p ρe from hfd] at el; cases el
      | ok y ρy =>
      rw [hev] at hfd
      simp only [ebind_ok] at hfd
      rw [hfd] at el
      dsimp only at el
      cases hrr : lcLoop f (ds.drop (i + 1)) ρy with
      | bad => rw [hrr] at el; cases el
      | exc c p ρe => rw [hrr] at el; cases el
      | ok rr ρz =>
      rw [hrr] at el
      simp only [ebind_ok] at el
      cases el
      intro v H4 U5 rep5 sx5 le5 e5 rv
      have nD4 : ¬ U4 D := fun z => let ⟨F, r⟩ := rep4; r.own D z (.inr hapD)
      have eD4 : H4 D = some (.lst acc) := (sx5.keep D _ eD3 nD4).1
      have hnot : (vs.all (notOw ρy)) = true := lcLoop_pre (P := fun ρ => (vs.all (notOw ρ)) = true) hfb hrr hno2
      obtain ⟨U6, q1, q2⟩ := (rep5.apUpd (D := D) (o := .lst (acc ++ [v])) hapD hw0).wipe vs hnot
      rw [wipe_agree len3 hsub ag3] at q1
      have sx6 : SX H1 U1 H4 U5 := sxB.trans sx5
      refine ⟨acc, eD4, by omega, racc ++ [y], rr, acc ++ [v], ρy, U6, by rw [er]; simp, hrr, q1, ⟨fun a o e n => ?_, fun a z => sx6.new a (q2 a z), fun a z => ?_⟩, fun a z => leB a (le5 a (q2 a z)), upd_same, ?_, by simp; omega, fun z b o e => ?_⟩
      · rw [upd_ne (ne_of_none e hD)]
        exact ⟨(sx6.keep a o e n).1, fun z => (sx6.keep a o e n).2 (q2 a z)⟩
      · by_cases ea : a = D
        · rw [ea]; exact hD
        · rw [upd_ne ea] at z; exact sx6.trk a z
      · have stD : Stp H4 (WU Ψ U5) (upd H4 D (.lst (acc ++ [v]))) (WU Ψ U6) := ⟨fun a o e n => ⟨by rw [upd_ne (fun z => n (.inl (.inr (by rw [z]; exact hapD))))]; exact e, fun q => n (q.imp id (q2 a))⟩, fun a q => .inl (q.imp id (q2 a))⟩
        exact Rs.append (Rs.stp stD _ _ (Rs.sx sx5 rs3)) (Rs.one (R.stp stD y v rv))
      · rw [upd_ne (ne_of_none e hD)]
        exact e5 (and2 z).2 b o (kpB z b o e)
  · have ei : i = ds.length := by omega
    subst ei
    refine .inl ⟨fd2, ?_⟩
    rw [List.drop_length] at el
    simp only [lcLoop] at el
    cases el
    rw [List.append_nil] at er
    subst er
    have rb : Rep (X.K, X.w) Ψ Ui σ H' (backR ρ1 ρ2 vs) := rep1.back hno1 rep (st0 sx)
    refine h1 _ H' Ui rb.minus sx le (fun z b o e => kp z b o e) ⟨⟨?_, fun _ => ⟨D, rfl, hD, ?_⟩⟩, rb⟩
    · have less : ∀ a, WU Φ Ui a → WU Ψ Ui a := fun a q => q.imp (fun z => z.elim .inl fun w => .inr (.inl w)) id
      simp only [R]
      exact ⟨D, acc, rfl, .inl ⟨.of eD, fun q => q.elim (fun z => rep1.wtrk D (.inl z) hD) fun z => let ⟨F, r⟩ := rep; r.own D z (.inr hapD)⟩, Rs.stp (Stp.less less) _ _ rs⟩
    · simp only [OwnAt]
      exact ⟨acc, eD, Rs.stp (Stp.less fun a q => q.elim (fun z => z.elim (fun w => w.elim (fun y => .inl (.inl y)) fun y => .inl (.inr (.inl y))) fun w => .inr w) fun z => .inl (.inr (.inr z))) _ _ rs⟩
end
end DI
set_option Elab.async false
set_option linter.all false
set_option maxRecDepth 100000
set_option maxHeartbeats 4000000
/-! dicts written -/
namespace DI
open PySem PySem.Spec PyProof.Rows L2
section
variable {X : Cx} {pins : List (Addr × Obj)} {σ : L2.St} {H H' : Hp} {W W' : WS} {s : Shared} {k : Nat} {K : PySem.W.Frag × World}
abbrev PS1 (K : PySem.W.Frag × World) (H : Hp) (W : WS) : D × D → L2.Key × Value → Prop := fun p q => nkOf p.1 = nkK q.1 ∧ ∃ y, RelV y q.2 ∧ R K H W p.2 y
abbrev PT1 (K : PySem.W.Frag × World) (H : Hp) (W : WS) : D × D → NestedKey × Addr × Value → Prop := fun p q => nkOf p.1 = q.1 ∧ R K H W p.1 (.ref q.2.1) ∧ ∃ y, RelV y q.2.2 ∧ R K H W p.2 y
theorem ps1_any {kd : D} {k : L2.Key} (hk : nkOf kd = nkK k) : ∀ {kvs : List (D × D)} {vs : List (L2.Key × Value)}, Paired (PS1 K H W) kvs vs → (kvs.any fun p => decide (nkOf p.1 = nkOf kd)) = vs.any fun q => decide (q.1 = k)
  | [], [], .nil => rfl
  | p :: kvs, q :: vs, .cons h t => by
    rw [List.any_cons, List.any_cons, ps1_any hk t, h.1, hk]
    congr 1
    by_cases e : q.1 = k
    · simp [e]
    · have e2 : ¬ nkK q.1 = nkK k := fun z => e (nkK_inj z)
      simp [e, e2]
theorem ps1_map {kd d : D} {k : L2.Key} {r : Value} {v : V} (hk : nkOf kd = nkK k) (rv : RelV v r) (hv : R K H W d v) : ∀ {kvs : List (D × D)} {vs : List (L2.Key × Value)}, Paired (PS1 K H W) kvs vs →
    Paired (PS1 K H W) (kvs.map fun p => if nkOf p.1 = nkOf kd then (p.1, d) else p) (vs.map fun q => if q.1 = k then (q.1, r) else q)
  | [], [], .nil => .nil
  | p :: kvs, q :: vs, .cons h t => by
    refine .cons ?_ (ps1_map hk rv hv t)
    by_cases e : q.1 = k
    · have e2 : nkOf p.1 = nkOf kd := by rw [h.1, e, hk]
      show PS1 K H W (if nkOf p.1 = nkOf kd then (p.1, d) else p) (if q.1 = k then (q.1, r) else q)
      rw [if_pos e2, if_pos e]
      exact ⟨h.1, v, rv, hv⟩
    · have e2 : ¬ nkOf p.1 = nkOf kd := fun z => e (nkK_inj (h.1.symm.trans (z.trans hk)))
      show PS1 K H W (if nkOf p.1 = nkOf kd then (p.1, d) else p) (if q.1 = k then (q.1, r) else q)
      rw [if_neg e2, if_neg e]
      exact h
theorem ps1_snoc {p : D × D} {q : L2.Key × Value} (h : PS1 K H W p q) : ∀ {kvs : List (D × D)} {vs : List (L2.Key × Value)}, Paired (PS1 K H W) kvs vs → Paired (PS1 K H W) (kvs ++ [p]) (vs ++ [q])
  | [], [], .nil => .cons h .nil
  | _ :: _, _ :: _, .cons h1 t => .cons h1 (ps1_snoc h t)
theorem ps1_put {kd d : D} {k : L2.Key} {r : Value} {v : V} (hk : nkOf kd = nkK k) (rv : RelV v r) (hv : R K H W d v) {kvs : List (D × D)} {vs : List (L2.Key × Value)} (h : Paired (PS1 K H W) kvs vs) : Paired (PS1 K H W) (putN kvs kd d) (stored vs k r) := by
  unfold putN stored
  rw [ps1_any hk h]
  split
  · exact ps1_map hk rv hv h
  · exact ps1_snoc ⟨hk, v, rv, hv⟩ h
theorem pt1_some {n : NestedKey} : ∀ {kvs : List (D × D)} {xs : List (NestedKey × Addr × Value)}, Paired (PT1 K H W) kvs xs → (kvs.any fun p => decide (nkOf p.1 = n)) = (atKey xs n).isSome
  | [], [], .nil => rfl
  | p :: kvs, q :: xs, .cons h t => by
    have ih := pt1_some (n := n) t
    unfold atKey at ih ⊢
    rw [List.any_cons, List.find?_cons, ih, h.1]
    by_cases e : q.1 = n <;> simp [e]
theorem pt1_map {kd d : D} {r : Value} {v : V} (rv : RelV v r) (hv : R K H W d v) : ∀ {kvs : List (D × D)} {xs : List (NestedKey × Addr × Value)}, Paired (PT1 K H W) kvs xs →
    Paired (PT1 K H W) (kvs.map fun p => if nkOf p.1 = nkOf kd then (p.1, d) else p) (xs.map (putAt (nkOf kd) r))
  | [], [], .nil => .nil
  | p :: kvs, q :: xs, .cons h t => by
    refine .cons ?_ (pt1_map rv hv t)
    show PT1 K H W (if nkOf p.1 = nkOf kd then (p.1, d) else p) (putAt (nkOf kd) r q)
    unfold putAt
    by_cases e : q.1 = nkOf kd
    · rw [if_pos (h.1.trans e), if_pos e]
      exact ⟨h.1, h.2.1, v, rv, hv⟩
    · rw [if_neg (fun z => e (h.1.symm.trans z)), if_neg e]
      exact h
theorem pt1_snoc {p : D × D} {q : NestedKey × Addr × Value} (h : PT1 K H W p q) : ∀ {kvs : List (D × D)} {xs : List (NestedKey × Addr × Value)}, Paired (PT1 K H W) kvs xs → Paired (PT1 K H W) (kvs ++ [p]) (xs ++ [q])
  | [], [], .nil => .cons h .nil
  | _ :: _, _ :: _, .cons h1 t => .cons h1 (pt1_snoc h t)
theorem pt1_put {kd d : D} {b : Addr} {r : Value} {v : V} (hk : R K H W kd (.ref b)) (rv : RelV v r) (hv : R K H W d v) {kvs : List (D × D)} {xs : List (NestedKey × Addr × Value)} (h : Paired (PT1 K H W) kvs xs) : Paired (PT1 K H W) (putN kvs kd d) (storedH xs (nkOf kd) b r) := by
  unfold putN storedH
  rw [pt1_some h]
  split
  · exact pt1_map rv hv h
  · exact pt1_snoc ⟨rfl, hk, v, rv, hv⟩ h
/-- entries whose keys are rows -/
theorem re_backT {P : Program} : ∀ {kvs : List (D × D)} {xs : List (NestedKey × Addr × Value)}, Paired (PT1 K H W) kvs xs → Re K H W kvs (xs.map (entryOfKey (nestedKind P K.2)))
  | [], [], .nil => by simp [Re]
  | (kd, d) :: kvs, q :: xs, .cons h t => by
    have ih := re_backT (P := P) t
    obtain ⟨h1, h2, y, h3, h4⟩ := h
    simp only [List.map_cons, Re]
    refine ⟨_, _, .ref q.2.1, y, rfl, rfl, h2, ?_, h3, h4, ih⟩
    show q.1.hash K.2 = _
    rw [← h1]
theorem ps1_len : ∀ {kvs : List (D × D)} {vs : List (L2.Key × Value)}, Paired (PS1 K H W) kvs vs → vs.length = kvs.length
  | [], [], .nil => rfl
  | _ :: _, _ :: _, .cons _ t => by rw [List.length_cons, List.length_cons, ps1_len t]
theorem pt1_len : ∀ {kvs : List (D × D)} {xs : List (NestedKey × Addr × Value)}, Paired (PT1 K H W) kvs xs → xs.length = kvs.length
  | [], [], .nil => rfl
  | _ :: _, _ :: _, .cons _ t => by rw [List.length_cons, List.length_cons, pt1_len t]
theorem ps1_stp {H' : Hp} {W' : WS} (st : Stp H W H' W') {kvs : List (D × D)} {vs : List (L2.Key × Value)} (h : Paired (PS1 K H W) kvs vs) : Paired (PS1 K H' W') kvs vs := Paired.mapP h fun p q z => let ⟨y, a, b⟩ := z.2; ⟨z.1, y, a, R.stp st _ _ b⟩
theorem pt1_stp {H' : Hp} {W' : WS} (st : Stp H W H' W') {kvs : List (D × D)} {xs : List (NestedKey × Addr × Value)} (h : Paired (PT1 K H W) kvs xs) : Paired (PT1 K H' W') kvs xs := Paired.mapP h fun p q z => let ⟨y, a, b⟩ := z.2.2; ⟨z.1, R.stp st _ _ z.2.1, y, a, R.stp st _ _ b⟩
/-- an owned dict's object is another one -/
theorem inv_dw (I : Inv X pins σ H s) {a : Addr} {o o' : Obj} {h' : Heap} {t' : Nat} (e : H a = some (.ext fun h => h.get? a = some o)) (hs : Heap.SameBut a s.heap h') (ho : h'.get? a = some o') : Inv X pins σ (upd H a (.ext fun h => h.get? a = some o')) { s with heap := h', toks := t' } :=
  I.write (x := a) (e := a) (by rw [e]; exact trivial) (.inl rfl) (fun b u hb q => (hs.2 b hb).trans q) ⟨o', ho⟩ ⟨ho, ⟨o', ho⟩, fun h1 h2 q1 q2 => q2 _ q1⟩
/-- d[k] = v -/
theorem d_putD (hu : X.A.units + 70 < cLine) (I : Inv X pins σ H s) {kvs : List (D × D)} {kd d : D} {a : Addr} {o : Obj} {es : Array DictEntry} {ep : Nat} {y v : V} {u r : Value} {Q : Unit → Shared → Prop} {E : Value → Shared → Prop} (e : H a = some (.ext fun h => h.get? a = some o)) (wa : W a) (hx : o.ExactDict) (hdt : o.data = .dict es ep) (hr : Re (X.K, X.w) H W kvs es.toList) (ok : dOk kvs = true)
    (hk : R (X.K, X.w) H W kd y) (hf : keyFit kvs kd = true) (ry : RelV y u) (hv : R (X.K, X.w) H W d v) (rv : RelV v r)
    (q : ∀ o' es' ep' s', Inv X pins σ (upd H a (.ext fun h => h.get? a = some o')) s' → o'.ExactDict → o'.data = .dict es' ep' → Re (X.K, X.w) (upd H a (.ext fun h => h.get? a = some o')) W (putN kvs kd d) es'.toList → Q () s') :
    wpAny (model X.prog X.w) X.A (setItem (.ref a) u r) Q E s := by
  have V := dview I e hx hdt hr ok hf hk ry
  have hl := (dOk_nd ok).2
  have st : ∀ o', Stp H W (upd H a (.ext fun h => h.get? a = some o')) W := fun o' => ⟨fun b u e' n => ⟨by rw [upd_ne (fun z => n (by first | (rw [z]; exact wa) | (rw [← z]; exact wa)))]; exact e', n⟩, fun b z => .inl z⟩
  cases V with
  | scal vs k h1 h2 h3 h4 h5 h6 =>
    refine wpAny_setItem_pairs (knd := mixKind X.prog X.w) (hsz := by rw [ps1_len h4, sizeLine_eq]; exact hl) h2 h1 fun h' dd hs => ?_
    obtain ⟨o', es', ep', ho', hx', hd', hk', hp', _⟩ := dd
    have hput := ps1_put h3 rv hv h4
    have hks : kdS (putN kvs kd d) = true := by
      unfold putN
      split
      · simp only [kdS, List.all_map] at h5 ⊢
        rw [List.all_eq_true] at h5 ⊢
        intro p hp
        have := h5 p hp
        simp only [Function.comp]
        split <;> exact this
      · simp only [kdS, List.all_append, Bool.and_eq_true]
        exact ⟨h5, by simpa using h6⟩
    exact q o' es' ep' _ (inv_dw I e hs ho') hx' hd' (re_back (P := X.prog) hp' (fun e' he => hk' e' (by simpa using he)) hks (ps1_stp (st o') hput))
  | tup xs b h1 h2 h3 h4 h5 h6 =>
    subst h2
    have hkb : R (X.K, X.w) H W kd (.ref b) := by
      cases kd <;> simp only [isKT] at h6 <;> first | cases h6 | skip
      simp only [R] at hk
      obtain ⟨a', xs', rfl, z1, z2⟩ := hk
      cases ry
      simp only [R]
      exact ⟨_, xs', rfl, z1, z2⟩
    refine wpAny_setItem_heap (hsz := by rw [pt1_len h4, sizeLine_eq]; exact hl) (room_n hu) h3 h1 fun h' dd hs => ?_
    obtain ⟨o', es', ep', ho', hx', hd', he', _, _⟩ := dd
    have hput := pt1_put hkb rv hv h4
    exact q o' es' ep' _ (inv_dw I e hs ho') hx' hd' (by rw [he']; exact re_backT (pt1_stp (st o') hput))
end
end DI
set_option Elab.async false
set_option linter.all false
set_option maxRecDepth 100000
set_option maxHeartbeats 4000000
/-! xs.pop(), xs.pop(i), d.setdefault(k, v) as expressions -/
namespace DI
open PySem PySem.Spec PyProof.Rows L2
section
variable {X : Cx} {Wx : WX} {pins : List (Addr × Obj)} {σ : L2.St} {H H' : Hp} {W W' : WS} {s : Shared} {k : Nat} {Φ : Fr} {U : WS} {ρ : Rho} {cf : Str → List D → CR} {m : Md} {K : PySem.W.Frag × World}
theorem valueAt_any {kvs : List (D × D)} {vs : List (L2.Key × Value)} {k : L2.Key} (h : Paired (PS1 K H W) kvs vs) (hn : getN kvs (nkK k) = none) : True := trivial
/-- d.setdefault(k, v) -/
theorem d_setdD (hu : X.A.units + 70 < cLine) (I : Inv X pins σ H s) {kvs : List (D × D)} {kd d : D} {a : Addr} {o : Obj} {es : Array DictEntry} {ep : Nat} {y z : V} {u r : Value} {Q : VK} (e : H a = some (.ext fun h => h.get? a = some o)) (wa : W a) (hs : (a == sysModules) = false) (hx : o.ExactDict) (hdt : o.data = .dict es ep) (hr : Re (X.K, X.w) H W kvs es.toList) (ok : dOk kvs = true)
    (hk : R (X.K, X.w) H W kd y) (hf : keyFit kvs kd = true) (ry : RelV y u) (hv : R (X.K, X.w) H W d z) (rv : RelV z r)
    (q1 : ∀ x, getN kvs (nkOf kd) = some x → ∀ v', R (X.K, X.w) H W x v' → Q v' H)
    (q2 : getN kvs (nkOf kd) = none → ∀ o' es' ep', o'.ExactDict → o'.data = .dict es' ep' → Re (X.K, X.w) (upd H a (.ext fun h => h.get? a = some o')) W (putN kvs kd d) es'.toList → Q z (upd H a (.ext fun h => h.get? a = some o'))) :
    wpAny (model X.prog X.w) X.A (call (.builtin "dict.setdefault") [.ref a, u, r]) (EP X pins σ Q) X.xe s := by
  have V := dview I e hx hdt hr ok hf hk ry
  have hl := (dOk_nd ok).2
  have st : ∀ o', Stp H W (upd H a (.ext fun h => h.get? a = some o')) W := fun o' => ⟨fun b u e' n => ⟨by rw [upd_ne (fun z => n (by first | (rw [z]; exact wa) | (rw [← z]; exact wa)))]; exact e', n⟩, fun b z => .inl z⟩
  cases V with
  | scal vs k h1 h2 h3 h4 h5 h6 =>
    have f := find_scal h4 k
    rw [← h3] at f
    refine call_meetsIn PySem.F.slot_dict_setdefault h1.typeIs PySem.F.entry_dict_setdefault (PySem.F.args_dict_setdefault_3 _ _ _) (kt_meets_setdefault (mixKind X.prog X.w) a h2 hs r) ⟨vs, h1, by rw [ps1_len h4, sizeLine_eq]; exact hl, fun v hv' => ?_, fun hn h' dd hsb => ?_⟩
    · rw [hv'] at f
      cases hg : getN kvs (nkOf kd) with
      | none => rw [hg] at f; exact f.elim
      | some x =>
        rw [hg] at f
        obtain ⟨w, rw', hw⟩ := f
        exact ⟨w, H, I.tok _, rw', q1 x hg w hw⟩
    · rw [hn] at f
      cases hg : getN kvs (nkOf kd) with
      | some x => rw [hg] at f; exact f.elim
      | none =>
        obtain ⟨o', es', ep', ho', hx', hd', hk', hp', _⟩ := dd
        have hput := ps1_put h3 rv hv h4
        have hks : kdS (putN kvs kd d) = true := by
          unfold putN
          split
          · simp only [kdS, List.all_map] at h5 ⊢
            rw [List.all_eq_true] at h5 ⊢
            intro p hp
            have := h5 p hp
            simp only [Function.comp]
            split <;> exact this
          · simp only [kdS, List.all_append, Bool.and_eq_true]
            exact ⟨h5, by simpa using h6⟩
        exact ⟨z, _, inv_dw I e hsb ho', rv, q2 hg o' es' ep' hx' hd' (re_back (P := X.prog) hp' (fun e' he => hk' e' (by simpa using he)) hks (ps1_stp (st o') hput))⟩
  | tup xs b h1 h2 h3 h4 h5 h6 =>
    subst h2
    have hkb : R (X.K, X.w) H W kd (.ref b) := by
      cases kd <;> simp only [isKT] at h6 <;> first | cases h6 | skip
      simp only [R] at hk
      obtain ⟨a', xs', rfl, z1, z2⟩ := hk
      cases ry
      simp only [R]
      exact ⟨_, xs', rfl, z1, z2⟩
    have f := find_tup h4 (nkOf kd)
    refine call_setdefault_heap (hsz := by rw [pt1_len h4, sizeLine_eq]; exact hl) (room_n hu) h3 hs h1 (fun p hp => ?_) fun hn h' dd hsb => ?_
    · rw [hp] at f
      cases hg : getN kvs (nkOf kd) with
      | none => rw [hg] at f; exact f.elim
      | some x =>
        rw [hg] at f
        obtain ⟨w, rw', hw⟩ := f
        exact ⟨w, H, I.tok _, rw', q1 x hg w hw⟩
    · rw [hn] at f
      cases hg : getN kvs (nkOf kd) with
      | some x => rw [hg] at f; exact f.elim
      | none =>
        obtain ⟨o', es', ep', ho', hx', hd', he', _, _⟩ := dd
        have hput := pt1_put hkb rv hv h4
        exact ⟨z, _, inv_dw I e hsb ho', rv, q2 hg o' es' ep' hx' hd' (by rw [he']; exact re_backT (pt1_stp (st o') hput))⟩
/-- what a slot's list is -/
theorem Rep.ownL (r : Rep K Φ U σ H ρ) {i : Nat} {ds : List D} (h : owL ρ[i]? = some ds) : ∃ a xs, σ[i]? = some (some (V.ref a)) ∧ slotD ρ[i]? = some (.list ds) ∧ H a = some (.lst xs) ∧ Rs K H (WU Φ U) ds xs ∧ WU Φ U a := by
  have h1 : slotD ρ[i]? = some (.list ds) := by
    unfold owL at h
    split at h <;> first | (rename_i e; cases h; rw [e]; rfl) | cases h
  obtain ⟨a, q1, q2, q3⟩ := r.own h1
  simp only [OwnAt] at q2
  obtain ⟨xs, e, rs⟩ := q2
  exact ⟨a, xs, q1, h1, e, rs, .inr q3⟩
theorem Rep.ownD (r : Rep K Φ U σ H ρ) {i : Nat} {kvs : List (D × D)} (h : owD ρ[i]? = some kvs) : ∃ a o es ep, σ[i]? = some (some (V.ref a)) ∧ slotD ρ[i]? = some (.dict kvs) ∧ H a = some (.ext fun h => h.get? a = some o) ∧ (a == sysModules) = false ∧ o.ExactDict ∧ o.data = .dict es ep ∧ Re K H (WU Φ U) kvs es.toList ∧ dOk kvs = true ∧ WU Φ U a := by
  have h1 : slotD ρ[i]? = some (.dict kvs) := by
    unfold owD at h
    split at h <;> first | (rename_i e; cases h; rw [e]; rfl) | cases h
  obtain ⟨a, q1, q2, q3⟩ := r.own h1
  simp only [OwnAt] at q2
  obtain ⟨o, es, ep, g⟩ := q2
  exact ⟨a, o, es, ep, q1, h1, g.1, g.2.1, g.2.2.1, g.2.2.2.1, g.2.2.2.2.1, g.2.2.2.2.2, .inr q3⟩
theorem upd_none {a b : Addr} {o : HO} (h : upd H a o b = none) : H b = none := by
  by_cases e : b = a
  · subst e; rw [upd_same] at h; cases h
  · rw [upd_ne e] at h; exact h
/-- a list that is changed -/
theorem Rep.modL (r : Rep K Φ U σ H ρ) {i : Nat} {a : Addr} {d : D} {ds' : List D} {xs' : List V} (hi : slotD ρ[i]? = some d) (hs : σ[i]? = some (some (V.ref a))) (ha : WU Φ U a) (rs : Rs K H (WU Φ U) ds' xs') : Rep K Φ U σ (upd H a (.lst xs')) (ρ.set i (withD ρ[i]? (.list ds'))) ∧ SX H U (upd H a (.lst xs')) U := by
  have st : Stp H (WU Φ U) (upd H a (.lst xs')) (WU Φ U) := ⟨fun b o eb n => ⟨by rw [upd_ne (fun z => n (by rw [z]; exact ha))]; exact eb, n⟩, fun b z => .inl z⟩
  exact r.mod hi hs (fun b hb o e => by rw [upd_ne hb]; exact e) (fun b => upd_none) (by simp only [OwnAt]; exact ⟨_, upd_same, Rs.stp st _ _ rs⟩)
theorem Rep.modD (r : Rep K Φ U σ H ρ) {i : Nat} {a : Addr} {d : D} {kvs' : List (D × D)} {o' : Obj} {es' : Array DictEntry} {ep' : Nat} (hi : slotD ρ[i]? = some d) (hs : σ[i]? = some (some (V.ref a))) (hm : (a == sysModules) = false) (hx : o'.ExactDict) (hd : o'.data = .dict es' ep') (hr : Re K (upd H a (.ext fun h => h.get? a = some o')) (WU Φ U) kvs' es'.toList) (ok : dOk kvs' = true) :
    Rep K Φ U σ (upd H a (.ext fun h => h.get? a = some o')) (ρ.set i (withD ρ[i]? (.dict kvs'))) ∧ SX H U (upd H a (.ext fun h => h.get? a = some o')) U :=
  r.mod hi hs (fun b hb o e => by rw [upd_ne hb]; exact e) (fun b => upd_none) (by simp only [OwnAt]; exact ⟨o', es', ep', upd_same, hm, hx, hd, hr, ok⟩)
theorem popV_ok {i : Nat} {j : Int} {Q : V → Hp → Prop} {pu : Bool} (h : AnW X Wx Φ U pu ρ (popV i j ρ) (RM (X.K, X.w) .val) σ H Q) (hpu : pu = false) :
    ∃ a xs n y, σ[i]? = some (some (V.ref a)) ∧ H a = some (.lst xs) ∧ ixN xs.length j = some n ∧ xs[n]? = some y ∧ Q y (upd H a (.lst (xs.eraseIdx n))) := by
  obtain ⟨rep, h⟩ := h
  unfold popV at h
  cases e : owL ρ[i]? with
  | none => rw [e] at h; exact h.elim
  | some ds =>
  rw [e] at h
  dsimp only at h
  obtain ⟨a, xs, h1, h2, h3, h4, h5⟩ := rep.ownL e
  have hl := h4.length
  cases en : ixN ds.length j with
  | none => rw [en] at h; exact h.elim
  | some n =>
  rw [en] at h
  dsimp only at h
  cases ed : ds[n]? with
  | none => rw [ed] at h; exact h.elim
  | some d =>
  rw [ed] at h
  dsimp only at h
  obtain ⟨y, ey, ry⟩ := h4.get ed
  obtain ⟨q1, q2⟩ := rep.modL h2 h1 h5 (h4.eraseIdx n)
  have st : Stp H (WU Φ U) (upd H a (.lst (xs.eraseIdx n))) (WU Φ U) := q2.stp
  exact ⟨a, xs, n, y, h1, h3, by rw [hl]; exact en, ey, h y _ U q1 q2 (fun a z => z) (fun z => by rw [hpu] at z; cases z) (R.stp st d y ry)⟩
theorem ixN_bnd {n k : Nat} {j : Int} (h : ixN n j = some k) (hn : n ≤ sizeLine) : -(2 ^ 63) ≤ j ∧ j < 2 ^ 63 := by
  obtain ⟨_, _, h1, h2⟩ := ixN_seq h
  have hz : sizeLine = 16777216 := sizeLine_eq
  omega
theorem e_pop0 {i : Nat} {x : Str} {p ap cp : Pos} (hN : X.N[i]? = some x) (hv : Vis X.env.scope x) (hd : (x == ("__debug__" : Str)) = false) (hcd : (x == ("__classdict__" : Str)) = false) (hline : (ap.endLine == cp.line) = true) :
    E3 cf X Wx (.Call (.Attribute (.Name x p) "pop" ap) [] [] cp) (.pop0 i) := by
  refine .ofVal (PE.imp (pe_bm0 PySem.F.plainAttrs_list PySem.F.slot_list_pop PySem.F.type_list_pop mt_pop (pe_var hN hv hd hcd) rfl hline) fun σ H Q ⟨ρ, Φ, U, h⟩ => ?_) (fun ρ => rfl) rfl
  simp only [evalE] at h
  obtain ⟨a, xs, n, y, h1, h2, h3, h4, q⟩ := popV_ok h rfl
  have hn : n = xs.length - 1 := by
    have := ixN_seq h3
    obtain ⟨z, z1, z2, z3⟩ := this
    simp only [ixN, show ¬ (0 : Int) ≤ -1 by decide, if_false, z2, if_true, Option.some.injEq] at h3
    omega
  subst hn
  refine ⟨.ref a, h1, .inl ⟨rfl, xs, .of h2⟩, a, xs, y, rfl, rfl, h2, h4, ?_⟩
  rw [List.dropLast_eq_take]
  rw [List.eraseIdx_eq_take_drop_succ] at q
  have : xs.length - 1 + 1 ≥ xs.length := by omega
  rw [List.drop_eq_nil_of_le this, List.append_nil] at q
  exact q
theorem mt_popS : MtM X "list.pop" (fun x vs H Q => ∃ l xs i k y, x = .ref l ∧ vs = [.int i] ∧ H l = some (.lst xs) ∧ ixN xs.length i = some k ∧ xs[k]? = some y ∧ Q y (upd H l (.lst (xs.eraseIdx k)))) := by
  intro pins s σ H x vs v us Q I rx rv ⟨l, xs, i, k, y, h1, h2, h3, h4, h5, q⟩
  have hz : xs.length ≤ sizeLine := (I.list (.of h3)).elim fun _ z => z.2.2
  obtain ⟨b1, b2⟩ := ixN_bnd h4 hz
  exact mt_popAt pins s σ H x vs v us Q I rx rv ⟨l, xs, i, k, y, h1, h2, h3, b1, b2, (ixN_seq h4).1, h5, q⟩
theorem e_pop1 {i : Nat} {x : Str} {e : Expr} {c : CE} {p ap cp : Pos} (hN : X.N[i]? = some x) (hv : Vis X.env.scope x) (hd : (x == ("__debug__" : Str)) = false) (hcd : (x == ("__classdict__" : Str)) = false) (he : E3 cf X Wx e c) (hline : (ap.endLine == cp.line) = true) (hst : starEach [e] X.env = [(false, eval e X.env)]) :
    E3 cf X Wx (.Call (.Attribute (.Name x p) "pop" ap) [e] [] cp) (.pop1 i c) := by
  refine .ofVal (PE.imp (pe_bm PySem.F.plainAttrs_list PySem.F.slot_list_pop PySem.F.type_list_pop mt_popS (pe_var hN hv hd hcd) (pa_cons he.p pa_nil hst) rfl (by rw [hst]; rfl) hline hst rfl) fun σ H Q ⟨ρ, Φ, U, h⟩ => ?_) (fun ρ => rfl) rfl
  simp only [evalE, pureE] at h
  cases e0 : owL ρ[i]? with
  | none => rw [e0] at h; exact h.2.elim
  | some ds0 =>
  rw [e0, if_pos (show (some ds0).isSome = true from rfl)] at h
  obtain ⟨a0, xs0, g1, g2, g3, g4, g5⟩ := h.1.ownL e0
  refine ⟨.ref a0, g1, .inl ⟨rfl, xs0, .of g3⟩, ρ, Φ, U, h.bind (RM.mono _) (p2 := false) (fun z => by cases z) fun y ρ1 v H1 U1 l1 s1 e1 r1 h1 => ?_⟩
  obtain ⟨j, ej, h1⟩ := h1.obb
  cases y <;> simp [asI] at ej
  subst ej
  obtain ⟨a, xs, n, y, q1, q2, q3, q4, q⟩ := popV_ok h1 rfl
  rw [g1] at q1
  cases q1
  have ev := RP.int r1
  subst ev
  exact ⟨_, xs, _, n, y, rfl, rfl, q2, q3, q4, q⟩
/-! d.setdefault(k, v) -/
def rSetd (X : Cx) : V → List V → Hp → VK → Prop := fun x vs H Q => ∃ W kvs kd d a y z o es ep, x = .ref a ∧ vs = [y, z] ∧ H a = some (.ext fun h => h.get? a = some o) ∧ W a ∧ (a == sysModules) = false ∧ o.ExactDict ∧ o.data = .dict es ep ∧ Re (X.K, X.w) H W kvs es.toList ∧ dOk kvs = true ∧
  R (X.K, X.w) H W kd y ∧ keyFit kvs kd = true ∧ R (X.K, X.w) H W d z ∧ (∀ x, getN kvs (nkOf kd) = some x → ∀ v', R (X.K, X.w) H W x v' → Q v' H) ∧
  (getN kvs (nkOf kd) = none → ∀ o' es' ep', o'.ExactDict → o'.data = .dict es' ep' → Re (X.K, X.w) (upd H a (.ext fun h => h.get? a = some o')) W (putN kvs kd d) es'.toList → Q z (upd H a (.ext fun h => h.get? a = some o')))
theorem mt_setdD (hu : X.A.units + 70 < cLine) : MtR X "dict.setdefault" (rSetd X) := by
  intro pins s σ H x vs v us Q I rx rv ⟨W, kvs, kd, d, a, y, z, o, es, ep, e1, e2, h1, h2, h3, h4, h5, h6, h7, h8, h9, h10, q1, q2⟩
  subst e1 e2
  obtain ⟨u, w, rfl, ru, rw'⟩ := Vals.two rv
  cases rx
  exact d_setdD hu I h1 h2 h3 h4 h5 h6 h7 h8 h9 ru h10 rw' q1 q2
theorem e_setd {i : Nat} {x : Str} {e f : Expr} {c c2 : CE} {p ap cp : Pos} (hr : Room k X.A) (hN : X.N[i]? = some x) (hv : Vis X.env.scope x) (hd : (x == ("__debug__" : Str)) = false) (hcd : (x == ("__classdict__" : Str)) = false) (he : E3 cf X Wx e c) (hf : E3 cf X Wx f c2) (hline : (ap.endLine == cp.line) = true)
    (hst : starEach [e, f] X.env = (false, eval e X.env) :: starEach [f] X.env) (hst2 : starEach [f] X.env = [(false, eval f X.env)]) :
    E3 cf X Wx (.Call (.Attribute (.Name x p) "setdefault" ap) [e, f] [] cp) (.setd i c c2) := by
  refine .ofVal (PE.imp (pe_dm PySem.F.slot_dict_setdefault PySem.F.type_dict_setdefault (mt_setdD (by have := hr.un; omega)) (pe_var hN hv hd hcd) (pa_cons he.v (pa_cons hf.v pa_nil hst2) hst) rfl (by rw [hst, hst2]; rfl) hline hst (by rw [hst2]; rfl)) fun σ H Q ⟨ρ, Φ, U, h⟩ => ?_) (fun ρ => rfl) rfl
  simp only [evalE, pureE] at h
  cases e0 : owD ρ[i]? with
  | none => rw [e0] at h; exact h.2.elim
  | some kvs0 =>
  rw [e0, if_pos (show (some kvs0).isSome = true from rfl)] at h
  obtain ⟨a0, o0, es0, ep0, g1, g2, g3, g4, g5, g6⟩ := h.1.ownD e0
  refine ⟨.ref a0, g1, ⟨a0, o0, rfl, g3, g5⟩, ρ, Φ, U, h.bind (RM.mono _) (p2 := false) (fun z => by cases z) fun kd ρ1 v H1 U1 l1 s1 e1 r1 h1 => ⟨ρ1, Φ, U1, h1.bind (RM.mono _) (p2 := false) (fun z => by cases z) fun d ρ2 u H2 U2 l2 s2 e2 r2 h2 => ?_⟩⟩
  obtain ⟨rep, h2⟩ := h2
  unfold setdV at h2
  cases e3 : owD ρ2[i]? with
  | none => rw [e3] at h2; exact h2.elim
  | some kvs =>
  rw [e3] at h2
  dsimp only at h2
  by_cases hkf : keyFit kvs kd = true
  case neg => rw [if_neg hkf] at h2; exact h2.elim
  rw [if_pos hkf] at h2
  obtain ⟨a, o, es, ep, q1, q2, q3, q4, q5, q6, q7, q8, q9⟩ := rep.ownD e3
  rw [g1] at q1
  cases q1
  refine ⟨_, kvs, kd, d, a0, v, u, o, es, ep, rfl, rfl, q3, q9, q4, q5, q6, q7, q8, R.sx s2 r1, hkf, r2, fun x hx v' hv' => ?_, fun hn o' es' ep' hx' hd' hr' => ?_⟩
  · rw [hx] at h2
    exact h2 v' H2 U2 rep (SX.refl _ _) (fun a z => z) (fun z => by cases z) hv'
  · rw [hn] at h2
    dsimp only at h2
    by_cases hok : dOk (putN kvs kd d) = true
    · rw [if_pos hok] at h2
      obtain ⟨w1, w2⟩ := rep.modD q2 g1 q4 hx' hd' hr' hok
      exact h2 u _ U2 w1 w2 (fun a z => z) (fun z => by cases z) (R.sx w2 r2)
    · rw [if_neg hok] at h2; exact h2.elim
end
end DI
set_option Elab.async false
set_option linter.all false
set_option maxRecDepth 100000
set_option maxHeartbeats 4000000
/-! from the text's expressions to the small language, and that it is right -/
namespace DI
open PySem PySem.Spec PyProof.Rows L2
/-- what is known of the module: constants; functions with (new answers, number of parameters); built-ins that are still so -/
structure GI where
  consts : List (Str × D)
  fns : List (Str × Bool × List PKd)
  blt : List String
def slotOf (N : List Str) (x : Str) : Option Nat := let i := N.findIdx (· == x); if N[i]? = some x then some i else none
theorem slotOf_some {N : List Str} {x : Str} {i : Nat} (h : slotOf N x = some i) : N[i]? = some x := by
  unfold slotOf at h
  simp only at h
  split at h
  · cases h; assumption
  · cases h
def isVis (sc : Scope) (x : Str) : Bool := match sc.names.lookup x with
  | some .local | some .cell | some .free => true
  | _ => false
def isGl (sc : Scope) (x : Str) : Bool := match sc.names.lookup x with
  | some .globalImplicit => true
  | _ => false
def okNm (x : Str) : Bool := !(x == ("__debug__" : Str)) && !(x == ("__classdict__" : Str))
def tg1 (F : Str → Bool) (N : List Str) (sc : Scope) : Expr → Option Nat
  | .Name x _ => match sc.names.lookup x with
    | some .local => slotOf N x
    | some .cell => if F x = true then slotOf N x else none
    | _ => none
  | _ => none
def tgs (f : Expr → Option Nat) : List Expr → Option (List Nat)
  | [] => some []
  | e :: es => (f e).bind fun i => (tgs f es).bind fun is => some (i :: is)
def compTg (F : Str → Bool) (N : List Str) (sc : Scope) : Expr → Option (List Nat × Bool)
  | .Name x p => (tg1 F N sc (.Name x p)).map fun i => ([i], false)
  | .Tuple es _ _ => (tgs (tg1 F N sc) es).map fun is => (is, true)
  | _ => none
def ownOf (N : List Str) (scope : Scope) : List (Str × Nat) := scope.names.filterMap fun y => match y.2 with
  | .local | .cell => (slotOf N y.1).map fun i => (y.1, i)
  | _ => none
def isTup : Expr → Bool
  | .Tuple _ _ _ => true
  | _ => false
def compO (f : Expr → Option CE) : Option Expr → Option CO
  | none => some .no
  | some e => (f e).map .so
def compIf (f : Expr → Option CE) : List Expr → Option CO
  | [] => some .no
  | [e] => (f e).map .so
  | _ => none
def compI (f : Expr → Option CE) (G : GI) (sc : Scope) (isT : Bool) (e : Expr) : Option CI := match e with
  | .Call (.Name x _) args [] _ =>
    if x = ("range" : Str) then (if isGl sc x && G.blt.contains "range" then match args with
      | [a] => (f a).map .rng1
      | [a, b] => (f a).bind fun ca => (f b).bind fun cb => some (.rng2 ca cb)
      | _ => none else none)
    else if x = ("zip" : Str) then (if isGl sc x && G.blt.contains "zip" && isT then match args with
      | [a, b] => (f a).bind fun ca => (f b).bind fun cb => some (.zip ca cb)
      | _ => none else none)
    else if x = ("enumerate" : Str) then (if isGl sc x && G.blt.contains "enumerate" && isT then match args with
      | [a] => (f a).map .enm
      | _ => none else none)
    else (f e).map .val
  | _ => (f e).map .val
def findT (t : Str) : Option String := isiTs.find? fun u => Str.ofString u == t
def findB (t : Str) : Option (String × Bool) := bltK.find? fun u => Str.ofString u.1 == t
/-- no call of super -/
def plainB : Expr → Bool
  | .Call _ [] _ _ => false
  | _ => true
def nmOf : Expr → Option Str
  | .Name x _ => some x
  | _ => none
/-- a slot by its name -/
def slotN (N : List Str) (sc : Scope) (e : Expr) : Option Nat := (nmOf e).bind fun x => if okNm x && isVis sc x then slotOf N x else none
def compAs (f : Expr → Option CE) (N : List Str) (sc : Scope) : List PKd → List Expr → Option CL
  | [], [] => some .nil
  | .a :: ks, e :: es => (f e).bind fun c => (compAs f N sc ks es).map (.cons c)
  | .s :: ks, e :: es => (slotN N sc e).bind fun i => (compAs f N sc ks es).map (.io i)
  | .p :: ks, e :: es => match slotN N sc e with
    | some i => (compAs f N sc ks es).map (.pk i)
    | none => (f e).bind fun c => (compAs f N sc ks es).map (.cons c)
  | _, _ => none
def compCall (f : Expr → Option CE) (N : List Str) (sc : Scope) (x : Str) (fr : Bool) (ks : List PKd) (e0 : Expr) (es : List Expr) : Option CE := match ks, slotN N sc e0 with
  | .s :: ks', none => (f e0).bind fun c0 => if freshE c0 = true then (compAs f N sc ks' es).map (.callF x fr c0) else none
  | _, _ => (compAs f N sc ks (e0 :: es)).map (.call x fr)
def comp (G : GI) (N : List Str) : Nat → (Str → Bool) → Scope → Expr → Option CE
  | 0, _, _, _ => none
  | n + 1, F, sc, e => match e with
    | .Constant c _ _ => (match c with
      | .none => some (.cst .none)
      | .bool b => some (.cst (.bool b))
      | .int i => some (.cst (.int i))
      | .str s => some (.cst (.str s))
      | _ => none)
    | .Name x _ => if okNm x then (if isVis sc x then (slotOf N x).map .var else if isGl sc x then (G.consts.lookup x).map .gl else none) else none
    | .Tuple es _ _ => (compLs (comp G N n F sc) es).map .tup
    | .List es _ => (compLs (comp G N n F sc) es).map .lst
    | .Dict [] [] _ => some .dic0
    | .BinOp a op b _ => (comp G N n F sc a).bind fun ca => (comp G N n F sc b).bind fun cb => some (.bin op ca cb)
    | .UnaryOp op a _ => (match op with
      | .USub => (comp G N n F sc a).map .neg
      | .Not => (comp G N n F sc a).map .not_
      | _ => none)
    | .BoolOp op es _ => compB op (comp G N n F sc) es
    | .Compare a ops bs _ => (match ops, bs with
      | [op], [b] => if behindInMarks op b then none else (comp G N n F sc a).bind fun ca => (comp G N n F sc b).bind fun cb => some (.cmp op ca cb)
      | [o1, o2], [b, c] => if lastMarks [o1, o2] [b, c] then none else (comp G N n F sc a).bind fun ca => (comp G N n F sc b).bind fun cb => (comp G N n F sc c).bind fun cc => some (.chn o1 o2 ca cb cc)
      | _, _ => none)
    | .IfExp c a b _ => (comp G N n F sc c).bind fun cc => (comp G N n F sc a).bind fun ca => (comp G N n F sc b).bind fun cb => some (.ife cc ca cb)
    | .Call f args kws cpos => (match f, args, kws with
      | .Name x _, e0 :: es, [] => if okNm x && isGl sc x then (match G.fns.lookup x with
          | some fr => compCall (comp G N n F sc) N sc x fr.1 fr.2 e0 es
          | none => if x = ("isinstance" : Str) then (match es with
              | [.Name t _] => (match findT t with
                | some u => if isGl sc t && G.blt.contains u && G.blt.contains "isinstance" then (comp G N n F sc e0).map fun c => .isi c u else none
                | none => none)
              | _ => none)
            else match findB x with
              | some p => if G.blt.contains p.1 then (compLs (comp G N n F sc) (e0 :: es)).map (.bi p.1) else none
              | none => none) else none
      | .Name x _, [e0], [⟨some key, .Name y _, _⟩] => if x = ("sorted" : Str) ∧ key = Str.ofString "key" then (if okNm y && (isGl sc y && (isGl sc x && G.blt.contains "sorted")) then (match G.fns.lookup y with
          | some (_, [.a]) => (comp G N n F sc e0).map (.srt y)
          | _ => none) else none) else none
      | .Attribute o mm ap, [e0], [] => if mm = ("get" : Str) ∧ plainB o = true ∧ (ap.endLine == cpos.line) = true then (comp G N n F sc o).bind fun co => (compLs (comp G N n F sc) [e0]).map (.mget co)
        else if mm = ("pop" : Str) ∧ (ap.endLine == cpos.line) = true then (slotN N sc o).bind fun i => (comp G N n F sc e0).map (.pop1 i)
        else if mm = ("join" : Str) ∧ plainB o = true ∧ (ap.endLine == cpos.line) = true then (comp G N n F sc o).bind fun co => (comp G N n F sc e0).map (.joi co) else none
      | .Attribute o mm ap, [e0, e1], [] => if mm = ("get" : Str) ∧ plainB o = true ∧ (ap.endLine == cpos.line) = true then (comp G N n F sc o).bind fun co => (compLs (comp G N n F sc) [e0, e1]).map (.mget co)
        else if mm = ("setdefault" : Str) ∧ (ap.endLine == cpos.line) = true then (slotN N sc o).bind fun i => (comp G N n F sc e0).bind fun c0 => (comp G N n F sc e1).map (.setd i c0) else none
      | .Attribute o mm ap, [], [] => if mm = ("pop" : Str) ∧ (ap.endLine == cpos.line) = true then (slotN N sc o).map .pop0 else none
      | _, _, _ => none)
    | .Subscript a b _ => (match b with
      | .Slice none none (some (.UnaryOp .USub (.Constant (.int 1) _ _) _)) _ => (comp G N n F sc a).map .rev
      | .Slice lo hi none _ => (comp G N n F sc a).bind fun ca => (compO (comp G N n F sc) lo).bind fun cl => (compO (comp G N n F sc) hi).bind fun ch => some (.slc ca cl ch)
      | b => (comp G N n F sc a).bind fun ca => (comp G N n F sc b).bind fun cb => some (.ix ca cb))
    | .ListComp elt gens scope _ => (match gens with
      | [⟨tg, iter, ifs, 0⟩] =>
        let own := ownOf N scope
        let F' : Str → Bool := fun x => scope.names.lookup x == some .cell
        let sc' := relS scope sc
        if blkC N sc scope own then (compTg F' N sc' tg).bind fun t => if (t.1.all fun i => (own.map (·.2)).contains i) then
          (compI (comp G N n F sc) G sc t.2 iter).bind fun ci => (compIf (comp G N n F' sc') ifs).bind fun cifs => (comp G N n F' sc' elt).bind fun ce => some (.lc (own.map (·.2)) t.1 t.2 ci cifs ce) else none
        else none
      | _ => none)
    | _ => none
end DI
set_option Elab.async false
set_option linter.all false
set_option maxRecDepth 100000
set_option maxHeartbeats 4000000
/-! the expressions that comp takes -/
namespace DI
open PySem PySem.Spec PyProof.Rows L2
section
variable {G : GI} {N : List Str} {F : Str → Bool} {sc : Scope} {n : Nat} {e : Expr} {c : CE}
theorem comp_zero (h : comp G N 0 F sc e = some c) : False := by
  unfold comp at h
  cases h
theorem comp_star (h : comp G N n F sc e = some c) (es : List Expr) (env : Env) : starEach (e :: es) env = (false, eval e env) :: starEach es env := by
  cases n with
  | zero => exact (comp_zero h).elim
  | succ n =>
    cases e <;> first
      | rfl
      | (unfold comp at h; cases h)
theorem comp_ix (h : comp G N n F sc e = some c) : PlainIx e := by
  cases n with
  | zero => exact (comp_zero h).elim
  | succ n =>
    cases e <;> first
      | exact fun _ _ => rfl
      | (unfold comp at h; cases h)
theorem comp_fold (h : comp G N n F sc e = some c) (env : Env) (x : Value) : foldedSetIterable e env x = pure x := by
  cases n with
  | zero => exact (comp_zero h).elim
  | succ n =>
    cases e <;> first
      | rfl
      | (unfold comp at h; cases h)
theorem compI_fold {isT : Bool} {ci : CI} (h : compI (comp G N n F sc) G sc isT e = some ci) (env : Env) (x : Value) : foldedSetIterable e env x = pure x := by
  cases e <;> first
    | rfl
    | (simp only [compI, Option.map_eq_some_iff] at h
       obtain ⟨c, h1, _⟩ := h
       exact comp_fold h1 env x)
theorem plainB_ok {o : Expr} {mm : Str} {env : Env} {w : Sem Value} (h : plainB o = true) : attributeBase o mm env w = w := by
  cases o with
  | Call f args kws pos =>
    cases args with
    | nil => simp [plainB] at h
    | cons a as => cases f <;> rfl
  | _ => rfl
theorem comps_any {env : Env} {pos : Pos} : ∀ {es : List Expr} {cl : CL}, compLs (comp G N n F sc) es = some cl → (backTo pos (starEach es env)).any (·.1) = false
  | [], _, _ => rfl
  | e :: es, cl, h => by
    simp only [compLs] at h
    obtain ⟨c1, e1, h⟩ := Option.bind_eq_some_iff.mp h
    obtain ⟨c2, e2, h⟩ := Option.bind_eq_some_iff.mp h
    rw [comp_star e1]
    have ih := comps_any (env := env) (pos := pos) e2
    show ((false, _) :: backTo pos (starEach es env)).any (·.1) = false
    rw [List.any_cons, ih]
    rfl
theorem isGl_lookup {x : Str} (h : isGl sc x = true) : sc.names.lookup x = some .globalImplicit := by
  unfold isGl at h
  split at h
  · assumption
  · cases h
theorem isVis_vis {x : Str} (h : isVis sc x = true) : Vis sc x := by
  unfold isVis at h
  split at h
  · rename_i e; exact .inl e
  · rename_i e; exact .inr (.inl e)
  · rename_i e; exact .inr (.inr e)
  · cases h
theorem okNm_of {x : Str} (h : okNm x = true) : (x == ("__debug__" : Str)) = false ∧ (x == ("__classdict__" : Str)) = false := by
  unfold okNm at h
  simpa using h
end
/-- the context is as comp takes it -/
structure Fits (X : Cx) (G : GI) (F : Str → Bool) (N : List Str) (sc : Scope) (k : Nat) (cf : Str → List D → CR) (Wx : WX) : Prop where
  N : X.N = N
  sc : X.env.scope = sc
  F : X.fn = F
  nd : X.N.Nodup
  calm : X.calm = true
  room1 : Room (k + 1) X.A
  tk : Takes X Wx
  consts : ∀ x d, G.consts.lookup x = some d → ∃ u v, X.mg x = some u ∧ RelV v u ∧ R (X.K, X.w) (fun _ => none) (fun _ => False) d v
  blt : ∀ t ∈ G.blt, X.mg (Str.ofString t) = none
  fns : ∀ x fr ks, G.fns.lookup x = some (fr, ks) → FnGood X k cf x fr ks
section
variable {X : Cx} {Wx : WX} {G : GI} {N : List Str} {F : Str → Bool} {sc : Scope} {k : Nat} {cf : Str → List D → CR}
theorem Fits.room (f : Fits X G F N sc k cf Wx) : Room k X.A := f.room1.mono (Nat.le_succ k)
theorem Fits.blk (f : Fits X G F N sc k cf Wx) (s : Shared) (H : Hp) (scope : Scope) (C : Addr) (cl : List (Str × Addr)) (fp : List Addr) :
    Fits (X.blk s H scope (compEnvC scope cl C X.env) fp) G (fun x => scope.names.lookup x == some .cell) N (relS scope sc) k cf (fun _ _ _ _ => False) :=
  ⟨f.N, by rw [← f.sc]; rfl, rfl, f.nd, f.calm, f.room1, takes0, f.consts, f.blt, fun x fr ar h => ⟨(f.fns x fr ar h).ex, (f.fns x fr ar h).db⟩⟩
theorem Fits.gl (f : Fits X G F N sc k cf Wx) {x : Str} (h : isGl sc x = true) : Gl X x := by
  show X.env.scope.names.lookup x = _
  rw [f.sc]
  exact isGl_lookup h
theorem tg1_ok (f : Fits X G F N sc k cf Wx) {e : Expr} {i : Nat} (h : tg1 F N sc e = some i) : TgOk X e i := by
  cases e <;> simp only [tg1] at h <;> first | cases h | skip
  rename_i x pos
  split at h
  · rename_i e1
    exact ⟨x, pos, rfl, by rw [f.N]; exact slotOf_some h, .inl (by rw [f.sc]; exact e1), .inr (by rw [f.sc]; exact e1)⟩
  · rename_i e1
    split at h
    · rename_i hF
      exact ⟨x, pos, rfl, by rw [f.N]; exact slotOf_some h, .inr (by rw [f.sc]; exact e1), .inl (by rw [f.F]; exact hF)⟩
    · cases h
  · cases h
theorem tgs_ok (f : Fits X G F N sc k cf Wx) : ∀ {es : List Expr} {is : List Nat}, tgs (tg1 F N sc) es = some is → Paired (TgOk X) es is
  | [], is, h => by
    simp only [tgs, Option.some.injEq] at h
    subst h
    exact .nil
  | e :: es, is, h => by
    simp only [tgs] at h
    obtain ⟨i, e1, h⟩ := Option.bind_eq_some_iff.mp h
    obtain ⟨is', e2, h⟩ := Option.bind_eq_some_iff.mp h
    cases h
    exact .cons (tg1_ok f e1) (tgs_ok f e2)
theorem compTg_ok (f : Fits X G F N sc k cf Wx) {e : Expr} {t : List Nat × Bool} (h : compTg F N sc e = some t) : PG X e (gD X t.1 t.2) := by
  cases e <;> simp only [compTg] at h <;> first | cases h | skip
  · obtain ⟨i, e1, h⟩ := Option.map_eq_some_iff.mp h
    subst h
    obtain ⟨x, pos, ex, a, b, c⟩ := (tg1_ok f e1).ex
    cases ex
    exact g_name f.nd a b c
  · obtain ⟨i, e1, h⟩ := Option.map_eq_some_iff.mp h
    subst h
    exact g_tup f.calm f.nd (tgs_ok f e1)
theorem compTg_tup {e : Expr} {t : List Nat × Bool} (h : compTg F N sc e = some t) (ht : t.2 = true) : ∃ es kk pos, e = .Tuple es kk pos := by
  cases e <;> simp only [compTg] at h <;> first | cases h | skip
  · obtain ⟨i, e1, h⟩ := Option.map_eq_some_iff.mp h
    subst h
    cases ht
  · exact ⟨_, _, _, rfl⟩
theorem nmOf_some {e : Expr} {x : Str} (h : nmOf e = some x) : ∃ p, e = .Name x p := by
  cases e <;> simp only [nmOf] at h <;> first | cases h | skip
  exact ⟨_, rfl⟩
theorem slotN_ok (f : Fits X G F N sc k cf Wx) {e : Expr} {i : Nat} (h : slotN N sc e = some i) : ∃ x p, e = .Name x p ∧ X.N[i]? = some x ∧ Vis X.env.scope x ∧ (x == ("__debug__" : Str)) = false ∧ (x == ("__classdict__" : Str)) = false := by
  unfold slotN at h
  obtain ⟨x, e1, h2⟩ := Option.bind_eq_some_iff.mp h
  obtain ⟨p, rfl⟩ := nmOf_some e1
  split at h2
  · rename_i hq
    rw [Bool.and_eq_true] at hq
    obtain ⟨d1, d2⟩ := okNm_of hq.1
    exact ⟨x, p, rfl, by rw [f.N]; exact slotOf_some h2, by rw [f.sc]; exact isVis_vis hq.2, d1, d2⟩
  · cases h2
theorem slotN_star {e : Expr} {i : Nat} (h : slotN N sc e = some i) (es : List Expr) (env : Env) : starEach (e :: es) env = (false, eval e env) :: starEach es env := by
  unfold slotN at h
  obtain ⟨x, e1, h⟩ := Option.bind_eq_some_iff.mp h
  obtain ⟨p, rfl⟩ := nmOf_some e1
  rfl
theorem compAs_star {n : Nat} : ∀ {ks : List PKd} {e : Expr} {es : List Expr} {cl : CL}, compAs (comp G N n F sc) N sc ks (e :: es) = some cl → ∀ env, starEach (e :: es) env = (false, eval e env) :: starEach es env ∧ ∃ ks' cl', compAs (comp G N n F sc) N sc ks' es = some cl' := by
  intro ks e es cl h env
  cases ks with
  | nil => simp [compAs] at h
  | cons kd ks =>
    cases kd with
    | a =>
      simp only [compAs] at h
      obtain ⟨c, e1, h⟩ := Option.bind_eq_some_iff.mp h
      obtain ⟨cl', e2, _⟩ := Option.map_eq_some_iff.mp h
      exact ⟨comp_star e1 es env, ks, cl', e2⟩
    | s =>
      simp only [compAs] at h
      obtain ⟨i, e1, h⟩ := Option.bind_eq_some_iff.mp h
      obtain ⟨cl', e2, _⟩ := Option.map_eq_some_iff.mp h
      exact ⟨slotN_star e1 es env, ks, cl', e2⟩
    | p =>
      simp only [compAs] at h
      split at h
      · rename_i i e1
        obtain ⟨cl', e2, _⟩ := Option.map_eq_some_iff.mp h
        exact ⟨slotN_star e1 es env, ks, cl', e2⟩
      · obtain ⟨c, e1, h⟩ := Option.bind_eq_some_iff.mp h
        obtain ⟨cl', e2, _⟩ := Option.map_eq_some_iff.mp h
        exact ⟨comp_star e1 es env, ks, cl', e2⟩
theorem compAs_any {n : Nat} {env : Env} {pos : Pos} : ∀ {es : List Expr} {ks : List PKd} {cl : CL}, compAs (comp G N n F sc) N sc ks es = some cl → (backTo pos (starEach es env)).any (·.1) = false
  | [], _, _, _ => rfl
  | e :: es, ks, cl, h => by
    obtain ⟨h1, ks', cl', h2⟩ := compAs_star h env
    rw [h1]
    have ih := compAs_any (env := env) (pos := pos) h2
    show ((false, _) :: backTo pos (starEach es env)).any (·.1) = false
    rw [List.any_cons, ih]
    rfl
theorem compAs_ok (f : Fits X G F N sc k cf Wx) {n : Nat} (hf : ∀ e c, comp G N n F sc e = some c → E3 cf X Wx e c) : ∀ {ks : List PKd} {es : List Expr} {cl : CL}, compAs (comp G N n F sc) N sc ks es = some cl → PA X es (tA cf X Wx cl) ∧ fitK ks (ioOf cl) = true
  | [], [], cl, h => by
    simp only [compAs, Option.some.injEq] at h
    subst h
    exact ⟨pa_Anil, rfl⟩
  | [], _ :: _, cl, h => by simp [compAs] at h
  | kd :: ks, [], cl, h => by cases kd <;> simp [compAs] at h
  | .a :: ks, e :: es, cl, h => by
    simp only [compAs] at h
    obtain ⟨c, e1, h⟩ := Option.bind_eq_some_iff.mp h
    obtain ⟨cl', e2, h⟩ := Option.map_eq_some_iff.mp h
    subst h
    obtain ⟨q1, q2⟩ := compAs_ok f hf e2
    exact ⟨pa_Acons (hf _ _ e1) q1 (comp_star e1 es _), q2⟩
  | .s :: ks, e :: es, cl, h => by
    simp only [compAs] at h
    obtain ⟨i, e1, h⟩ := Option.bind_eq_some_iff.mp h
    obtain ⟨cl', e2, h⟩ := Option.map_eq_some_iff.mp h
    subst h
    obtain ⟨q1, q2⟩ := compAs_ok f hf e2
    obtain ⟨x, p, rfl, g1, g2, g3, g4⟩ := slotN_ok f e1
    exact ⟨pa_Aio g1 g2 g3 g4 q1, q2⟩
  | .p :: ks, e :: es, cl, h => by
    simp only [compAs] at h
    split at h
    · rename_i i e1
      obtain ⟨cl', e2, h⟩ := Option.map_eq_some_iff.mp h
      subst h
      obtain ⟨q1, q2⟩ := compAs_ok f hf e2
      obtain ⟨x, p, rfl, g1, g2, g3, g4⟩ := slotN_ok f e1
      exact ⟨pa_Apk g1 g2 g3 g4 q1, q2⟩
    · obtain ⟨c, e1, h⟩ := Option.bind_eq_some_iff.mp h
      obtain ⟨cl', e2, h⟩ := Option.map_eq_some_iff.mp h
      subst h
      obtain ⟨q1, q2⟩ := compAs_ok f hf e2
      exact ⟨pa_Acons (hf _ _ e1) q1 (comp_star e1 es _), q2⟩
theorem t_ife {c a b : Expr} {cc ca cb : CE} {pos : Pos} (hc : T3 cf X Wx c cc) (ha : T3 cf X Wx a ca) (hb : T3 cf X Wx b cb) : T3 cf X Wx (.IfExp c a b pos) (.ife cc ca cb) := by
  have key : PT X (.IfExp c a b pos) (fun σ H Q => (∃ ρ, tB X Wx (pureE cc) ρ (evalB cf cc ρ) σ H fun k H1 => if k = true then (∃ ρ, tB X Wx (pureE ca) ρ (evalB cf ca ρ) σ H1 Q) else ∃ ρ, tB X Wx (pureE cb) ρ (evalB cf cb ρ) σ H1 Q)) := by
    refine ⟨fun pins s σ H Q I h => isTrue_IfExp (thn (hc.run pins s σ H _ I h) fun k s1 ⟨H1, I1, q1⟩ => ?_)⟩
    cases k with
    | true => exact ha.run pins s1 σ H1 Q I1 q1
    | false => exact hb.run pins s1 σ H1 Q I1 q1
  refine PT.imp key fun σ H Q ⟨ρ, Φ, U, h⟩ => ?_
  simp only [evalB_ife, pureE] at h
  refine ⟨ρ, Φ, U, h.bind rEq.mono (p2 := pureE ca && pureE cb) and2 fun x ρ1 v H1 U1 l1 s1 e1 r1 h1 => ?_⟩
  have r1 : x = v := r1
  subst r1
  split <;> rename_i hk
  · rw [if_pos hk] at h1
    exact ⟨ρ1, Φ, U1, h1.mp fun z => (and2 z).1⟩
  · rw [if_neg hk] at h1
    exact ⟨ρ1, Φ, U1, h1.mp fun z => (and2 z).2⟩
theorem findT_some {t : Str} {u : String} (h : findT t = some u) : u ∈ isiTs ∧ t = Str.ofString u := by
  unfold findT at h
  have h1 := List.find?_some h
  exact ⟨List.mem_of_find?_eq_some h, (by simpa using h1 : Str.ofString u = t).symm⟩
theorem findB_some {t : Str} {u : String × Bool} (h : findB t = some u) : u ∈ bltK ∧ t = Str.ofString u.1 := by
  unfold findB at h
  have h1 := List.find?_some h
  exact ⟨List.mem_of_find?_eq_some h, (by simpa using h1 : Str.ofString u.1 = t).symm⟩
end
end DI
set_option Elab.async false
set_option linter.all false
set_option maxRecDepth 100000
set_option maxHeartbeats 8000000
/-! comp is right -/
namespace DI
open PySem PySem.Spec PyProof.Rows L2
section
variable {G : GI} {N : List Str} {k : Nat} {cf : Str → List D → CR}
theorem compO_ok {X : Cx} {Wx : WX} {f : Expr → Option CE} (hf : ∀ e c, f e = some c → E3 cf X Wx e c) {o : Option Expr} {co : CO} (h : compO f o = some co) : O3 cf X Wx o co := by
  cases o with
  | none => simp only [compO, Option.some.injEq] at h; subst h; exact o_no
  | some e =>
    simp only [compO, Option.map_eq_some_iff] at h
    obtain ⟨c, h1, h2⟩ := h
    subst h2
    exact o_so (hf e c h1)
theorem compI_ok {X : Cx} {Wx : WX} {F : Str → Bool} {sc : Scope} {n : Nat} (ft : Fits X G F N sc k cf Wx) (hf : ∀ e c, comp G N n F sc e = some c → E3 cf X Wx e c) {isT : Bool} {tg e : Expr} {ci : CI} (htg : isT = true → ∃ es kk pos, tg = .Tuple es kk pos)
    (h : compI (comp G N n F sc) G sc isT e = some ci) : I3 cf X Wx tg e ci := by
  have val : ∀ {e : Expr} {ci : CI}, Option.map CI.val (comp G N n F sc e) = some ci → I3 cf X Wx tg e ci := fun {e ci} h => by
    obtain ⟨c, h1, h2⟩ := Option.map_eq_some_iff.mp h
    subst h2
    exact i_val (hf _ c h1)
  unfold compI at h
  split at h
  · rename_i x p args pos
    split at h
    · rename_i hx
      subst hx
      split at h
      · rename_i hg
        rw [Bool.and_eq_true] at hg
        have hm : X.mg ("range" : Str) = none := ft.blt "range" (by simpa using hg.2)
        split at h
        · obtain ⟨c, h1, h2⟩ := Option.map_eq_some_iff.mp h
          subst h2
          exact i_rng1 (ft.gl hg.1) hm (hf _ c h1) (comp_star h1 [] _)
        · obtain ⟨c1, h1, h⟩ := Option.bind_eq_some_iff.mp h
          obtain ⟨c2, h2, h⟩ := Option.bind_eq_some_iff.mp h
          cases h
          exact i_rng2 (ft.gl hg.1) hm (hf _ c1 h1) (hf _ c2 h2) (by rw [comp_star h1, comp_star h2]; rfl) (comp_star h2 [] _)
        · cases h
      · cases h
    · split at h
      · rename_i _ hx
        subst hx
        split at h
        · rename_i hg
          rw [Bool.and_eq_true, Bool.and_eq_true] at hg
          have hm : X.mg ("zip" : Str) = none := ft.blt "zip" (by simpa using hg.1.2)
          obtain ⟨es, kk, tpos, rfl⟩ := htg hg.2
          split at h
          · obtain ⟨c1, h1, h⟩ := Option.bind_eq_some_iff.mp h
            obtain ⟨c2, h2, h⟩ := Option.bind_eq_some_iff.mp h
            cases h
            exact i_zip (ft.gl hg.1.1) hm (hf _ c1 h1) (hf _ c2 h2) (comp_star h1 _ _) (comp_star h2 [] _) (by rw [comp_star h2]; rfl)
          · cases h
        · cases h
      · split at h
        · rename_i _ _ hx
          subst hx
          split at h
          · rename_i hg
            rw [Bool.and_eq_true, Bool.and_eq_true] at hg
            have hm : X.mg ("enumerate" : Str) = none := ft.blt "enumerate" (by simpa using hg.1.2)
            obtain ⟨es, kk, tpos, rfl⟩ := htg hg.2
            split at h
            · obtain ⟨c1, h1, h⟩ := Option.map_eq_some_iff.mp h
              subst h
              exact i_enm (ft.gl hg.1.1) hm (hf _ c1 h1) (comp_star h1 [] _)
            · cases h
          · cases h
        · exact val h
  · exact val h
theorem compIf_ok {X : Cx} {Wx : WX} {f : Expr → Option CE} (hf : ∀ e c, f e = some c → T3 cf X Wx e c) {ifs : List Expr} {co : CO} (h : compIf f ifs = some co) : PTs X ifs (fun σ H Q => ∃ ρ, tB X Wx (pureO co) ρ (evalT cf co ρ) σ H Q) := by
  match ifs with
  | [] =>
    simp only [compIf, Option.some.injEq] at h
    subst h
    exact PTs.imp pts_nil fun σ H Q ⟨ρ, Φ, U, h⟩ => h.ok (Same.refl _) rfl
  | [e] =>
    simp only [compIf, Option.map_eq_some_iff] at h
    obtain ⟨c, h1, h2⟩ := h
    subst h2
    exact PTs.imp (pts_one (hf e c h1)) fun σ H Q ⟨ρ, h⟩ => ⟨ρ, h⟩
  | _ :: _ :: _ => simp [compIf] at h
theorem comp_ok : ∀ (n : Nat) (X : Cx) (Wx : WX) (F : Str → Bool) (sc : Scope) (e : Expr) (c : CE), Fits X G F N sc k cf Wx → comp G N n F sc e = some c → E3 cf X Wx e c ∧ T3 cf X Wx e c := by
  intro n
  induction n with
  | zero => intro X Wx F sc e c ft h; exact (comp_zero h).elim
  | succ n ih =>
    intro X Wx F sc e c ft h
    have h3 : ∀ e c, comp G N n F sc e = some c → E3 cf X Wx e c := fun e c h => (ih X Wx F sc e c ft h).1
    have t3 : ∀ e c, comp G N n F sc e = some c → T3 cf X Wx e c := fun e c h => (ih X Wx F sc e c ft h).2
    have PLs : ∀ {es : List Expr} {cl : CL}, compLs (comp G N n F sc) es = some cl → PA X es (tL cf X Wx cl) := fun {es cl} h => pa_L h3 (fun e c h es => comp_star h es _) es cl h
    have PPs : ∀ {es : List Expr} {cl : CL}, compLs (comp G N n F sc) es = some cl → PA X es (tPL cf X Wx cl) := fun {es cl} h => pa_PL h3 (fun e c h es => comp_star h es _) es cl h
    have pl : ∀ {e : Expr} {c : CE}, (∀ whole, isTrue e X.env whole = (do let v ← whole; standAt e.pos; holding [v] (truthy v))) → E3 cf X Wx e c → E3 cf X Wx e c ∧ T3 cf X Wx e c := fun {e c} he q => ⟨q, T3.plain q he⟩
    unfold comp at h
    cases e with
    | Constant cc j pos =>
      refine pl (fun _ => rfl) ?_
      cases cc <;> simp only [Option.some.injEq] at h <;> first | (subst h) | cases h
      · exact e_non
      · exact e_bool
      · exact e_int
      · exact e_str
    | Name x pos =>
      refine pl (fun _ => rfl) ?_
      simp only at h
      split at h
      · rename_i hn
        obtain ⟨d1, d2⟩ := okNm_of hn
        split at h
        · rename_i hv
          obtain ⟨i, h1, h2⟩ := Option.map_eq_some_iff.mp h
          subst h2
          exact e_var (by rw [ft.N]; exact slotOf_some h1) (by rw [ft.sc]; exact isVis_vis hv) d1 d2
        · split at h
          · rename_i hg
            obtain ⟨d, h1, h2⟩ := Option.map_eq_some_iff.mp h
            subst h2
            obtain ⟨u, v, m1, m2, m3⟩ := ft.consts x d h1
            exact e_gl (ft.gl hg) m1 m2 m3 d1
          · cases h
      · cases h
    | Tuple es kk pos =>
      refine pl (fun _ => rfl) ?_
      obtain ⟨cl, h1, h2⟩ := Option.map_eq_some_iff.mp h
      subst h2
      exact e_tup (PLs h1)
    | List es pos =>
      refine pl (fun _ => rfl) ?_
      obtain ⟨cl, h1, h2⟩ := Option.map_eq_some_iff.mp h
      subst h2
      exact e_lst (PLs h1)
    | Dict ks vs pos =>
      refine pl (fun _ => rfl) ?_
      cases ks <;> cases vs <;> simp only at h <;> first | cases h | skip
      exact e_dic
    | BinOp a op b pos =>
      refine pl (fun _ => rfl) ?_
      obtain ⟨ca, h1, h⟩ := Option.bind_eq_some_iff.mp h
      obtain ⟨cb, h2, h⟩ := Option.bind_eq_some_iff.mp h
      cases h
      exact e_bin ft.room (h3 _ _ h1) (h3 _ _ h2)
    | UnaryOp op a pos =>
      cases op <;> simp only at h <;> first | cases h | skip
      · obtain ⟨ca, h1, h2⟩ := Option.map_eq_some_iff.mp h
        subst h2
        exact ⟨e_not (h3 _ _ h1), t_not (t3 _ _ h1)⟩
      · refine pl (fun _ => rfl) ?_
        obtain ⟨ca, h1, h2⟩ := Option.map_eq_some_iff.mp h
        subst h2
        exact e_neg (h3 _ _ h1)
    | BoolOp op es pos =>
      obtain ⟨q1, q2⟩ := boolop_ok (op := op) (pos := pos) (fun e c h => ⟨h3 e c h, t3 e c h⟩) es c h
      exact ⟨q1, q2.pt⟩
    | Compare a ops bs pos =>
      simp only at h
      split at h
      · split at h
        · cases h
        · rename_i hb
          obtain ⟨ca, h1, h⟩ := Option.bind_eq_some_iff.mp h
          obtain ⟨cb, h2, h⟩ := Option.bind_eq_some_iff.mp h
          cases h
          have hb' := Bool.eq_false_iff.mpr hb
          exact ⟨e_cmp ft.room hb' (h3 _ _ h1) (h3 _ _ h2), t_cmp ft.room hb' (h3 _ _ h1) (h3 _ _ h2)⟩
      · split at h
        · cases h
        · rename_i hb
          obtain ⟨ca, h1, h⟩ := Option.bind_eq_some_iff.mp h
          obtain ⟨cb, h2, h⟩ := Option.bind_eq_some_iff.mp h
          obtain ⟨cc, h4, h⟩ := Option.bind_eq_some_iff.mp h
          cases h
          have hb' := Bool.eq_false_iff.mpr hb
          exact ⟨e_chn ft.room hb' (h3 _ _ h1) (h3 _ _ h2) (h3 _ _ h4), t_chn ft.room hb' (h3 _ _ h1) (h3 _ _ h2) (h3 _ _ h4)⟩
      · cases h
    | IfExp a b d pos =>
      obtain ⟨ca, h1, h⟩ := Option.bind_eq_some_iff.mp h
      obtain ⟨cb, h2, h⟩ := Option.bind_eq_some_iff.mp h
      obtain ⟨cc, h4, h⟩ := Option.bind_eq_some_iff.mp h
      cases h
      exact ⟨e_ife (t3 _ _ h1) (h3 _ _ h2) (h3 _ _ h4), t_ife (t3 _ _ h1) (t3 _ _ h2) (t3 _ _ h4)⟩
    | Call f args kws pos =>
      refine pl (fun _ => rfl) ?_
      simp only at h
      split at h
      · rename_i x p e0 es
        split at h
        · rename_i hg
          rw [Bool.and_eq_true] at hg
          split at h
          · rename_i fr hfr
            obtain ⟨fr1, ks⟩ := fr
            unfold compCall at h
            split at h
            · rename_i ks0 o0 ks' e9 e10
              dsimp only at e9
              subst e9
              obtain ⟨c0, h0, h⟩ := Option.bind_eq_some_iff.mp h
              split at h
              · rename_i hfe
                obtain ⟨cl, h1, h2⟩ := Option.map_eq_some_iff.mp h
                subst h2
                obtain ⟨q1, q2⟩ := compAs_ok ft h3 h1
                exact e_callF ft.tk ft.room (ft.gl hg.2) (ft.fns x fr1 _ hfr) q2 hfe (h3 _ _ h0) q1 (comp_star h0 _ _) (compAs_any h1)
              · cases h
            · obtain ⟨cl, h1, h2⟩ := Option.map_eq_some_iff.mp h
              subst h2
              obtain ⟨q1, q2⟩ := compAs_ok ft h3 h1
              obtain ⟨q3, ks', cl', q4⟩ := compAs_star h1 X.env
              exact e_call ft.tk ft.room (ft.gl hg.2) (ft.fns x fr1 ks hfr) q2 q1 q3 (compAs_any q4)
          · split at h
            · rename_i hx
              subst hx
              split at h
              · split at h
                · rename_i u hu
                  split at h
                  · rename_i hb
                    rw [Bool.and_eq_true, Bool.and_eq_true] at hb
                    obtain ⟨c0, h1, h2⟩ := Option.map_eq_some_iff.mp h
                    subst h2
                    obtain ⟨hu1, rfl⟩ := findT_some hu
                    exact e_isi hu1 (ft.gl hg.2) (ft.blt "isinstance" (by simpa using hb.2)) (ft.gl hb.1.1) (ft.blt u (by simpa using hb.1.2)) (h3 _ _ h1) (comp_star h1 _ _)
                  · cases h
                · cases h
              · cases h
            · split at h
              · rename_i u hu
                split at h
                · rename_i hb
                  obtain ⟨cl, h1, h2⟩ := Option.map_eq_some_iff.mp h
                  subst h2
                  obtain ⟨hu1, rfl⟩ := findB_some hu
                  have hc0 := h1
                  simp only [compLs] at hc0
                  obtain ⟨c0, e1, hc0⟩ := Option.bind_eq_some_iff.mp hc0
                  obtain ⟨cr, e2, hc0⟩ := Option.bind_eq_some_iff.mp hc0
                  exact e_bi (t := u.2) ft.calm ft.room hu1 (ft.gl hg.2) (ft.blt u.1 (by simpa using hb)) (PPs h1) (comp_star e1 _ _) (comps_any e2)
                · cases h
              · cases h
        · cases h
      · rename_i x p e0 key y py kpos
        split at h
        · rename_i hx
          obtain ⟨hx, hkey⟩ := hx
          subst hx hkey
          split at h
          · rename_i hg
            rw [Bool.and_eq_true, Bool.and_eq_true, Bool.and_eq_true] at hg
            split at h
            · rename_i fr hfr
              obtain ⟨c0, h1, h2⟩ := Option.map_eq_some_iff.mp h
              subst h2
              exact e_srt ft.room1 (ft.fns y fr [.a] hfr) (ft.gl hg.2.2.1) (ft.blt "sorted" (by simpa using hg.2.2.2)) (ft.gl hg.2.1) (h3 _ _ h1) (comp_star h1 [] _)
            · cases h
          · cases h
        · cases h
      · rename_i o mm ap e0
        split at h
        · rename_i q
          obtain ⟨q1, q2, q3⟩ := q
          subst q1
          obtain ⟨co, h1, h⟩ := Option.bind_eq_some_iff.mp h
          obtain ⟨cl, h2, h⟩ := Option.map_eq_some_iff.mp h
          subst h
          have hc0 := h2
          simp only [compLs] at hc0
          obtain ⟨c0, g1, hc0⟩ := Option.bind_eq_some_iff.mp hc0
          exact e_mget ft.room (h3 _ _ h1) (PLs h2) (plainB_ok q2) (by rw [comp_star g1]; rfl) q3 (comp_star g1 _ _) rfl
        · split at h
          · rename_i q
            obtain ⟨q1, q2⟩ := q
            subst q1
            obtain ⟨i, h1, h⟩ := Option.bind_eq_some_iff.mp h
            obtain ⟨c1, h2, h⟩ := Option.map_eq_some_iff.mp h
            subst h
            obtain ⟨x, p, rfl, g1, g2, g3, g4⟩ := slotN_ok ft h1
            exact e_pop1 g1 g2 g3 g4 (h3 _ _ h2) q2 (comp_star h2 [] _)
          · split at h
            · rename_i q
              obtain ⟨q1, q2, q3⟩ := q
              subst q1
              obtain ⟨co, h1, h⟩ := Option.bind_eq_some_iff.mp h
              obtain ⟨c1, h2, h⟩ := Option.map_eq_some_iff.mp h
              subst h
              exact e_joi (h3 _ _ h1) (h3 _ _ h2) (plainB_ok q2) q3 (comp_star h2 [] _)
            · cases h
      · rename_i o mm ap e0 e1
        split at h
        · rename_i q
          obtain ⟨q1, q2, q3⟩ := q
          subst q1
          obtain ⟨co, h1, h⟩ := Option.bind_eq_some_iff.mp h
          obtain ⟨cl, h2, h⟩ := Option.map_eq_some_iff.mp h
          subst h
          have hc0 := h2
          simp only [compLs] at hc0
          obtain ⟨c0, g1, hc0⟩ := Option.bind_eq_some_iff.mp hc0
          obtain ⟨c1, g2, hc0⟩ := Option.bind_eq_some_iff.mp hc0
          obtain ⟨c2, g3, g4⟩ := Option.bind_eq_some_iff.mp g2
          exact e_mget ft.room (h3 _ _ h1) (PLs h2) (plainB_ok q2) (by rw [comp_star g1, comp_star g3]; rfl) q3 (comp_star g1 _ _) (by rw [comp_star g3]; rfl)
        · split at h
          · rename_i q
            obtain ⟨q1, q2⟩ := q
            subst q1
            obtain ⟨i, h1, h⟩ := Option.bind_eq_some_iff.mp h
            obtain ⟨c1, h2, h⟩ := Option.bind_eq_some_iff.mp h
            obtain ⟨c2, h4, h⟩ := Option.map_eq_some_iff.mp h
            subst h
            obtain ⟨x, p, rfl, g1, g2, g3, g4⟩ := slotN_ok ft h1
            exact e_setd ft.room g1 g2 g3 g4 (h3 _ _ h2) (h3 _ _ h4) q2 (comp_star h2 _ _) (comp_star h4 [] _)
          · cases h
      · rename_i o mm ap
        split at h
        · rename_i q
          obtain ⟨q1, q2⟩ := q
          subst q1
          obtain ⟨i, h1, h⟩ := Option.map_eq_some_iff.mp h
          subst h
          obtain ⟨x, p, rfl, g1, g2, g3, g4⟩ := slotN_ok ft h1
          exact e_pop0 g1 g2 g3 g4 q2
        · cases h
      · cases h
    | Subscript a b pos =>
      refine pl (fun _ => rfl) ?_
      simp only at h
      split at h
      · obtain ⟨ca, h1, h2⟩ := Option.map_eq_some_iff.mp h
        subst h2
        exact e_rev (h3 _ _ h1)
      · obtain ⟨ca, h1, h⟩ := Option.bind_eq_some_iff.mp h
        obtain ⟨cl, h2, h⟩ := Option.bind_eq_some_iff.mp h
        obtain ⟨ch, h4, h⟩ := Option.bind_eq_some_iff.mp h
        cases h
        exact e_slc (h3 _ _ h1) (compO_ok h3 h2) (compO_ok h3 h4)
      · obtain ⟨ca, h1, h⟩ := Option.bind_eq_some_iff.mp h
        obtain ⟨cb, h2, h⟩ := Option.bind_eq_some_iff.mp h
        cases h
        exact e_ix ft.room (comp_ix h2) (h3 _ _ h1) (h3 _ _ h2)
    | ListComp elt gens scope pos =>
      refine pl (fun _ => rfl) ?_
      simp only at h
      split at h
      · rename_i tg iter ifs
        split at h
        · rename_i hb
          obtain ⟨t, h1, h⟩ := Option.bind_eq_some_iff.mp h
          split at h
          · rename_i hsub
            obtain ⟨ci, h2, h⟩ := Option.bind_eq_some_iff.mp h
            obtain ⟨cifs, h4, h⟩ := Option.bind_eq_some_iff.mp h
            obtain ⟨ce, h5, h⟩ := Option.bind_eq_some_iff.mp h
            cases h
            have hfit := fun s H C cl fp => ft.blk s H scope C cl fp
            have hsub' : ∀ i ∈ t.1, i ∈ (ownOf N scope).map (·.2) := fun i hi => by
              rw [List.all_eq_true] at hsub
              simpa using hsub i hi
            have hfold := fun x => compI_fold h2 X.env x
            have hok : BlkOk X.N X.env.scope scope (ownOf N scope) := by rw [ft.N, ft.sc]; exact blkOk_by hb
            obtain ⟨wi, g, tt, te, a1, a2, a3, a4, a5⟩ := e_lc (elt := elt) (tg := tg) (pos := pos) (own := ownOf N scope) (tgl := t.1) (isT := t.2) (ci := ci) (cifs := cifs) (celt := ce) ft.calm ft.nd (compI_ok ft h3 (fun z => compTg_tup h1 z) h2) hok hsub'
              (fun s H C cl fp => compTg_ok (hfit s H C cl fp) h1)
              (fun s H C cl fp => compIf_ok (fun e c h => (ih _ _ _ _ e c (hfit s H C cl fp) h).2) h4)
              (fun s H C cl fp => ((ih _ _ _ _ elt ce (hfit s H C cl fp) h5).1).v) hfold
            exact .ofFr (PE.imp (pe_lc ft.calm ft.nd a1 hok a2 a3 a4 hfold) a5) (fun ρ => rfl)
          · cases h
        · cases h
      · cases h
    | _ => cases h
end
end DI
set_option Elab.async false
set_option linter.all false
set_option maxRecDepth 100000
set_option maxHeartbeats 4000000
/-! dicts whose values are told by a relation of one's own; owned dicts of owned lists, dicts -/
namespace DI
open PySem PySem.Spec PyProof.Rows L2
section
variable {X : Cx} {pins : List (Addr × Obj)} {σ : L2.St} {H H' : Hp} {W W' : WS} {s : Shared} {k : Nat} {K : PySem.W.Frag × World} {VP : D → V → Prop}
def ReG (K : PySem.W.Frag × World) (H : Hp) (W : WS) (VP : D → V → Prop) : List (D × D) → List DictEntry → Prop
  | [], es => es = []
  | (k, d) :: kvs, es => ∃ e r x y, es = e :: r ∧ RelV x e.key ∧ R K H W k x ∧ e.hash = (nkOf k).hash K.2 ∧ RelV y e.val ∧ VP d y ∧ ReG K H W VP kvs r
theorem re_scalG {P : Program} : ∀ {kvs : List (D × D)} {es : List DictEntry}, ReG K H W VP kvs es → kdS kvs = true → ∃ vs : List (L2.Key × Value), Pairs (mixKind P K.2) es vs ∧ (∀ e ∈ es, ∃ k, keyIs k e.key = true ∧ e.hash = keyH K.2 k) ∧ vs.map (fun p => nkK p.1) = nks kvs ∧
    Paired (fun (p : D × D) (q : L2.Key × Value) => nkOf p.1 = nkK q.1 ∧ ∃ y, RelV y q.2 ∧ VP p.2 y) kvs vs
  | [], es, h, _ => by
    simp only [ReG] at h
    subst h
    exact ⟨[], .nil, fun e he => (List.not_mem_nil he).elim, rfl, .nil⟩
  | (kd, d) :: kvs, es, h, hs => by
    simp only [ReG] at h
    obtain ⟨e, r, x, y, rfl, h1, h2, h3, h4, h5, h6⟩ := h
    simp only [kdS, List.all_cons, Bool.and_eq_true] at hs
    obtain ⟨k, hk⟩ := Option.isSome_iff_exists.mp hs.1
    obtain ⟨vs, q1, q2, q3, q4⟩ := re_scalG (P := P) h6 hs.2
    obtain ⟨k1, k2⟩ := keyS_is hk h2 h1
    refine ⟨(k, e.val) :: vs, .cons k1 rfl q1, fun e' he => ?_, ?_, .cons ⟨keyS_nk hk, y, h4, h5⟩ q4⟩
    · rcases List.mem_cons.mp he with rfl | he
      · exact ⟨k, k1, h3.trans k2.symm⟩
      · exact q2 e' he
    · rw [List.map_cons, q3, keyS_nk hk |>.symm]
      rfl
theorem re_tupG (I : Inv X pins σ H s) : ∀ {kvs : List (D × D)} {es : List DictEntry}, ReG (X.K, X.w) H W VP kvs es → kdT kvs = true → ∃ xs : List (NestedKey × Addr × Value), es = xs.map (entryOfKey (nestedKind X.prog X.w)) ∧ (∀ x ∈ xs, (nestedKind X.prog X.w).is s.heap x.1 x.2.1) ∧ xs.map (·.1) = nks kvs ∧
    Paired (fun (p : D × D) (q : NestedKey × Addr × Value) => nkOf p.1 = q.1 ∧ R (X.K, X.w) H W p.1 (.ref q.2.1) ∧ ∃ y, RelV y q.2.2 ∧ VP p.2 y) kvs xs
  | [], es, h, _ => by
    simp only [ReG] at h
    subst h
    exact ⟨[], rfl, fun x hx => (List.not_mem_nil hx).elim, rfl, .nil⟩
  | (kd, d) :: kvs, es, h, hs => by
    simp only [ReG] at h
    obtain ⟨e, r, x, y, rfl, h1, h2, h3, h4, h5, h6⟩ := h
    simp only [kdT, List.all_cons, Bool.and_eq_true] at hs
    obtain ⟨xs, q1, q2, q3, q4⟩ := re_tupG I h6 hs.2
    obtain ⟨a, ea, ex, hk⟩ := isKT_is I hs.1 h2 h1
    subst ex
    refine ⟨(nkOf kd, a, e.val) :: xs, ?_, fun z hz => ?_, by rw [List.map_cons, q3]; rfl, .cons ⟨rfl, h2, y, h4, h5⟩ q4⟩
    · rw [List.map_cons, ← q1]
      have : e = entryOfKey (nestedKind X.prog X.w) (nkOf kd, a, e.val) := by
        cases e
        simp only at ea h3
        subst ea h3
        rfl
      rw [← this]
    · rcases List.mem_cons.mp hz with rfl | hz
      · exact hk
      · exact q2 z hz
def RelG (VP : D → V → Prop) : Option D → Option Value → Prop
  | some d, some u => ∃ y, RelV y u ∧ VP d y
  | none, none => True
  | _, _ => False
abbrev QS1 (VP : D → V → Prop) : D × D → L2.Key × Value → Prop := fun p q => nkOf p.1 = nkK q.1 ∧ ∃ y, RelV y q.2 ∧ VP p.2 y
abbrev QT1 (K : PySem.W.Frag × World) (H : Hp) (W : WS) (VP : D → V → Prop) : D × D → NestedKey × Addr × Value → Prop := fun p q => nkOf p.1 = q.1 ∧ R K H W p.1 (.ref q.2.1) ∧ ∃ y, RelV y q.2.2 ∧ VP p.2 y
theorem find_scalG : ∀ {kvs : List (D × D)} {vs : List (L2.Key × Value)}, Paired (QS1 VP) kvs vs → ∀ k : L2.Key, RelG VP (getN kvs (nkK k)) (valueAt vs k)
  | [], [], .nil, k => trivial
  | p :: kvs, q :: vs, .cons h t, k => by
    unfold getN valueAt
    rw [List.find?_cons, List.find?_cons, h.1]
    by_cases e : q.1 = k
    · rw [e]
      simp only [decide_true, Option.map_some]
      exact h.2
    · have e2 : ¬ nkK q.1 = nkK k := fun z => e (nkK_inj z)
      simp only [e, e2, decide_false]
      exact find_scalG t k
theorem find_tupG : ∀ {kvs : List (D × D)} {xs : List (NestedKey × Addr × Value)}, Paired (QT1 K H W VP) kvs xs → ∀ k : NestedKey, RelG VP (getN kvs k) ((atKey xs k).map (·.2))
  | [], [], .nil, k => trivial
  | p :: kvs, q :: xs, .cons h t, k => by
    unfold getN atKey
    rw [List.find?_cons, List.find?_cons, h.1]
    by_cases e : q.1 = k
    · rw [e]
      simp only [decide_true, Option.map_some]
      exact h.2.2
    · simp only [e, decide_false]
      exact find_tupG t k
theorem re_backG {P : Program} : ∀ {kvs : List (D × D)} {vs : List (L2.Key × Value)} {es : List DictEntry}, Pairs (mixKind P K.2) es vs → (∀ e ∈ es, ∃ k, keyIs k e.key = true ∧ e.hash = keyH K.2 k) → kdS kvs = true →
    Paired (QS1 VP) kvs vs → ReG K H W VP kvs es
  | [], [], _, .nil, _, _, .nil => by simp [ReG]
  | (kd, d) :: kvs, (q, u) :: vs, _, .cons h1 h2 h3, hk, hs, .cons h t => by
    simp only [kdS, List.all_cons, Bool.and_eq_true] at hs
    rename_i e es
    obtain ⟨x, rx, hR⟩ := pair_key h1 h.1 hs.1
    obtain ⟨k', k1, k2⟩ := hk e List.mem_cons_self
    have : k' = q := (mixKind P K.2).inj e.key k' q k1 h1
    subst this
    obtain ⟨y, ry, hy⟩ := h.2
    have ih := re_backG h3 (fun e' he => hk e' (List.mem_cons_of_mem _ he)) hs.2 t
    simp only [ReG]
    refine ⟨e, es, x, y, rfl, rx, hR _ _ _, ?_, by rw [h2]; exact ry, hy, ih⟩
    rw [k2]
    obtain ⟨kk, hkk⟩ := Option.isSome_iff_exists.mp hs.1
    have := keyS_is (K := K) (H := H) (W := W) hkk (hR K H W) rx
    rw [← this.2]
    have e3 : kk = k' := nkK_inj ((keyS_nk hkk).symm.trans h.1)
    rw [e3]
theorem re_backTG {P : Program} : ∀ {kvs : List (D × D)} {xs : List (NestedKey × Addr × Value)}, Paired (QT1 K H W VP) kvs xs → ReG K H W VP kvs (xs.map (entryOfKey (nestedKind P K.2)))
  | [], [], .nil => by simp [ReG]
  | (kd, d) :: kvs, q :: xs, .cons h t => by
    have ih := re_backTG (P := P) t
    obtain ⟨h1, h2, y, h3, h4⟩ := h
    simp only [List.map_cons, ReG]
    refine ⟨_, _, .ref q.2.1, y, rfl, rfl, h2, ?_, h3, h4, ih⟩
    show q.1.hash K.2 = _
    rw [← h1]
theorem qs1_snoc {p : D × D} {q : L2.Key × Value} (h : QS1 VP p q) : ∀ {kvs : List (D × D)} {vs : List (L2.Key × Value)}, Paired (QS1 VP) kvs vs → Paired (QS1 VP) (kvs ++ [p]) (vs ++ [q])
  | [], [], .nil => .cons h .nil
  | _ :: _, _ :: _, .cons h1 t => .cons h1 (qs1_snoc h t)
theorem qt1_snoc {p : D × D} {q : NestedKey × Addr × Value} (h : QT1 K H W VP p q) : ∀ {kvs : List (D × D)} {xs : List (NestedKey × Addr × Value)}, Paired (QT1 K H W VP) kvs xs → Paired (QT1 K H W VP) (kvs ++ [p]) (xs ++ [q])
  | [], [], .nil => .cons h .nil
  | _ :: _, _ :: _, .cons h1 t => .cons h1 (qt1_snoc h t)
theorem qs1_len : ∀ {kvs : List (D × D)} {vs : List (L2.Key × Value)}, Paired (QS1 VP) kvs vs → vs.length = kvs.length
  | [], [], .nil => rfl
  | _ :: _, _ :: _, .cons _ t => by rw [List.length_cons, List.length_cons, qs1_len t]
theorem qt1_len : ∀ {kvs : List (D × D)} {xs : List (NestedKey × Addr × Value)}, Paired (QT1 K H W VP) kvs xs → xs.length = kvs.length
  | [], [], .nil => rfl
  | _ :: _, _ :: _, .cons _ t => by rw [List.length_cons, List.length_cons, qt1_len t]
theorem qt1_stp (st : Stp H W H' W') {kvs : List (D × D)} {xs : List (NestedKey × Addr × Value)} (h : Paired (QT1 K H W VP) kvs xs) : Paired (QT1 K H' W' VP) kvs xs := Paired.mapP h fun p q z => ⟨z.1, R.stp st _ _ z.2.1, z.2.2⟩
theorem stored_new {vs : List (L2.Key × Value)} {k : L2.Key} {r : Value} (h : valueAt vs k = none) : stored vs k r = vs ++ [(k, r)] := by
  unfold stored
  rw [if_neg]
  intro z
  rw [List.any_eq_true] at z
  obtain ⟨p, hp, e⟩ := z
  unfold valueAt at h
  rw [Option.map_eq_none_iff, List.find?_eq_none] at h
  exact h p hp e
theorem storedH_new {xs : List (NestedKey × Addr × Value)} {n : NestedKey} {b : Addr} {r : Value} (h : atKey xs n = none) : storedH xs n b r = xs ++ [(n, b, r)] := by
  unfold storedH
  rw [h]
  rfl
/-- d.setdefault(k, v), whatever the values are -/
theorem d_setdG (hu : X.A.units + 70 < cLine) (I : Inv X pins σ H s) {kvs : List (D × D)} {kd d : D} {a : Addr} {o : Obj} {es : Array DictEntry} {ep : Nat} {y z : V} {u r : Value} {Q : VK} (e : H a = some (.ext fun h => h.get? a = some o)) (wa : W a) (hs : (a == sysModules) = false) (hx : o.ExactDict) (hdt : o.data = .dict es ep) (hr : ReG (X.K, X.w) H W VP kvs es.toList) (ok : dOk kvs = true)
    (hk : R (X.K, X.w) H W kd y) (hf : keyFit kvs kd = true) (ry : RelV y u) (hv : VP d z) (rv : RelV z r)
    (q1 : ∀ x, getN kvs (nkOf kd) = some x → ∀ v', VP x v' → Q v' H)
    (q2 : getN kvs (nkOf kd) = none → ∀ o' es' ep', o'.ExactDict → o'.data = .dict es' ep' → ReG (X.K, X.w) (upd H a (.ext fun h => h.get? a = some o')) W VP (kvs ++ [(kd, d)]) es'.toList → Q z (upd H a (.ext fun h => h.get? a = some o'))) :
    wpAny (model X.prog X.w) X.A (call (.builtin "dict.setdefault") [.ref a, u, r]) (EP X pins σ Q) X.xe s := by
  have ho : s.heap.get? a = some o := (I.hok a _ e).1
  have nd := (dOk_nd ok).1
  have hl := (dOk_nd ok).2
  have st : ∀ o', Stp H W (upd H a (.ext fun h => h.get? a = some o')) W := fun o' => ⟨fun b u e' n => ⟨by rw [upd_ne (fun z => n (by first | (rw [z]; exact wa) | (rw [← z]; exact wa)))]; exact e', n⟩, fun b z => .inl z⟩
  have hf' := hf
  unfold keyFit at hf'
  simp only [Bool.or_eq_true, Bool.and_eq_true] at hf'
  rcases hf' with ⟨h6, h5⟩ | ⟨h6, h5⟩
  · obtain ⟨k, hkk⟩ := Option.isSome_iff_exists.mp h6
    have h3 := keyS_nk hkk
    have h2 := (keyS_is hkk hk ry).1
    obtain ⟨vs, p1, p2, p3, h4⟩ := re_scalG (P := X.prog) hr h5
    have hnd : (vs.map fun p => nkK p.1).Nodup := by rw [p3]; exact nd
    have h1 : s.heap.DictOf (mixKind X.prog X.w) a vs := ⟨o, es, ep, ho, hx, hdt, fun e he => p2 e (by simpa using he), p1, List.Pairwise.of_map nkK (fun a b h e => h (by rw [e])) (show List.Pairwise (· ≠ ·) ((vs.map (·.1)).map nkK) by rw [List.map_map]; exact hnd)⟩
    have f := find_scalG h4 k
    rw [← h3] at f
    refine call_meetsIn PySem.F.slot_dict_setdefault h1.typeIs PySem.F.entry_dict_setdefault (PySem.F.args_dict_setdefault_3 _ _ _) (kt_meets_setdefault (mixKind X.prog X.w) a h2 hs r) ⟨vs, h1, by rw [qs1_len h4, sizeLine_eq]; exact hl, fun v hv' => ?_, fun hn h' dd hsb => ?_⟩
    · rw [hv'] at f
      cases hg : getN kvs (nkOf kd) with
      | none => rw [hg] at f; exact f.elim
      | some x =>
        rw [hg] at f
        obtain ⟨w, rw', hw⟩ := f
        exact ⟨w, H, I.tok _, rw', q1 x hg w hw⟩
    · rw [hn] at f
      cases hg : getN kvs (nkOf kd) with
      | some x => rw [hg] at f; exact f.elim
      | none =>
        obtain ⟨o', es', ep', ho', hx', hd', hk', hp', _⟩ := dd
        have hput := qs1_snoc (p := (kd, d)) (q := (k, r)) ⟨h3, z, rv, hv⟩ h4
        rw [stored_new hn] at hp'
        have hks : kdS (kvs ++ [(kd, d)]) = true := by
          simp only [kdS, List.all_append, Bool.and_eq_true] at h5 ⊢
          exact ⟨h5, by simpa using h6⟩
        exact ⟨z, _, inv_dw I e hsb ho', rv, q2 hg o' es' ep' hx' hd' (re_backG (P := X.prog) hp' (fun e' he => hk' e' (by simpa using he)) hks hput)⟩
  · obtain ⟨xs, p1, p2, p3, h4⟩ := re_tupG I hr h5
    have h1 : s.heap.DictOfH (nestedKind X.prog X.w) a xs := ⟨o, es, ep, ho, hx, hdt, p1, p2, by rw [p3]; exact nd⟩
    obtain ⟨b, eb, eb2, h3⟩ := isKT_is I h6 hk ry
    subst eb eb2
    have f := find_tupG h4 (nkOf kd)
    refine call_setdefault_heap (hsz := by rw [qt1_len h4, sizeLine_eq]; exact hl) (room_n hu) h3 hs h1 (fun p hp => ?_) fun hn h' dd hsb => ?_
    · rw [hp] at f
      cases hg : getN kvs (nkOf kd) with
      | none => rw [hg] at f; exact f.elim
      | some x =>
        rw [hg] at f
        obtain ⟨w, rw', hw⟩ := f
        exact ⟨w, H, I.tok _, rw', q1 x hg w hw⟩
    · rw [hn] at f
      cases hg : getN kvs (nkOf kd) with
      | some x => rw [hg] at f; exact f.elim
      | none =>
        obtain ⟨o', es', ep', ho', hx', hd', he', _, _⟩ := dd
        rw [storedH_new hn] at he'
        have hput := qt1_snoc (p := (kd, d)) (q := (nkOf kd, b, r)) ⟨rfl, hk, z, rv, hv⟩ h4
        exact ⟨z, _, inv_dw I e hsb ho', rv, q2 hg o' es' ep' hx' hd' (by rw [he']; exact re_backTG (qt1_stp (st o') hput))⟩
def rSetdG (X : Cx) : V → List V → Hp → VK → Prop := fun x vs H Q => ∃ W VP kvs kd d a y z o es ep, x = .ref a ∧ vs = [y, z] ∧ H a = some (.ext fun h => h.get? a = some o) ∧ W a ∧ (a == sysModules) = false ∧ o.ExactDict ∧ o.data = .dict es ep ∧ ReG (X.K, X.w) H W VP kvs es.toList ∧ dOk kvs = true ∧
  R (X.K, X.w) H W kd y ∧ keyFit kvs kd = true ∧ VP d z ∧ (∀ x, getN kvs (nkOf kd) = some x → ∀ v', VP x v' → Q v' H) ∧
  (getN kvs (nkOf kd) = none → ∀ o' es' ep', o'.ExactDict → o'.data = .dict es' ep' → ReG (X.K, X.w) (upd H a (.ext fun h => h.get? a = some o')) W VP (kvs ++ [(kd, d)]) es'.toList → Q z (upd H a (.ext fun h => h.get? a = some o')))
theorem mt_setdG (hu : X.A.units + 70 < cLine) : MtR X "dict.setdefault" (rSetdG X) := by
  intro pins s σ H x vs v us Q I rx rv ⟨W, VP, kvs, kd, d, a, y, z, o, es, ep, e1, e2, h1, h2, h3, h4, h5, h6, h7, h8, h9, h10, q1, q2⟩
  subst e1 e2
  obtain ⟨u, w, rfl, ru, rw'⟩ := Vals.two rv
  cases rx
  exact d_setdG hu I h1 h2 h3 h4 h5 h6 h7 h8 h9 ru h10 rw' q1 q2
/-! the values told by their places -/
def tagN : Nat → List (D × D) → List (D × D)
  | _, [] => []
  | i, p :: kvs => (p.1, .int i) :: tagN (i + 1) kvs
theorem tag_len : ∀ (kvs : List (D × D)) (i : Nat), (tagN i kvs).length = kvs.length
  | [], _ => rfl
  | p :: kvs, i => by simp [tagN, tag_len kvs]
theorem tag_keys : ∀ (kvs : List (D × D)) (i : Nat), (tagN i kvs).map Prod.fst = kvs.map Prod.fst
  | [], _ => rfl
  | p :: kvs, i => by simp [tagN, tag_keys kvs]
theorem tag_get : ∀ (kvs : List (D × D)) (i n : Nat), (tagN i kvs)[n]? = (kvs[n]?).map fun p => (p.1, .int ((i + n : Nat) : Int))
  | [], _, n => by simp [tagN]
  | p :: kvs, i, 0 => by simp [tagN]
  | p :: kvs, i, n + 1 => by
    simp only [tagN, List.getElem?_cons_succ]
    rw [tag_get kvs (i + 1) n, show i + 1 + n = i + (n + 1) by omega]
theorem tag_app : ∀ (kvs : List (D × D)) (i : Nat) (kd d : D), tagN i (kvs ++ [(kd, d)]) = tagN i kvs ++ [(kd, .int ((i + kvs.length : Nat) : Int))]
  | [], i, _, _ => by simp [tagN]
  | p :: kvs, i, kd, d => by
    simp only [List.cons_append, tagN, tag_app kvs (i + 1) kd d, List.length_cons]
    rw [show i + 1 + kvs.length = i + (kvs.length + 1) by omega]
theorem keys_dOk {kvs kvs' : List (D × D)} (h : kvs'.map Prod.fst = kvs.map Prod.fst) : dOk kvs' = dOk kvs ∧ (∀ k, keyFit kvs' k = keyFit kvs k) ∧ nks kvs' = nks kvs := by
  have h1 : kdS kvs' = kdS kvs := by
    have : ∀ w : List (D × D), kdS w = (w.map Prod.fst).all fun k => (keyS k).isSome := fun w => by simp [kdS, List.all_map, Function.comp_def]
    rw [this, this, h]
  have h2 : kdT kvs' = kdT kvs := by
    have : ∀ w : List (D × D), kdT w = (w.map Prod.fst).all isKT := fun w => by simp [kdT, List.all_map, Function.comp_def]
    rw [this, this, h]
  have h3 : nks kvs' = nks kvs := by
    have : ∀ w : List (D × D), nks w = (w.map Prod.fst).map nkOf := fun w => by simp [nks]
    rw [this, this, h]
  have h4 : kvs'.length = kvs.length := by rw [← List.length_map (f := Prod.fst), h, List.length_map]
  refine ⟨by unfold dOk; rw [h1, h2, h3, h4], fun k => by unfold keyFit; rw [h1, h2], h3⟩
theorem reG_get : ∀ {kvs : List (D × D)} {es : List DictEntry}, ReG K H W VP kvs es → es.length = kvs.length ∧ ∀ (n : Nat) (k d : D), kvs[n]? = some (k, d) → ∃ e x y, es[n]? = some e ∧ RelV x e.key ∧ R K H W k x ∧ e.hash = (nkOf k).hash K.2 ∧ RelV y e.val ∧ VP d y
  | [], es, h => by
    simp only [ReG] at h
    subst h
    exact ⟨rfl, fun n k d e => by simp at e⟩
  | (k, d) :: kvs, es, h => by
    simp only [ReG] at h
    obtain ⟨e, r, x, y, rfl, h1, h2, h3, h4, h5, h6⟩ := h
    obtain ⟨q1, q2⟩ := reG_get h6
    refine ⟨by simp [q1], fun n k' d' en => ?_⟩
    cases n with
    | zero => simp at en; obtain ⟨rfl, rfl⟩ := en; exact ⟨e, x, y, rfl, h1, h2, h3, h4, h5⟩
    | succ n => obtain ⟨e', x', y', w⟩ := q2 n k' d' (by simpa using en); exact ⟨e', x', y', by simpa using w.1, w.2⟩
theorem reG_of : ∀ {kvs : List (D × D)} {es : List DictEntry}, es.length = kvs.length → (∀ (n : Nat) (k d : D), kvs[n]? = some (k, d) → ∃ e x y, es[n]? = some e ∧ RelV x e.key ∧ R K H W k x ∧ e.hash = (nkOf k).hash K.2 ∧ RelV y e.val ∧ VP d y) → ReG K H W VP kvs es
  | [], es, hl, _ => by
    have : es = [] := List.length_eq_zero_iff.mp hl
    simp [ReG, this]
  | (k, d) :: kvs, es, hl, h => by
    obtain ⟨e, x, y, h1, h2, h3, h4, h5, h6⟩ := h 0 k d rfl
    cases es with
    | nil => simp at hl
    | cons e' r =>
      simp at h1
      subst h1
      simp only [ReG]
      exact ⟨e', r, x, y, rfl, h2, h3, h4, h5, h6, reG_of (by simpa using hl) fun n k d e => by simpa using h (n + 1) k d (by simpa using e)⟩
/-- at its place -/
def VPb (bs : List Addr) : D → V → Prop := fun d v => ∃ (n : Nat) (b : Addr), d = .int (n : Int) ∧ bs[n]? = some b ∧ v = .ref b
theorem getN_place : ∀ {kvs : List (D × D)} {m : NestedKey} {d : D}, getN kvs m = some d → ∃ (n : Nat) (k : D), kvs[n]? = some (k, d) ∧ nkOf k = m
  | [], m, d, h => by simp [getN] at h
  | p :: kvs, m, d, h => by
    unfold getN at h
    rw [List.find?_cons] at h
    by_cases e : nkOf p.1 = m
    · simp [e] at h
      exact ⟨0, p.1, by simp [← h], e⟩
    · simp only [e, decide_false] at h
      obtain ⟨n, k, q1, q2⟩ := getN_place (kvs := kvs) (m := m) (d := d) h
      exact ⟨n + 1, k, by simpa using q1, q2⟩
theorem getN_no {kvs : List (D × D)} {m : NestedKey} : getN kvs m = none ↔ m ∉ nks kvs := by
  unfold getN nks
  rw [Option.map_eq_none_iff, List.find?_eq_none]
  simp
theorem putN_new {kvs : List (D × D)} {kd d : D} (h : getN kvs (nkOf kd) = none) : putN kvs kd d = kvs ++ [(kd, d)] := by
  unfold putN
  rw [if_neg]
  intro z
  rw [List.any_eq_true] at z
  obtain ⟨p, hp, e⟩ := z
  exact getN_no.mp h (List.mem_map.mpr ⟨p, hp, by simpa using e⟩)
theorem putN_set {kvs : List (D × D)} (nd : (nks kvs).Nodup) {n : Nat} {k' d kd d' : D} (h : kvs[n]? = some (k', d)) (e : nkOf k' = nkOf kd) : putN kvs kd d' = kvs.set n (k', d') := by
  have hm : (kvs.any fun p => decide (nkOf p.1 = nkOf kd)) = true := List.any_eq_true.mpr ⟨(k', d), List.mem_of_getElem? h, by simpa using e⟩
  unfold putN
  rw [if_pos hm]
  apply List.ext_getElem?
  intro i
  rw [List.getElem?_map, List.getElem?_set]
  by_cases hi : n = i
  · subst hi
    have hl := (List.getElem?_eq_some_iff.mp h).1
    rw [h]
    simp [e, hl]
  · rw [if_neg hi]
    cases hc : kvs[i]? with
    | none => rfl
    | some p =>
      have : nkOf p.1 ≠ nkOf kd := fun z => by
        have h1 : (nks kvs)[i]? = some (nkOf kd) := by unfold nks; rw [List.getElem?_map, hc]; simp [z]
        have h2 : (nks kvs)[n]? = some (nkOf kd) := by unfold nks; rw [List.getElem?_map, h]; simp [e]
        exact hi ((List.getElem?_inj (List.getElem?_eq_some_iff.mp h2).1 nd).mp (h2.trans h1.symm))
      simp [this]
end
end DI
set_option Elab.async false
set_option linter.all false
set_option maxRecDepth 100000
set_option maxHeartbeats 4000000
/-! slots that hold an owned dict of owned lists, dicts -/
namespace DI
open PySem PySem.Spec PyProof.Rows L2
section
variable {X : Cx} {Wx : WX} {pins : List (Addr × Obj)} {σ : L2.St} {H H' H1 : Hp} {W W' U U1 : WS} {s : Shared} {k : Nat} {K : PySem.W.Frag × World} {Φ : Fr} {ρ ρ' ρ1 : Rho} {F F' : Nat → List Addr}
def deepOf (sl : Option Sl) : Option (List (D × D)) := match sl with
  | some (.od kvs) => some kvs
  | some (.ow (.dict [])) => some []
  | _ => none
theorem deepOf_set {sl : Option Sl} {kvs : List (D × D)} (h : deepOf sl = some kvs) : sl = some (.od kvs) ∨ (sl = some (.ow (.dict [])) ∧ kvs = []) := by
  unfold deepOf at h
  split at h
  · cases h; exact .inl rfl
  · cases h; exact .inr ⟨rfl, rfl⟩
  · cases h
/-- as an owned dict of owned ones -/
theorem RepF.od (r : RepF K Φ U σ H ρ F) {j : Nat} {kvs : List (D × D)} (e : deepOf ρ[j]? = some kvs) : RepF K Φ U σ H (ρ.set j (.od kvs)) F ∧ ∃ a bs, F j = a :: bs ∧ σ[j]? = some (some (.ref a)) ∧ DeepAt K H (WU Φ U) a kvs bs := by
  rcases deepOf_set e with e | ⟨e1, hkv⟩
  · have hl : j < ρ.length := (List.getElem?_eq_some_iff.mp e).1
    have : ρ.set j (.od kvs) = ρ := by
      apply List.ext_getElem?
      intro i
      by_cases hi : i = j
      · subst hi; rw [List.getElem?_set_self hl, e]
      · rw [set_ne hi]
    rw [this]
    obtain ⟨a, bs, h1, h2, h3⟩ := r.ok j _ e
    exact ⟨r, a, bs, h1, h2, h3⟩
  · clear e
    have e := e1
    subst hkv
    have hl : j < ρ.length := (List.getElem?_eq_some_iff.mp e).1
    obtain ⟨a, h1, h2, h3⟩ := r.ok j _ e
    have deep : DeepAt K H (WU Φ U) a [] [] := by
      simp only [OwnAt] at h3
      obtain ⟨o, es, ep, g1, g2, g3, g4, g5, g6⟩ := h3
      have hz : es.toList = [] := by simpa only [Re] using g5
      exact ⟨o, es, ep, g1, g2, g3, g4, g6, by rw [← Array.length_toList, hz]; rfl, rfl, fun n k d en => by simp at en⟩
    have hod : ∀ (i : Nat) (sl : Sl), (ρ.set j (.od []))[i]? = some sl → (i = j ∧ sl = .od []) ∨ (i ≠ j ∧ ρ[i]? = some sl) := fun i sl ei => (get_set ei).imp (fun z => ⟨z.1, z.2.1⟩) id
    refine ⟨⟨by rw [List.length_set]; exact r.len, fun i hi => r.out i (by simpa using hi), fun i sl ei => ?_, fun i j' k ei => ?_, r.nd, r.sep, r.mem, r.own, r.trk, fun i a h => ?_, fun i d ei => ?_⟩, a, [], h1, h2, deep⟩
    · rcases hod i sl ei with ⟨rfl, rfl⟩ | ⟨q1, q2⟩
      · exact ⟨a, [], h1, h2, deep⟩
      · exact r.ok i sl q2
    · rcases hod i _ ei with ⟨_, q⟩ | ⟨q1, q2⟩
      · cases q
      · obtain ⟨a1, bs1, kvs1, n, k', d1, b, y1, y2, y3, y4, y5, y6⟩ := r.bo i j' k q2
        have hne : j' ≠ j := fun z => by rw [z, e] at y1; cases y1
        exact ⟨a1, bs1, kvs1, n, k', d1, b, by rw [set_ne hne]; exact y1, y2, y3, y4, y5, y6⟩
    · obtain ⟨g1, sl, g2, g3⟩ := r.pin i a h
      have hne : i ≠ j := fun z => by rw [z, e] at g2; cases g2; cases g3
      exact ⟨g1, sl, by rw [set_ne hne]; exact g2, g3⟩
    · rcases hod i _ ei with ⟨_, q⟩ | ⟨q1, q2⟩
      · cases q
      · exact r.lkp i d q2
/-- as a dict of places -/
theorem DeepAt.tag {a : Addr} {kvs : List (D × D)} {bs bs' : List Addr} (h : DeepAt K H W a kvs bs) (hb : ∀ (n : Nat) (b : Addr), bs[n]? = some b → bs'[n]? = some b) : ∃ (o : Obj) (es : Array DictEntry) (ep : Nat), H a = some (.ext fun h => h.get? a = some o) ∧ (a == sysModules) = false ∧ o.ExactDict ∧ o.data = .dict es ep ∧ dOk (tagN 0 kvs) = true ∧ ReG K H W (VPb bs') (tagN 0 kvs) es.toList := by
  obtain ⟨o, es, ep, h1, h2, h3, h4, h5, h6, h7, h8⟩ := h
  refine ⟨o, es, ep, h1, h2, h3, h4, by rw [(keys_dOk (tag_keys kvs 0)).1]; exact h5, reG_of (by rw [tag_len]; simpa using h6) fun n k d en => ?_⟩
  rw [tag_get] at en
  obtain ⟨p, e1, e2⟩ := Option.map_eq_some_iff.mp en
  cases e2
  obtain ⟨e, x, b, q1, q2, q3, q4, q5, q6, q7⟩ := h8 n p.1 p.2 (by rw [e1])
  exact ⟨e, x, .ref b, by simpa using q1, q3, q4, q5, q6, n, b, by simp, hb n b q2, rfl⟩
/-- one more -/
theorem RepF.odAdd {b : Addr} (r : RepF K (Φ.plus (some b)) U σ H ρ F) (hnb : ¬ Φ.all b) {j : Nat} {a : Addr} {bs : List Addr} {kvs : List (D × D)} {kd d0 : D} (e : ρ[j]? = some (.od kvs)) (hF : F j = a :: bs) (hs : σ[j]? = some (some (.ref a))) (hd : DeepAt K H (WU (Φ.plus (some b)) U) a kvs bs)
    (ho : OwnAt K H (fun c => WU Φ U c ∨ c = b) b d0) {o' : Obj} {es' : Array DictEntry} {ep' : Nat} (hx : o'.ExactDict) (hdt : o'.data = .dict es' ep') (hr : ReG K (upd H a (.ext fun h => h.get? a = some o')) (WU (Φ.plus (some b)) U) (VPb (bs ++ [b])) (tagN 0 kvs ++ [(kd, .int (kvs.length : Int))]) es'.toList) (ok : dOk (kvs ++ [(kd, d0)]) = true) :
    ∃ F', RepF K Φ (fun c => U c ∨ c = b) σ (upd H a (.ext fun h => h.get? a = some o')) (ρ.set j (.od (kvs ++ [(kd, d0)]))) F' ∧ F' j = a :: (bs ++ [b]) := by
  have hl : j < ρ.length := (List.getElem?_eq_some_iff.mp e).1
  have hUa : U a := (r.mem a).mpr ⟨j, by rw [hF]; simp⟩
  have hpl : ∀ c, (Φ.plus (some b)).all c ↔ (Φ.all c ∨ c = b) := fun c => ⟨fun z => z.elim (fun z => .inl (.inl z)) fun z => z.elim (fun z => .inl (.inr z)) .inr, fun z => z.elim (fun z => z.elim .inl fun z => .inr (.inl z)) fun z => .inr (.inr z)⟩
  have hUb : ¬ U b := fun z => r.own b z ((hpl b).mpr (.inr rfl))
  have hw : ∀ c, WU Φ (fun c => U c ∨ c = b) c ↔ WU (Φ.plus (some b)) U c := fun c => ⟨fun z => z.elim (fun z => .inl ((hpl c).mpr (.inl z))) fun z => z.elim .inr fun z => .inl ((hpl c).mpr (.inr z)), fun z => z.elim (fun z => ((hpl c).mp z).elim .inl fun z => .inr (.inr z)) fun z => .inr (.inl z)⟩
  have hk : ∀ c, c ≠ a → ∀ o, H c = some o → upd H a (.ext fun h => h.get? a = some o') c = some o := fun c hc o q => by rw [upd_ne hc]; exact q
  have st : Stp H (WU (Φ.plus (some b)) U) (upd H a (.ext fun h => h.get? a = some o')) (WU Φ fun c => U c ∨ c = b) := ⟨fun c o q n => ⟨hk c (fun z => n (z ▸ .inr hUa)) o q, fun z => n ((hw c).mp z)⟩, fun c z => .inl ((hw c).mp z)⟩
  have st2 : Stp (upd H a (.ext fun h => h.get? a = some o')) (WU (Φ.plus (some b)) U) (upd H a (.ext fun h => h.get? a = some o')) (WU Φ fun c => U c ∨ c = b) := Stp.less fun c z => (hw c).mp z
  have hnd := r.nd j
  rw [hF, List.nodup_cons] at hnd
  have hba : b ≠ a := fun z => hUb (z ▸ hUa)
  have hbbs : b ∉ bs := fun z => hUb ((r.mem b).mpr ⟨j, by rw [hF]; simp [z]⟩)
  have old := hd
  obtain ⟨o, es, ep, g1, g2, g3, g4, g5, g6, g7, g8⟩ := hd
  obtain ⟨w1, w2⟩ := reG_get hr
  have deep : DeepAt K (upd H a (.ext fun h => h.get? a = some o')) (WU Φ fun c => U c ∨ c = b) a (kvs ++ [(kd, d0)]) (bs ++ [b]) := by
    refine ⟨o', es', ep', upd_same, g2, hx, hdt, ok, ?_, by simp [g7], fun n k' d' en => ?_⟩
    · have := w1
      rw [List.length_append, tag_len] at this
      rw [List.length_append]
      simpa using this
    · have hn : n < (kvs ++ [(kd, d0)]).length := (List.getElem?_eq_some_iff.mp en).1
      rw [List.length_append, List.length_singleton] at hn
      have hk2 : (tagN 0 kvs ++ [(kd, PyData.int (kvs.length : Int))])[n]? = some (k', .int (n : Int)) := by
        by_cases hn2 : n < kvs.length
        · rw [List.getElem?_append_left hn2] at en
          rw [List.getElem?_append_left (by rw [tag_len]; exact hn2), tag_get, en]
          simp
        · have : n = kvs.length := by omega
          subst this
          rw [List.getElem?_append_right (Nat.le_refl _)] at en
          rw [List.getElem?_append_right (by rw [tag_len]; exact Nat.le_refl _), tag_len]
          simp at en ⊢
          exact en.1
      obtain ⟨e1, x, y, q1, q2, q3, q4, q5, n', b', q6, q7, q8⟩ := w2 n k' _ hk2
      have hnn : n' = n := by cases q6; omega
      subst hnn
      subst q8
      refine ⟨e1, x, b', by simpa using q1, q7, q2, R.stp st2 _ _ q3, q4, q5, ?_⟩
      by_cases hn2 : n' < kvs.length
      · rw [List.getElem?_append_left hn2] at en
        rw [List.getElem?_append_left (by rw [g7]; exact hn2)] at q7
        obtain ⟨e2, x2, b2, p1, p2, p3, p4, p5, p6, p7⟩ := g8 n' k' d' en
        rw [q7] at p2
        cases p2
        exact p7.stp st fun o q => hk b' (fun z => hnd.1 (z ▸ List.mem_of_getElem? q7)) o q
      · have : n' = kvs.length := by omega
        subst this
        rw [List.getElem?_append_right (Nat.le_refl _)] at en
        rw [List.getElem?_append_right (by rw [g7]; exact Nat.le_refl _)] at q7
        simp [g7] at en q7
        obtain ⟨_, rfl⟩ := en
        subst q7
        have ho2 : OwnAt K H (WU (Φ.plus (some b)) U) b d0 := ho.less fun c z => by
          rcases z with z | z
          · rcases (hpl c).mp z with z | z
            · exact .inl (.inl z)
            · exact .inr z
          · exact .inl (.inr z)
        exact ho2.stp st fun o q => hk b hba o q
  have hod : ∀ (i : Nat) (sl : Sl), (ρ.set j (.od (kvs ++ [(kd, d0)])))[i]? = some sl → (i = j ∧ sl = .od (kvs ++ [(kd, d0)])) ∨ (i ≠ j ∧ ρ[i]? = some sl) := fun i sl ei => (get_set ei).imp (fun z => ⟨z.1, z.2.1⟩) id
  refine ⟨updF F j (a :: (bs ++ [b])), ⟨by rw [List.length_set]; exact r.len, fun i hi => ?_, fun i sl ei => ?_, fun i j' k ei => ?_, fun i => ?_, fun i i' c h1 h2 => ?_, fun c => ?_, fun c z q => ?_, fun c z => ?_, fun i c h => ?_, fun i d ei => ?_⟩, updF_self _ _⟩
  · rw [List.length_set] at hi
    rw [updF_ne (by omega)]
    exact r.out i hi
  · rcases hod i sl ei with ⟨rfl, rfl⟩ | ⟨q1, q2⟩
    · rw [updF_self]
      exact ⟨a, bs ++ [b], rfl, hs, deep⟩
    · rw [updF_ne q1]
      exact (r.ok i sl q2).stp st (fun c hc o q => hk c (fun z => hc.elim (fun w => q1 (r.sep i j a (z ▸ w) (by rw [hF]; simp))) fun w => r.own a hUa (z ▸ .inl w)) o q) (fun c z => z) fun c z => z
  · rcases hod i _ ei with ⟨_, q⟩ | ⟨q1, q2⟩
    · cases q
    · obtain ⟨a1, bs1, kvs1, n, k', d1, b1, y1, y2, y3, y4, y5, y6⟩ := r.bo i j' k q2
      by_cases hj : j' = j
      · subst hj
        rw [e] at y1
        cases y1
        rw [hF] at y2
        cases y2
        have n1 := (List.getElem?_eq_some_iff.mp y3).1
        have n2 := (List.getElem?_eq_some_iff.mp y4).1
        exact ⟨a, bs ++ [b], _, n, k', d1, b1, List.getElem?_set_self hl, updF_self _ _, by rw [List.getElem?_append_left n1]; exact y3, by rw [List.getElem?_append_left n2]; exact y4, y5, y6⟩
      · exact ⟨a1, bs1, kvs1, n, k', d1, b1, by rw [set_ne hj]; exact y1, by rw [updF_ne hj]; exact y2, y3, y4, y5, y6⟩
  · by_cases hi : i = j
    · subst hi
      rw [updF_self, List.nodup_cons, List.mem_append, List.nodup_append]
      refine ⟨fun z => z.elim hnd.1 fun z => hba (List.mem_singleton.mp z).symm, hnd.2, by simp, fun c hc c' hc' => ?_⟩
      rw [List.mem_singleton] at hc'
      subst hc'
      exact fun z => hbbs (z ▸ hc)
    · rw [updF_ne hi]; exact r.nd i
  · have key : ∀ i, c ∈ updF F j (a :: (bs ++ [b])) i → c ∈ F i ∨ (i = j ∧ c = b) := fun i h => by
      by_cases hi : i = j
      · subst hi
        rw [updF_self] at h
        rw [hF]
        simp at h ⊢
        rcases h with h | h | h
        · exact .inl (.inl h)
        · exact .inl (.inr h)
        · exact .inr h
      · rw [updF_ne hi] at h; exact .inl h
    rcases key i h1 with z1 | ⟨z1, z2⟩ <;> rcases key i' h2 with y1 | ⟨y1, y2⟩
    · exact r.sep i i' c z1 y1
    · exact absurd ((r.mem c).mpr ⟨i, z1⟩) (y2 ▸ hUb)
    · exact absurd ((r.mem c).mpr ⟨i', y1⟩) (z2 ▸ hUb)
    · rw [z1, y1]
  · constructor
    · rintro (z | z)
      · obtain ⟨i, hi⟩ := (r.mem c).mp z
        by_cases hij : i = j
        · subst hij
          rw [hF] at hi
          refine ⟨i, ?_⟩
          rw [updF_self]
          simp at hi ⊢
          rcases hi with h | h
          · exact .inl h
          · exact .inr (.inl h)
        · exact ⟨i, by rw [updF_ne hij]; exact hi⟩
      · exact ⟨j, by rw [updF_self, z]; simp⟩
    · rintro ⟨i, hi⟩
      by_cases hij : i = j
      · subst hij
        rw [updF_self] at hi
        simp at hi
        rcases hi with h | h | h
        · exact .inl (h ▸ hUa)
        · exact .inl ((r.mem c).mpr ⟨i, by rw [hF]; simp [h]⟩)
        · exact .inr h
      · rw [updF_ne hij] at hi
        exact .inl ((r.mem c).mpr ⟨i, hi⟩)
  · rcases z with z | z
    · exact r.own c z ((hpl c).mpr (.inl q))
    · exact hnb (z ▸ q)
  · have h1 := r.trk c ((hpl c).mpr (.inl z))
    by_cases hc : c = a
    · rw [hc, upd_same]; simp
    · rw [upd_ne hc]; exact h1
  · obtain ⟨g1, sl, g2, g3⟩ := r.pin i c h
    have hne : i ≠ j := fun z => by rw [z, e] at g2; cases g2; cases g3
    exact ⟨g1, sl, by rw [set_ne hne]; exact g2, g3⟩
  · rcases hod i _ ei with ⟨_, q⟩ | ⟨q1, q2⟩
    · cases q
    · exact r.lkp i d q2
/-- one within is changed -/
theorem RepF.odMod (r : RepF K Φ U σ H ρ F) {j n : Nat} {a b : Addr} {bs : List Addr} {kvs : List (D × D)} {k' d d' : D} (e : ρ[j]? = some (.od kvs)) (hF : F j = a :: bs) (hb : bs[n]? = some b) (hn : kvs[n]? = some (k', d))
    (hk : ∀ c, c ≠ b → ∀ o, H c = some o → H' c = some o) (hnn : ∀ c, H' c = none → H c = none) (ho : OwnAt K H' (WU Φ U) b d') : RepF K Φ U σ H' (ρ.set j (.od (kvs.set n (k', d')))) F ∧ SX H U H' U := by
  have hl : j < ρ.length := (List.getElem?_eq_some_iff.mp e).1
  have hUb : U b := (r.mem b).mpr ⟨j, by rw [hF]; simp [List.mem_of_getElem? hb]⟩
  have sx : SX H U H' U := ⟨fun c o q nn => ⟨hk c (fun z => nn (z ▸ hUb)) o q, nn⟩, fun c z => .inl z, hnn⟩
  have st := sx.stp (Φ := Φ)
  have hnd := r.nd j
  rw [hF, List.nodup_cons] at hnd
  have hab : a ≠ b := fun z => hnd.1 (z ▸ List.mem_of_getElem? hb)
  obtain ⟨a1, bs1, x1, x2, x3⟩ := r.ok j _ e
  rw [hF] at x1
  cases x1
  obtain ⟨o, es, ep, g1, g2, g3, g4, g5, g6, g7, g8⟩ := x3
  have hkeys : (kvs.set n (k', d')).map Prod.fst = kvs.map Prod.fst := by
    rw [List.map_set]
    apply List.ext_getElem?
    intro i
    rw [List.getElem?_set]
    split
    · rename_i h
      subst h
      have hl2 := (List.getElem?_eq_some_iff.mp hn).1
      rw [List.getElem?_map, hn]
      simp [hl2]
    · rfl
  have deep : DeepAt K H' (WU Φ U) a (kvs.set n (k', d')) bs := by
    refine ⟨o, es, ep, hk a hab _ g1, g2, g3, g4, by rw [(keys_dOk hkeys).1]; exact g5, by rw [List.length_set]; exact g6, by rw [List.length_set]; exact g7, fun m k2 d2 em => ?_⟩
    rcases get_set em with ⟨h1, h2, _⟩ | ⟨h1, h2⟩
    · subst h1
      cases h2
      obtain ⟨e1, x, b1, q1, q2, q3, q4, q5, q6, q7⟩ := g8 m k' d hn
      rw [hb] at q2
      cases q2
      exact ⟨e1, x, b, q1, hb, q3, R.stp st _ _ q4, q5, q6, ho⟩
    · obtain ⟨e1, x, b1, q1, q2, q3, q4, q5, q6, q7⟩ := g8 m k2 d2 h2
      have hb1 : b1 ≠ b := fun z => h1 ((List.getElem?_inj (List.getElem?_eq_some_iff.mp q2).1 hnd.2).mp (by rw [q2, hb, z]))
      exact ⟨e1, x, b1, q1, q2, q3, R.stp st _ _ q4, q5, q6, q7.stp st fun o q => hk b1 hb1 o q⟩
  have hod : ∀ (i : Nat) (sl : Sl), (ρ.set j (.od (kvs.set n (k', d'))))[i]? = some sl → (i = j ∧ sl = .od (kvs.set n (k', d'))) ∨ (i ≠ j ∧ ρ[i]? = some sl) := fun i sl ei => (get_set ei).imp (fun z => ⟨z.1, z.2.1⟩) id
  refine ⟨⟨by rw [List.length_set]; exact r.len, fun i hi => r.out i (by simpa using hi), fun i sl ei => ?_, fun i j' k ei => ?_, r.nd, r.sep, r.mem, r.own, fun c z q => r.trk c z (hnn c q), fun i c h => ?_, fun i dd ei => ?_⟩, sx⟩
  · rcases hod i sl ei with ⟨rfl, rfl⟩ | ⟨q1, q2⟩
    · exact ⟨a, bs, hF, x2, deep⟩
    · exact (r.ok i sl q2).stp st (fun c hc o q => hk c (fun z => hc.elim (fun w => q1 (r.sep i j b (z ▸ w) (by rw [hF]; simp [List.mem_of_getElem? hb]))) fun w => r.own b hUb (z ▸ .inl w)) o q) (fun c z => z) fun c z => z
  · rcases hod i _ ei with ⟨_, q⟩ | ⟨q1, q2⟩
    · cases q
    · obtain ⟨a1, bs1, kvs1, m, k2, d2, b1, y1, y2, y3, y4, y5, y6⟩ := r.bo i j' k q2
      by_cases hj : j' = j
      · subst hj
        rw [e] at y1
        cases y1
        rw [hF] at y2
        cases y2
        have : ∃ d3, (kvs.set n (k', d'))[m]? = some (k2, d3) := by
          by_cases hm : n = m
          · subst hm
            rw [hn] at y4
            cases y4
            exact ⟨d', List.getElem?_set_self (List.getElem?_eq_some_iff.mp hn).1⟩
          · exact ⟨d2, by rw [List.getElem?_set_ne hm]; exact y4⟩
        obtain ⟨d3, h3⟩ := this
        exact ⟨a, bs, _, m, k2, d3, b1, List.getElem?_set_self hl, hF, y3, h3, y5, y6⟩
      · exact ⟨a1, bs1, kvs1, m, k2, d2, b1, by rw [set_ne hj]; exact y1, y2, y3, y4, y5, y6⟩
  · obtain ⟨g1, sl, g2, g3⟩ := r.pin i c h
    have hne : i ≠ j := fun z => by rw [z, e] at g2; cases g2; cases g3
    exact ⟨g1, sl, by rw [set_ne hne]; exact g2, g3⟩
  · rcases hod i _ ei with ⟨_, q⟩ | ⟨q1, q2⟩
    · cases q
    · exact r.lkp i dd q2
end
end DI
set_option Elab.async false
set_option linter.all false
set_option maxRecDepth 100000
set_option maxHeartbeats 4000000
/-! statements: syntax, meaning -/
namespace DI
open PySem PySem.Spec PyProof.Rows L2
mutual
inductive CS where
  | set (i : Nat) (e : CE) | setT (tg : List Nat) (e : CE) | par (i j : Nat) (a b : CE)
  | exp (e : CE) | app (i : Nat) (e : CE) | ext (i : Nat) (e : CE) | put (i : Nat) (a b : CE)
  | ret (e : CE) | retN | iff (c : CE) (a b : CSs)
  | for_ (tg : List Nat) (isT : Bool) (it : CI) (b : CSs) | forV (tg : List Nat) (isT : Bool) (i : Nat) (b : CSs) | whl (n : Nat) (c : CE) (b : CSs)
  | pass | brk | cont | not_
  | bor (i j : Nat) (k : CE) (isL : Bool) | bo0 (j : Nat) (k : CE) (isL : Bool) | boP (j : Nat) (k : CE) (i2 : Nat) (v : CE)
inductive CSs where
  | nil | cons (s : CS) (ss : CSs)
end
inductive SO where
  | next (ρ : Rho) | brk (ρ : Rho) | cont (ρ : Rho) | ret (d : D) (ρ : Rho) | exc (c : Str) (p : List D) (ρ : Rho) | bad
def SO.bind (o : SO) (f : Rho → SO) : SO := match o with
  | .next ρ => f ρ
  | o => o
@[simp] theorem SO.bind_next (ρ : Rho) (f : Rho → SO) : SO.bind (.next ρ) f = f ρ := rfl
@[simp] theorem SO.bind_brk (ρ : Rho) (f : Rho → SO) : SO.bind (.brk ρ) f = .brk ρ := rfl
@[simp] theorem SO.bind_cont (ρ : Rho) (f : Rho → SO) : SO.bind (.cont ρ) f = .cont ρ := rfl
@[simp] theorem SO.bind_ret (d : D) (ρ : Rho) (f : Rho → SO) : SO.bind (.ret d ρ) f = .ret d ρ := rfl
@[simp] theorem SO.bind_exc (c : Str) (p : List D) (ρ : Rho) (f : Rho → SO) : SO.bind (.exc c p ρ) f = .exc c p ρ := rfl
@[simp] theorem SO.bind_bad (f : Rho → SO) : SO.bind .bad f = .bad := rfl
/-- an expression's answer within a statement -/
def EO.toS {α : Type} (o : EO α) (f : α → Rho → SO) : SO := match o with
  | .ok a ρ => f a ρ
  | .exc c p ρ => .exc c p ρ
  | .bad => .bad
@[simp] theorem toS_ok {α : Type} (a : α) (ρ : Rho) (f : α → Rho → SO) : EO.toS (.ok a ρ) f = f a ρ := rfl
@[simp] theorem toS_exc {α : Type} (c : Str) (p : List D) (ρ : Rho) (f : α → Rho → SO) : EO.toS (.exc c p ρ : EO α) f = .exc c p ρ := rfl
@[simp] theorem toS_bad {α : Type} (f : α → Rho → SO) : EO.toS (.bad : EO α) f = .bad := rfl
def nxO (o : Option Rho) : SO := match o with
  | some ρ => .next ρ
  | none => .bad
/-- a slot given what an expression answers -/
def newS (d : D) (fresh : Bool) : Sl := if (fresh && isBox d) = true then .ow d else .sh d
/-- a list that is added to -/
def appV (i : Nat) (d : D) (ρ : Rho) : SO := match owL ρ[i]? with
  | some ds => if ds.length < 16777216 then .next (ρ.set i (withD ρ[i]? (.list (ds ++ [d])))) else .bad
  | none => .bad
def extV (i : Nat) (es : List D) (ρ : Rho) : SO := match owL ρ[i]? with
  | some ds => if ds.length + es.length ≤ 16777216 then .next (ρ.set i (withD ρ[i]? (.list (ds ++ es)))) else .bad
  | none => .bad
/-- d[k] = v -/
def putDV (i : Nat) (kd d : D) (ρ : Rho) : SO := match owD ρ[i]? with
  | some kvs => if (keyFit kvs kd && dOk (putN kvs kd d)) = true then .next (ρ.set i (withD ρ[i]? (.dict (putN kvs kd d)))) else .bad
  | none => .bad
/-- xs[i] = v -/
def setLV (i : Nat) (kd d : D) (ρ : Rho) : SO := match owL ρ[i]? with
  | some ds => (match asI kd with
    | some j => (match ixN ds.length j with
      | some n => .next (ρ.set i (withD ρ[i]? (.list (ds.set n d))))
      | none => .bad)
    | none => .bad)
  | none => .bad
def asSL : D → Option (List D)
  | .list ds => some ds
  | .tuple ds => some ds
  | _ => none
/-! owned dicts of owned lists, dicts -/
def emptyB (isL : Bool) : D := if isL = true then .list [] else .dict []
def boxIs (isL : Bool) : D → Bool
  | .list _ => isL
  | .dict _ => !isL
  | _ => false
/-- x.setdefault(k, []), x.setdefault(k, {}) -/
def deepV (j : Nat) (isL : Bool) (kd : D) (ρ : Rho) : Option Rho := match deepOf ρ[j]? with
  | some kvs => if keyFit kvs kd = true then (match getN kvs (nkOf kd) with
      | some d => if boxIs isL d = true then some (ρ.set j (.od kvs)) else none
      | none => if dOk (kvs ++ [(kd, emptyB isL)]) = true then some (ρ.set j (.od (kvs ++ [(kd, emptyB isL)]))) else none) else none
  | none => none
def borV (i j : Nat) (kd : D) (ρ : Rho) : SO := if i = j then .bad else nxO (setS i (.bo j kd) ρ)
def shOf (sl : Option Sl) : Option D := match sl with
  | some (.sh d) => some d
  | _ => none
def odOf (sl : Option Sl) : Option (List (D × D)) := match sl with
  | some (.od kvs) => some kvs
  | _ => none
def dcOf (d : Option D) : Option (List (D × D)) := match d with
  | some (.dict w) => some w
  | _ => none
def lsOf (d : Option D) : Option (List D) := match d with
  | some (.list w) => some w
  | _ => none
def boOf (sl : Option Sl) : Option (Nat × D) := match sl with
  | some (.bo j k) => some (j, k)
  | _ => none
/-- x.setdefault(k, {})[k2] = v, what comes last -/
def putBo (j : Nat) (kd kd2 d : D) (ρ : Rho) : SO := match odOf ρ[j]? with
  | some kvs => (match dcOf (getN kvs (nkOf kd)) with
    | some w => if (keyFit w kd2 && dOk (putN w kd2 d)) = true then .next (ρ.set j (.od (putN kvs kd (.dict (putN w kd2 d))))) else .bad
    | none => .bad)
  | none => .bad
/-- a borrowed list -/
def boL (i : Nat) (ρ : Rho) : Option (List D) := (boOf ρ[i]?).bind fun jk => (odOf ρ[jk.1]?).bind fun kvs => lsOf (getN kvs (nkOf jk.2))
/-- a borrowed list that is added to -/
def appB (i : Nat) (d : D) (ρ : Rho) : SO := match boOf ρ[i]? with
  | some jk => (match odOf ρ[jk.1]? with
    | some kvs => (match lsOf (getN kvs (nkOf jk.2)) with
      | some ds => if ds.length < 16777216 then .next (ρ.set jk.1 (.od (putN kvs jk.2 (.list (ds ++ [d]))))) else .bad
      | none => .bad)
    | none => .bad)
  | none => .bad
/-- over what is walked -/
def forS (set : D → Rho → Option Rho) (f : Rho → SO) : List D → Rho → SO
  | [], ρ => .next ρ
  | d :: ds, ρ => match set d ρ with
    | some ρ1 => (match f ρ1 with
      | .next ρ2 => forS set f ds ρ2
      | .cont ρ2 => forS set f ds ρ2
      | .brk ρ2 => .next ρ2
      | o => o)
    | none => .bad
def whS (c : Rho → EO Bool) (f : Rho → SO) : Nat → Rho → SO
  | 0, _ => .bad
  | n + 1, ρ => (c ρ).toS fun b ρ1 => if b = true then (match f ρ1 with
      | .next ρ2 => whS c f n ρ2
      | .cont ρ2 => whS c f n ρ2
      | .brk ρ2 => .next ρ2
      | o => o)
    else .next ρ1
/-- locked while it is walked -/
def unlk (i : Nat) (isIo : Bool) (ρ : Rho) : Rho := match ρ[i]? with
  | some (.lk d) => ρ.set i (if isIo = true then .io d else .ow d)
  | _ => ρ
def SO.unl (i : Nat) (isIo : Bool) (o : SO) : SO := match o with
  | .next ρ => .next (unlk i isIo ρ)
  | .brk ρ => .brk (unlk i isIo ρ)
  | .cont ρ => .cont (unlk i isIo ρ)
  | .ret d ρ => .ret d (unlk i isIo ρ)
  | .exc c p ρ => .exc c p (unlk i isIo ρ)
  | .bad => .bad
def forVS (set : D → Rho → Option Rho) (f : Rho → SO) (i : Nat) (ρ : Rho) : SO := match ρ[i]? with
  | some (.sh d) => (match itemsD d with
    | some ds => forS set f ds ρ
    | none => .bad)
  | some (.pk d) => (match itemsD d with
    | some ds => forS set f ds ρ
    | none => .bad)
  | some (.lk d) => (match itemsD d with
    | some ds => forS set f ds ρ
    | none => .bad)
  | some (.ow d) => (match itemsD d with
    | some ds => (forS set f ds (ρ.set i (.lk d))).unl i false
    | none => .bad)
  | some (.io d) => (match itemsD d with
    | some ds => (forS set f ds (ρ.set i (.lk d))).unl i true
    | none => .bad)
  | _ => .bad
/-- what is told; new where it is to be -/
def retV (cf : Str → List D → CR) (fr : Bool) (e : CE) (ρ : Rho) : SO := if fr = true then match e with
    | .var i => (match (prep i ρ)[i]? with
      | some (.ow d) => .ret d (prep i ρ)
      | some (.sh d) => if isBox d = true then .bad else .ret d (prep i ρ)
      | _ => .bad)
    | e => (evalE cf false e ρ).toS fun d ρ1 => if (isBox d && !freshE e) = true then .bad else .ret d ρ1
  else (evalE cf false e ρ).toS fun d ρ1 => .ret d ρ1
section
variable (cf : Str → List D → CR) (fr : Bool)
mutual
def exec : CS → Rho → SO
  | .set i e, ρ => (evalE cf false e ρ).toS fun d ρ1 => nxO (setS i (newS d (freshE e)) ρ1)
  | .setT tg e, ρ => (evalE cf false e ρ).toS fun d ρ1 => nxO (setTg tg true d ρ1)
  | .par i j a b, ρ => (evalE cf false a ρ).toS fun d ρ1 => (evalE cf false b ρ1).toS fun d' ρ2 => nxO ((setS i (.sh d) ρ2).bind (setS j (.sh d')))
  | .exp e, ρ => (evalE cf false e ρ).toS fun d ρ1 => .next ρ1
  | .app i e, ρ => if (owL ρ[i]?).isSome = true then (evalE cf false e ρ).toS fun d ρ1 => appV i d ρ1 else if (boL i ρ).isSome = true then (evalE cf false e ρ).toS fun d ρ1 => appB i d ρ1 else .bad
  | .ext i e, ρ => if (owL ρ[i]?).isSome = true then (evalE cf true e ρ).toS fun d ρ1 => (match asSL d with
    | some es => extV i es ρ1
    | none => .bad) else .bad
  | .put i a b, ρ => (evalE cf false a ρ).toS fun d ρ1 => if (owD ρ1[i]?).isSome = true then (evalE cf false b ρ1).toS fun kd ρ2 => putDV i kd d ρ2 else if (owL ρ1[i]?).isSome = true then (evalE cf false b ρ1).toS fun kd ρ2 => setLV i kd d ρ2 else .bad
  | .ret e, ρ => retV cf fr e ρ
  | .retN, ρ => .ret .none ρ
  | .iff c a b, ρ => (evalB cf c ρ).toS fun k ρ1 => if k = true then execs a ρ1 else execs b ρ1
  | .for_ tg isT it b, ρ => (evalI cf false it ρ).toS fun ds ρ1 => forS (setTg tg isT) (execs b) ds ρ1
  | .forV tg isT i b, ρ => forVS (setTg tg isT) (execs b) i (prep i ρ)
  | .whl n c b, ρ => whS (evalB cf c) (execs b) n ρ
  | .pass, ρ => .next ρ
  | .brk, ρ => .brk ρ
  | .cont, ρ => .cont ρ
  | .not_, _ => .bad
  | .bor i j k isL, ρ => if (deepOf ρ[j]?).isSome = true then (evalE cf false k ρ).toS fun kd ρ1 => (nxO (deepV j isL kd ρ1)).bind fun ρ2 => borV i j kd ρ2 else .bad
  | .bo0 j k isL, ρ => if (deepOf ρ[j]?).isSome = true then (evalE cf false k ρ).toS fun kd ρ1 => (nxO (deepV j isL kd ρ1)).bind fun ρ2 => .next ρ2 else .bad
  | .boP j k i2 v, ρ => (evalE cf false v ρ).toS fun d ρ1 => if (deepOf ρ1[j]?).isSome = true then (evalE cf false k ρ1).toS fun kd ρ2 => (nxO (deepV j false kd ρ2)).bind fun ρ3 => (match shOf ρ3[i2]? with
    | some kd2 => putBo j kd kd2 d ρ3
    | none => .bad) else .bad
def execs : CSs → Rho → SO
  | .nil, ρ => .next ρ
  | .cons s ss, ρ => (exec s ρ).bind (execs ss)
end
end
end DI
set_option Elab.async false
set_option linter.all false
set_option maxRecDepth 100000
set_option maxHeartbeats 4000000
/-! statements: what holds behind them -/
namespace DI
open PySem PySem.Spec PyProof.Rows L2
/-- what is pinned -/
def slotIL (sl : Option Sl) : Option D := match sl with
  | some (.io d) => some d
  | some (.lk d) => some d
  | _ => none
/-- what a return tells -/
def RetOk (K : PySem.W.Frag × World) (fr : Bool) (Φ : Fr) (σ : L2.St) (H H' : Hp) (ρ : Rho) (d : D) (v : V) : Prop := ∃ Wr : WS, (∀ b, Φ.all b → Wr b) ∧ (∀ (i : Nat) (b : Addr), (i, b) ∈ Φ.pin → Wr b) ∧ R K H' Wr d v ∧
  (fr = true → isBox d = true → ∃ a, v = .ref a ∧ (H a = none ∨ ∃ (i : Nat) (d' : D), ρ[i]? = some (Sl.ow d') ∧ σ[i]? = some (some (V.ref a))) ∧ OwnAt K H' (fun b => Wr b ∨ b = a) a d ∧
    ∀ (i : Nat) (d' : D), slotIL ρ[i]? = some d' → ∃ b, σ[i]? = some (some (V.ref b)) ∧ OwnAt K H' (fun c => Wr c ∨ c = a) b d')
def SR (X : Cx) (Wx : WX) (fr : Bool) (Φ : Fr) (U : WS) (H : Hp) (D : Ends) : SO → Prop
  | .next ρ' => ∀ σ' H' U', Rep (X.K, X.w) Φ U' σ' H' ρ' → SX H U H' U' → D.nx σ' H'
  | .brk ρ' => ∀ σ' H' U', Rep (X.K, X.w) Φ U' σ' H' ρ' → SX H U H' U' → D.bk σ' H'
  | .cont ρ' => ∀ σ' H' U', Rep (X.K, X.w) Φ U' σ' H' ρ' → SX H U H' U' → D.ct σ' H'
  | .ret d ρ' => ∀ v σ' H' U', Rep (X.K, X.w) Φ U' σ' H' ρ' → SX H U H' U' → RetOk (X.K, X.w) fr Φ σ' H H' ρ' d v → D.rt v H'
  | .exc c p ρ' => ∀ cls dd σ' H' U', Rep (X.K, X.w) Φ U' σ' H' ρ' → SX H U H' U' → ExcR X c p cls dd H' → Wx cls dd σ' H'
  | .bad => False
def tS (X : Cx) (Wx : WX) (fr : Bool) (ρ : Rho) (o : SO) : TS := fun D σ H => ∃ Φ U, Rep (X.K, X.w) Φ U σ H ρ ∧ SR X Wx fr Φ U H D o
section
variable {X : Cx} {Wx : WX} {fr : Bool} {Φ : Fr} {U U1 : WS} {σ σ1 : L2.St} {H H1 : Hp} {ρ ρ1 : Rho} {D : Ends}
/-- onward from a later state -/
theorem SR.step {o : SO} (h : SR X Wx fr Φ U H D o) (s : SX H U H1 U1) : SR X Wx fr Φ U1 H1 D o := by
  cases o with
  | next ρ' => exact fun σ' H' U' r t => h σ' H' U' r (s.trans t)
  | brk ρ' => exact fun σ' H' U' r t => h σ' H' U' r (s.trans t)
  | cont ρ' => exact fun σ' H' U' r t => h σ' H' U' r (s.trans t)
  | ret d ρ' => exact fun v σ' H' U' r t ⟨Wr, q1, q2, q3, q4⟩ => h v σ' H' U' r (s.trans t) ⟨Wr, q1, q2, q3, fun z1 z2 => let ⟨a, e, n, o⟩ := q4 z1 z2; ⟨a, e, n.imp (s.trk a) id, o⟩⟩
  | exc c p ρ' => exact fun cls dd σ' H' U' r t q => h cls dd σ' H' U' r (s.trans t) q
  | bad => exact h
/-- an expression within -/
theorem SR.an {α β : Type} {o : EO α} {f : α → Rho → SO} {rel : Rel α β} {pu : Bool} {P : β → Hp → Prop} (r : Rep (X.K, X.w) Φ U σ H ρ) (h : SR X Wx fr Φ U H D (o.toS f))
    (k : ∀ a ρ1 v H1 U1, (∀ b, U1 b → U b) → SX H U H1 U1 → (pu = true → Same H H1) → Rep (X.K, X.w) Φ U1 σ H1 ρ1 → rel σ Φ ρ1 U1 H H1 a v → SR X Wx fr Φ U H D (f a ρ1) → P v H1) : AnW X Wx Φ U pu ρ o rel σ H P := by
  refine ⟨r, ?_⟩
  cases o with
  | ok a ρ1 => exact fun v H1 U1 r1 s l e q => k a ρ1 v H1 U1 l s e r1 q h
  | exc c p ρ1 => exact fun cls dd H1 U1 r1 s l q => h cls dd σ H1 U1 r1 s q
  | bad => exact h
theorem SR.bind {o : SO} {f : Rho → SO} {D' : Ends} (h : SR X Wx fr Φ U H D (o.bind f)) (hb : D'.bk = D.bk) (hc : D'.ct = D.ct) (hr : D'.rt = D.rt)
    (k : ∀ ρ' σ' H' U', o = .next ρ' → Rep (X.K, X.w) Φ U' σ' H' ρ' → SX H U H' U' → SR X Wx fr Φ U' H' D (f ρ') → D'.nx σ' H') : SR X Wx fr Φ U H D' o := by
  cases o with
  | next ρ' => exact fun σ' H' U' r t => k ρ' σ' H' U' rfl r t (SR.step h t)
  | brk ρ' => intro σ' H' U' r t; rw [hb]; exact h σ' H' U' r t
  | cont ρ' => intro σ' H' U' r t; rw [hc]; exact h σ' H' U' r t
  | ret d ρ' => intro v σ' H' U' r t q; rw [hr]; exact h v σ' H' U' r t q
  | exc c p ρ' => exact h
  | bad => exact h
theorem SR.nx {o : Option Rho} (h : SR X Wx fr Φ U H D (nxO o)) : ∃ ρ', o = some ρ' ∧ SR X Wx fr Φ U H D (.next ρ') := by
  cases o with
  | some ρ' => exact ⟨ρ', rfl, h⟩
  | none => exact h.elim
end
end DI
set_option Elab.async false
set_option linter.all false
set_option maxRecDepth 100000
set_option maxHeartbeats 4000000
/-! statements: nodes -/
namespace DI
open PySem PySem.Spec PyProof.Rows L2
section
variable {X : Cx} {Wx : WX} {fr : Bool} {Φ : Fr} {U U1 W : WS} {σ σ1 : L2.St} {H H1 : Hp} {ρ ρ1 : Rho} {DD : Ends} {cf : Str → List D → CR} {k : Nat} {K : PySem.W.Frag × World}
def S3 (cf : Str → List D → CR) (X : Cx) (Wx : WX) (fr : Bool) (st : Stmt) (c : CS) : Prop := PS X st (fun DD σ H => ∃ ρ, tS X Wx fr ρ (exec cf fr c ρ) DD σ H)
def Ss3 (cf : Str → List D → CR) (X : Cx) (Wx : WX) (fr : Bool) (st : List Stmt) (c : CSs) : Prop := PSs X st (fun DD σ H => ∃ ρ, tS X Wx fr ρ (execs cf fr c ρ) DD σ H)
theorem ss_nil : Ss3 cf X Wx fr [] .nil := PSs.imp pss_nil fun DD σ H ⟨ρ, Φ, U, r, h⟩ => h σ H U r (SX.refl _ _)
theorem ss_cons {s : Stmt} {ss : List Stmt} {c : CS} {cs : CSs} (h1 : S3 cf X Wx fr s c) (h2 : Ss3 cf X Wx fr ss cs) : Ss3 cf X Wx fr (s :: ss) (.cons c cs) := by
  refine PSs.imp (pss_cons h1 h2) fun DD σ H ⟨ρ, Φ, U, r, h⟩ => ?_
  simp only [execs] at h
  exact ⟨ρ, Φ, U, r, SR.bind h rfl rfl rfl fun ρ' σ' H' U' e r' s h' => ⟨ρ', Φ, U', r', h'⟩⟩
theorem s_not {st : Stmt} : S3 cf X Wx fr st .not_ := ⟨fun pins s σ H DD I ⟨ρ, Φ, U, r, h⟩ => by simp only [exec] at h; exact h.elim⟩
theorem s_pass {pos : Pos} : S3 cf X Wx fr (.Pass pos) .pass := PS.imp ps_pass fun DD σ H ⟨ρ, Φ, U, r, h⟩ => h σ H U r (SX.refl _ _)
theorem s_brk {pos : Pos} : S3 cf X Wx fr (.Break pos) .brk := PS.imp ps_break fun DD σ H ⟨ρ, Φ, U, r, h⟩ => h σ H U r (SX.refl _ _)
theorem s_cont {pos : Pos} : S3 cf X Wx fr (.Continue pos) .cont := PS.imp ps_continue fun DD σ H ⟨ρ, Φ, U, r, h⟩ => h σ H U r (SX.refl _ _)
theorem s_doc {x : Str} {j : Nat} {pos pos' : Pos} : S3 cf X Wx fr (.Expr (.Constant (.str x) j pos) pos') .pass := PS.imp ps_doc fun DD σ H ⟨ρ, Φ, U, r, h⟩ => h σ H U r (SX.refl _ _)
/-- new or not -/
def rNv (K : PySem.W.Frag × World) (b : Bool) : Rel D V := fun σ Φ ρ U H H' d v => if b = true then RM K .fr σ Φ ρ U H H' d v else R K H' (WU Φ U) d v
theorem E3.nv {e : Expr} {c : CE} (h : E3 cf X Wx e c) : PE X e (fun σ H Q => ∃ ρ, An X Wx (pureE c) ρ (evalE cf false c ρ) (rNv (X.K, X.w) (freshE c)) σ H Q) := by
  cases hf : freshE c with
  | true => exact PE.imp (h.f hf) fun σ H Q ⟨ρ, Φ, U, q⟩ => ⟨ρ, Φ, U, q.weak fun ρ' H' U' a v r => by simpa only [rNv, if_true] using r⟩
  | false => exact PE.imp h.v fun σ H Q ⟨ρ, Φ, U, q⟩ => ⟨ρ, Φ, U, q.weak fun ρ' H' U' a v r => by simpa only [rNv, Bool.false_eq_true, if_false, RM] using r⟩
/-- a slot given a value: what holds then -/
theorem set_ok {i : Nat} {d : D} {v : V} {fresh : Bool} (r0 : Rep (X.K, X.w) Φ U σ H ρ) (s : SX H U H1 U1) (r : Rep (X.K, X.w) Φ U1 σ H1 ρ1) (hv : rNv (X.K, X.w) fresh σ Φ ρ1 U1 H H1 d v) (h : SR X Wx fr Φ U H DD (nxO (setS i (newS d fresh) ρ1))) : DD.nx (σ.set i (some v)) H1 := by
  obtain ⟨ρ2, e, h⟩ := SR.nx h
  cases hb : (fresh && isBox d) with
  | true =>
    rw [Bool.and_eq_true] at hb
    rw [show newS d fresh = .ow d by unfold newS; rw [hb.1, hb.2]; rfl] at e
    unfold rNv at hv
    rw [if_pos hb.1] at hv
    obtain ⟨rn, rp⟩ := hv
    obtain ⟨a, ev, hn, ho⟩ := rn.2 hb.2
    subst ev
    have ea : apF d (.ref a) = some a := by unfold apF; rw [if_pos hb.2]
    rw [ea] at rp
    obtain ⟨U2, q1, q2⟩ := rp.setOw (fun z => r0.wtrk a (.inl z) hn) e ho
    exact h _ _ U2 q1 (s.add q2 fun b z => by cases z; exact hn)
  | false =>
    rw [show newS d fresh = .sh d by unfold newS; rw [hb]; rfl] at e
    have hR : R (X.K, X.w) H1 (WU Φ U1) d v := by
      unfold rNv at hv
      split at hv
      · exact hv.1.1
      · exact hv
    obtain ⟨U2, q1, q2⟩ := r.setSh e hR
    exact h _ _ U2 q1 (s.trans (SX.less (Same.refl _) q2))
theorem tS_set {i : Nat} {o : EO D} {b pu : Bool} {σ : L2.St} {H : Hp} (h : tS X Wx fr ρ (o.toS fun d ρ1 => nxO (setS i (newS d b) ρ1)) DD σ H) : tAsg (An X Wx pu ρ o (rNv (X.K, X.w) b)) (gName i) DD σ H := by
  obtain ⟨Φ, U, r, h⟩ := h
  exact ⟨Φ, U, SR.an r h fun d ρ1 v H1 U1 l s e r1 q h1 => set_ok r s r1 q h1⟩
theorem asg_any {g : TG} {t : Rho → TE} {DD : Ends} {σ : L2.St} {H : Hp} {ρ : Rho} (h : tAsg (t ρ) g DD σ H) : tAsg (fun σ H Q => ∃ ρ, t ρ σ H Q) g DD σ H := ⟨ρ, h⟩
theorem s_set {i : Nat} {x : Str} {e : Expr} {c : CE} {p pos : Pos} (hN : X.N.Nodup) (hi : X.N[i]? = some x) (hx : Loc X.env.scope x) (he : E3 cf X Wx e c) (hs : swapsWith e (some (.Name x p)) pos.line X.env = pure false) (hf : X.fn x = true ∨ X.env.scope.names.lookup x = some .local) :
    S3 cf X Wx fr (.Assign [.Name x p] e pos) (.set i c) := by
  refine PS.imp (ps_set hN hi hx he.nv hs hf) fun DD σ H ⟨ρ, h⟩ => ?_
  simp only [exec] at h
  exact asg_any (t := fun ρ => An X Wx (pureE c) ρ (evalE cf false c ρ) (rNv (X.K, X.w) (freshE c))) (tS_set h)
theorem s_setT {tg : List Nat} {es : List Expr} {kk : Nat} {e : Expr} {c : CE} {p pos : Pos} (hg : PG X (.Tuple es kk p) (gD X tg true)) (he : E3 cf X Wx e c) (hw : swappedStores [.Tuple es kk p] e X.env = pure none) :
    S3 cf X Wx fr (.Assign [.Tuple es kk p] e pos) (.setT tg c) := by
  have hs : swapsWithSole [.Tuple es kk p] e pos.line X.env = pure false := by
    unfold swapsWithSole swapsWith
    cases e <;> rfl
  refine PS.imp (ps_asg he.v hg hs hw) fun DD σ H ⟨ρ, Φ, U, r, h⟩ => ?_
  simp only [exec] at h
  refine ⟨ρ, Φ, U, SR.an r h fun d ρ1 v H1 U1 l s e r1 q h1 => ?_⟩
  obtain ⟨ρ2, e2, h1⟩ := SR.nx h1
  exact ⟨Φ, U1, ρ1, d, ρ2, r1, q, e2, fun σ' U' r' a1 a3 a4 => h1 σ' H1 U' r' (s.trans (SX.less (Same.refl _) a1))⟩
theorem s_exp {e : Expr} {c : CE} {pos : Pos} (he : E3 cf X Wx e c) (hs : swapsWith e none pos.line X.env = pure false) : S3 cf X Wx fr (.Expr e pos) (.exp c) := by
  refine PS.imp (ps_expr he.v hs) fun DD σ H ⟨ρ, Φ, U, r, h⟩ => ?_
  simp only [exec] at h
  exact ⟨ρ, Φ, U, SR.an r h fun d ρ1 v H1 U1 l s e r1 q h1 => h1 σ H1 U1 r1 s⟩
theorem s_iff {c : Expr} {cc : CE} {a b : List Stmt} {ca cb : CSs} {pos : Pos} (hc : T3 cf X Wx c cc) (ha : Ss3 cf X Wx fr a ca) (hb : Ss3 cf X Wx fr b cb) : S3 cf X Wx fr (.If c a b pos) (.iff cc ca cb) := by
  refine PS.imp (ps_if hc ha hb) fun DD σ H ⟨ρ, Φ, U, r, h⟩ => ?_
  simp only [exec] at h
  refine ⟨ρ, Φ, U, SR.an r h fun d ρ1 v H1 U1 l s e r1 q h1 => ?_⟩
  have q : d = v := q
  subst q
  split <;> rename_i hk
  · rw [if_pos hk] at h1
    exact ⟨ρ1, Φ, U1, r1, SR.step h1 s⟩
  · rw [if_neg hk] at h1
    exact ⟨ρ1, Φ, U1, r1, SR.step h1 s⟩
theorem Rep.wrB (r : Rep K Φ U σ H ρ) : (∀ b, Φ.all b → WU Φ U b) ∧ ∀ i b, (i, b) ∈ Φ.pin → WU Φ U b := by
  refine ⟨fun b z => .inl z, fun i b z => ?_⟩
  obtain ⟨F, r⟩ := r
  obtain ⟨h1, sl, h2, h3⟩ := r.pin i b z
  have ok := r.ok i _ h2
  cases sl <;> simp only [isPin] at h3 <;> first | cases h3 | skip
  · obtain ⟨a, q1, q2, q3⟩ := ok
    rw [h1] at q2
    cases q2
    exact .inr ((r.mem b).mpr ⟨i, by rw [q1]; simp⟩)
  · obtain ⟨q1, a, q2, q3, q4⟩ := ok
    rw [h1] at q2
    cases q2
    exact .inl (.inl (.inr q4))
theorem Rep.ilB (r : Rep K Φ U σ H ρ) {i : Nat} {d : D} (h : slotIL ρ[i]? = some d) : ∃ b, σ[i]? = some (some (V.ref b)) ∧ OwnAt K H (WU Φ U) b d := by
  obtain ⟨F, r⟩ := r
  unfold slotIL at h
  split at h
  · rename_i e; cases h
    obtain ⟨a, q1, q2, q3⟩ := r.ok i _ e
    exact ⟨a, q2, q3⟩
  · rename_i e; cases h
    obtain ⟨q1, a, q2, q3, q4⟩ := r.ok i _ e
    exact ⟨a, q2, q3⟩
  · cases h
theorem wu_plus {a b : Addr} (z : WU Φ U b ∨ b = a) : WU (Φ.plus (some a)) U b := by
  rcases z with ((z | z) | z) | z
  · exact .inl (.inl z)
  · exact .inl (.inr (.inl z))
  · exact .inr z
  · exact .inl (.inr (.inr z))
theorem ret_flat (r : Rep K Φ U σ H1 ρ) {d : D} {v : V} (hv : R K H1 (WU Φ U) d v) (hq : fr = false ∨ isBox d = false) : RetOk K fr Φ σ H H1 ρ d v :=
  ⟨WU Φ U, r.wrB.1, r.wrB.2, hv, fun z1 z2 => by rcases hq with q | q <;> simp_all⟩
theorem s_retN {pos : Pos} : S3 cf X Wx fr (.Return none pos) .retN := PS.imp ps_retN fun DD σ H ⟨ρ, Φ, U, r, h⟩ => by
  simp only [exec] at h
  exact h .non σ H U r (SX.refl _ _) (ret_flat r (by simp only [R]) (.inr rfl))
/-- return of what is evaluated -/
theorem s_retE {e : Expr} {c : CE} {pos : Pos} (he : E3 cf X Wx e c) (hq : ∀ ρ, exec cf fr (.ret c) ρ = (evalE cf false c ρ).toS fun d ρ1 => if fr = true ∧ (isBox d && !freshE c) = true then .bad else .ret d ρ1) : S3 cf X Wx fr (.Return (some e) pos) (.ret c) := by
  refine PS.imp (ps_ret he.nv) fun DD σ H ⟨ρ, Φ, U, r, h⟩ => ?_
  rw [hq] at h
  refine ⟨ρ, Φ, U, SR.an r h fun d ρ1 v H1 U1 l s e r1 q h1 => ?_⟩
  split at h1
  · exact h1.elim
  · rename_i hb
    have q' : R (X.K, X.w) H1 (WU Φ U1) d v := by
      unfold rNv at q
      split at q
      · exact q.1.1
      · exact q
    by_cases hfb : fr = true ∧ isBox d = true
    · have hf : freshE c = true := by
        cases hf : freshE c with
        | true => rfl
        | false => exact absurd ⟨hfb.1, by rw [hfb.2, hf]; rfl⟩ hb
      unfold rNv at q
      rw [hf, if_pos rfl] at q
      obtain ⟨rn, rp⟩ := q
      obtain ⟨a, ev, hn, ho⟩ := rn.2 hfb.2
      subst ev
      have ea : apF d (.ref a) = some a := by unfold apF; rw [if_pos hfb.2]
      rw [ea] at rp
      refine h1 _ σ H1 U1 r1 s ⟨WU Φ U1, r1.wrB.1, r1.wrB.2, q', fun _ _ => ⟨a, rfl, .inl hn, ho, fun i d' ei => ?_⟩⟩
      obtain ⟨b, w1, w2⟩ := rp.ilB ei
      exact ⟨b, w1, w2.less fun b z => wu_plus z⟩
    · refine h1 _ σ H1 U1 r1 s (ret_flat r1 q' ?_)
      cases fr with
      | false => exact .inl rfl
      | true =>
        cases hbx : isBox d with
        | false => exact .inr rfl
        | true => exact absurd ⟨rfl, hbx⟩ hfb
theorem s_retV {i : Nat} {x : Str} {p pos : Pos} (hN : X.N[i]? = some x) (hv : Vis X.env.scope x) (hd : (x == ("__debug__" : Str)) = false) (hcd : (x == ("__classdict__" : Str)) = false) (hfr : fr = true) : S3 cf X Wx fr (.Return (some (.Name x p)) pos) (.ret (.var i)) := by
  refine PS.imp (ps_ret (pe_var hN hv hd hcd)) fun DD σ H ⟨ρ, Φ, U, r, h⟩ => ?_
  simp only [exec, retV, hfr, if_true] at h
  obtain ⟨U', r', less⟩ := r.prep i
  generalize prep i ρ = ρ0 at h r'
  have sx : SX H U H U' := SX.less (Same.refl H) less
  have rep := r'
  obtain ⟨F, rf⟩ := r'
  cases e : ρ0[i]? with
  | none => rw [e] at h; exact h.elim
  | some sl =>
    rw [e] at h
    cases sl with
    | sh d =>
      obtain ⟨_, v, h1, h2⟩ := rf.ok i _ e
      dsimp only at h
      split at h
      · exact h.elim
      · rename_i hb
        exact ⟨v, h1, h v σ H U' rep sx (ret_flat rep h2 (.inr (Bool.eq_false_iff.mpr hb)))⟩
    | ow d =>
      obtain ⟨a, h0, h1, h2⟩ := rf.ok i _ e
      have hU : U' a := (rf.mem a).mpr ⟨i, by rw [h0]; simp⟩
      have nall : ¬ Φ.all a := rf.own a hU
      refine ⟨.ref a, h1, h _ σ H U' rep sx ⟨fun b => WU Φ U' b ∧ b ≠ a, fun b z => ⟨.inl z, fun w => nall (w ▸ z)⟩, fun j b z => ⟨rep.wrB.2 j b z, fun w => ?_⟩, h2.toR (fun b z => z.1) (fun z => z.2 rfl), fun _ _ => ⟨a, rfl, .inr ⟨i, d, e, h1⟩, h2.less fun b z => ?_, fun j d' ej => ?_⟩⟩⟩
      · obtain ⟨g1, sl, g2, g3⟩ := rf.pin j b z
        have hji : j = i := by
          have ok := rf.ok j _ g2
          cases sl <;> simp only [isPin] at g3 <;> first | cases g3 | skip
          · obtain ⟨a', q1, q2, q3⟩ := ok
            rw [g1] at q2
            cases q2
            exact rf.sep j i a (by rw [q1, w]; simp) (by rw [h0]; simp)
          · obtain ⟨q1, a', q2, q3, q4⟩ := ok
            rw [g1] at q2
            cases q2
            exact absurd (.inl (.inr (w ▸ q4))) nall
        subst hji
        rw [e] at g2
        cases g2
        cases g3
      · exact z.elim (fun z => z.1) fun z => .inr (z ▸ hU)
      · obtain ⟨b, w1, w2⟩ := rep.ilB ej
        refine ⟨b, w1, w2.less fun c z => ?_⟩
        rcases z with ⟨z, _⟩ | z
        · exact z
        · exact .inr (z ▸ hU)
    | _ => exact h.elim
theorem s_ret {e : Expr} {c : CE} {pos : Pos} (he : E3 cf X Wx e c) (hc : fr = false ∨ ∀ i, c ≠ .var i) : S3 cf X Wx fr (.Return (some e) pos) (.ret c) := by
  refine s_retE he fun ρ => ?_
  simp only [exec, retV]
  cases fr with
  | false => simp
  | true =>
    rcases hc with hc | hc
    · cases hc
    · cases c <;> first | exact absurd rfl (hc _) | simp
end
end DI
set_option Elab.async false
set_option linter.all false
set_option maxRecDepth 100000
set_option maxHeartbeats 4000000
/-! statements: xs.append(x), xs.extend(ys), d[k] = v, a, b = .. -/
namespace DI
open PySem PySem.Spec PyProof.Rows L2
theorem ext_any (t : String) (ht : t = "list" ∨ t = "tuple") (l : Addr) (items : Array Value) (n : Nat) (b : Addr) (od : Option Addr) (osl : Array (Option Value)) (items2 : Array Value) (n2 : Nat) (hc0 : ¬(!items.isEmpty && Builtin.List.listTooLong (items.size + items2.size)) = true) (hc1 : items.size ≤ sizeLine) (hs2 : items.size + items2.size ≤ sizeLine + 1) :
    Meets (Builtin.«list.extend» ⟨[.ref l, .ref b], []⟩) (fun _ R s => s.heap.get? l = some { cls := .type "list", dict := none, data := .seq items n, slots := #[] } ∧ s.heap.get? b = some { cls := .type t, dict := od, data := .seq items2 n2, slots := osl } ∧ R (.ok (.ret Value.none)) { s with heap := s.heap.update l (Obj.mapSeq fun x => x ++ items2), toks := s.toks }) := by
  have f1 := AutoSeq1.idx_int; have f2 := AutoSeq1.sub_tuple_tuple; have f3 := AutoSeq1.sub_list_list; have f4 := AutoSeq1.sub_tuple_list; have f5 := AutoSeq1.sub_list_tuple;
  have hz' : (items ++ items2).size ≤ sizeLine + 1 := by rw [Array.size_append]; exact hs2
  rcases ht with rfl | rfl
  · exact .of_wp fun prog w A R s h => by
      obtain ⟨hp, g, d, tk, os⟩ := s; obtain ⟨hl, hb, h⟩ := h
      wp_walk using (wpAny_updateSeq hl rfl (hz := hc1) (_hz' := hz')), AutoSeq1.wpAny_loadPart' hl, AutoSeq1.wpAny_loadPart' hb; exact ⟨_, rfl, h⟩
  · exact .of_wp fun prog w A R s h => by
      obtain ⟨hp, g, d, tk, os⟩ := s; obtain ⟨hl, hb, h⟩ := h
      wp_walk using (wpAny_updateSeq hl rfl (hz := hc1) (_hz' := hz')), AutoSeq1.wpAny_loadPart' hl, AutoSeq1.wpAny_loadPart' hb; exact ⟨_, rfl, h⟩
def rExtA (X : Cx) : V → List V → Hp → VK → Prop := fun x vs H Q => ∃ l b xs zs, x = .ref l ∧ vs = [.ref b] ∧ H l = some (.lst xs) ∧ (SqL X.K H b zs ∨ SqT X.K H b zs) ∧ xs.length + zs.length ≤ sizeLine ∧ Q .non (upd H l (.lst (xs ++ zs)))
theorem mt_extA {X : Cx} : MtM X "list.extend" (rExtA X) := by
  intro pins s σ H x vs v us Q I rx rv h
  obtain ⟨l, b, xs, zs, rfl, rfl, hH, hB, hz, q⟩ := h
  cases rx
  obtain ⟨u, rfl, ru⟩ := rv.one
  cases ru
  obtain ⟨z, its, n, r, hl, e⟩ := I.lstM hH
  have key : ∃ (t : String) (od : Option Addr) (osl : Array (Option Value)) (its2 : List Value) (n2 : Nat), (t = "list" ∨ t = "tuple") ∧ Vals zs its2 ∧ s.heap.get? b = some { cls := .type t, dict := od, data := .seq its2.toArray n2, slots := osl } := by
    rcases hB with hB | hB
    · obtain ⟨its2, r2, ⟨o, n2, e2, hc, hd, hdt⟩, _⟩ := I.list hB
      obtain ⟨oc, od, odt, osl⟩ := o
      subst hc hdt
      exact ⟨"list", od, osl, its2, n2, .inl rfl, r2, e2⟩
    · obtain ⟨its2, r2, ⟨o, e2, hc, n2, hdt⟩, _⟩ := I.tuple hB
      obtain ⟨oc, od, odt, osl⟩ := o
      subst hc hdt
      exact ⟨"tuple", od, osl, its2, n2, .inr rfl, r2, e2⟩
  obtain ⟨t, od, osl, its2, n2, ht, r2, e2⟩ := key
  have hl2 := r2.length
  have hsz : its.toArray.size + its2.toArray.size ≤ sizeLine := by rw [List.size_toArray, List.size_toArray]; omega
  have hlong : ¬ (!its.toArray.isEmpty && Builtin.List.listTooLong (its.toArray.size + its2.toArray.size)) = true := by
    rw [notLongL hsz, Bool.and_false]
    exact Bool.false_ne_true
  refine call_meets F.slot_list_extend ⟨_, e, rfl⟩ F.entry_list_extend (F.args_list_extend_2 _ _)
    (ext_any t ht l its.toArray n b od osl its2.toArray n2 hlong (by rw [List.size_toArray]; omega) (by omega)) ⟨e, e2, ?_⟩
  refine ⟨.non, _, I.lset (its' := its ++ its2) hH e (by simp) (r.append r2) ?_, rfl, q⟩
  rw [List.length_append]
  omega
section
variable {X : Cx} {Wx : WX} {fr : Bool} {Φ : Fr} {U U1 W : WS} {σ σ1 : L2.St} {H H1 : Hp} {ρ ρ1 : Rho} {DD : Ends} {cf : Str → List D → CR} {k : Nat} {K : PySem.W.Frag × World}
theorem r_sl {d : D} {es : List D} {v : V} {W : WS} (h : asSL d = some es) (r : RP K H W d v) : ∃ b zs, v = .ref b ∧ (SqL K.1 H b zs ∨ SqT K.1 H b zs) ∧ Rs K H W es zs := by
  cases d <;> simp [asSL] at h
  · subst h
    obtain ⟨a, xs, e, h1, h2⟩ := r.list
    exact ⟨a, xs, e, .inl h1, h2⟩
  · subst h
    obtain ⟨a, xs, e, h1, h2⟩ := r.tuple
    exact ⟨a, xs, e, .inr h1.sq, h2⟩
theorem s_ext {i : Nat} {x : Str} {e : Expr} {c : CE} {p ap cp pos : Pos} (hN : X.N[i]? = some x) (hv : Vis X.env.scope x) (hd : (x == ("__debug__" : Str)) = false) (hcd : (x == ("__classdict__" : Str)) = false) (he : E3 cf X Wx e c)
    (hline : (ap.endLine == cp.line) = true) (hst : starEach [e] X.env = [(false, eval e X.env)]) :
    S3 cf X Wx fr (.Expr (.Call (.Attribute (.Name x p) "extend" ap) [e] [] cp) pos) (.ext i c) := by
  refine PS.imp (ps_expr (pe_bm PySem.F.plainAttrs_list PySem.F.slot_list_extend PySem.F.type_list_extend mt_extA (pe_var hN hv hd hcd) (pa_cons he.p pa_nil hst) rfl (by rw [hst]; rfl) hline hst rfl) rfl) fun DD σ H ⟨ρ, Φ, U, r, h⟩ => ?_
  simp only [exec] at h
  cases e0 : owL ρ[i]? with
  | none => rw [e0] at h; exact h.elim
  | some ds0 =>
  rw [e0, if_pos (show (some ds0).isSome = true from rfl)] at h
  obtain ⟨a, xs0, h1, h2, h3, h4, h5⟩ := r.ownL e0
  refine ⟨.ref a, h1, .inl ⟨rfl, xs0, .of h3⟩, ρ, Φ, U, SR.an r h fun d ρ1 v H1 U1 l s e r1 q h6 => ?_⟩
  cases ee : asSL d with
  | none => rw [ee] at h6; exact h6.elim
  | some es =>
  rw [ee] at h6
  dsimp only at h6
  unfold extV at h6
  cases e1 : owL ρ1[i]? with
  | none => rw [e1] at h6; exact h6.elim
  | some ds =>
  rw [e1] at h6
  dsimp only at h6
  split at h6
  · rename_i hz
    obtain ⟨a', xs, g1, g2, g3, g4, g5⟩ := r1.ownL e1
    rw [h1] at g1
    cases g1
    obtain ⟨b, zs, rfl, k1, k3⟩ := r_sl ee q
    obtain ⟨q1, q2⟩ := r1.modL g2 h1 g5 (g4.append k3)
    exact ⟨a, b, xs, zs, rfl, rfl, g3, k1, by rw [g4.length, k3.length]; exact hz, h6 σ _ U1 q1 (s.trans q2)⟩
  · exact h6.elim
theorem s_put {i : Nat} {x : Str} {e ke : Expr} {c kc : CE} {p sp pos : Pos} (hr : Room k X.A) (hN : X.N[i]? = some x) (hv : Vis X.env.scope x) (hd : (x == ("__debug__" : Str)) = false) (hcd : (x == ("__classdict__" : Str)) = false) (he : E3 cf X Wx e c) (hk : E3 cf X Wx ke kc)
    (hsw : swapsWith e (some (.Subscript (.Name x p) ke sp)) pos.line X.env = pure false) :
    S3 cf X Wx fr (.Assign [.Subscript (.Name x p) ke sp] e pos) (.put i c kc) := by
  refine ⟨fun pins s σ H DD I ⟨ρ, Φ, U, r, h⟩ => ?_⟩
  simp only [exec] at h
  refine wpAny_Assign_Subscript (thn (he.v.run pins s σ H _ I ⟨ρ, Φ, U, SR.an r h fun d ρ1 v H1 U1 l1 s1 e1 r1 q1 h1 => (⟨d, ρ1, U1, s1, r1, q1, h1⟩ : ∃ d ρ1 U1, SX H U H1 U1 ∧ Rep (X.K, X.w) Φ U1 σ H1 ρ1 ∧ R (X.K, X.w) H1 (WU Φ U1) d v ∧ SR X Wx fr Φ U H DD (if (owD ρ1[i]?).isSome = true then (evalE cf false kc ρ1).toS fun kd ρ2 => putDV i kd d ρ2 else if (owL ρ1[i]?).isSome = true then (evalE cf false kc ρ1).toS fun kd ρ2 => setLV i kd d ρ2 else .bad))⟩) fun u t1 ⟨v, H1, I1, rv, d, ρ1, U1, s1, r1, q1, h1⟩ => ?_) hsw
  cases e0 : owD ρ1[i]? with
  | none =>
    rw [e0, if_neg (show ¬ (none : Option (List (D × D))).isSome = true by simp)] at h1
    cases e0' : owL ρ1[i]? with
    | none => rw [e0'] at h1; exact h1.elim
    | some ds0 =>
    rw [e0', if_pos (show (some ds0).isSome = true from rfl)] at h1
    obtain ⟨a, xs0, ha, _⟩ := r1.ownL e0'
    refine thn ((pe_var hN hv hd hcd).run pins t1 σ H1 (fun v H' => v = .ref a ∧ H' = H1) I1 ⟨.ref a, ha, rfl, rfl⟩) fun ua t2 ⟨va, H2, I2, r2, e2, e3⟩ => ?_
    subst e2 e3
    cases r2
    refine thn (hk.v.run pins t2 σ H2 _ I2 ⟨ρ1, Φ, U1, SR.an r1 (SR.step h1 s1) fun kd ρ2 y H3 U3 l3 s3 e3 r3 q3 h3 => (⟨kd, ρ2, U3, s3, r3, q3, h3⟩ : ∃ kd ρ2 U3, SX H2 U1 H3 U3 ∧ Rep (X.K, X.w) Φ U3 σ H3 ρ2 ∧ R (X.K, X.w) H3 (WU Φ U3) kd y ∧ SR X Wx fr Φ U1 H2 DD (setLV i kd d ρ2))⟩) fun uk t3 ⟨y, H3, I3, ry, kd, ρ2, U3, s3, r3, q3, h3⟩ => ?_
    unfold setLV at h3
    cases e4 : owL ρ2[i]? with
    | none => rw [e4] at h3; exact h3.elim
    | some ds =>
    rw [e4] at h3
    dsimp only at h3
    cases ej : asI kd with
    | none => rw [ej] at h3; exact h3.elim
    | some j =>
    rw [ej] at h3
    dsimp only at h3
    cases en : ixN ds.length j with
    | none => rw [en] at h3; exact h3.elim
    | some n =>
    rw [en] at h3
    dsimp only at h3
    cases kd <;> simp [asI] at ej
    subst ej
    simp only [R] at q3
    subst q3
    obtain ⟨a', xs, f1, f2, f3, f4, f5⟩ := r3.ownL e4
    rw [ha] at f1
    cases f1
    have hR := R.sx s3 q1
    refine thn (set_list pins t3 σ H3 (.ref a) (.int _) v (.ref a) uk u (fun H' => H' = upd H3 a (.lst (xs.set n v))) I3 rfl ry rv ⟨a, xs, _, n, rfl, rfl, f3, by rw [f4.length]; exact en, rfl⟩) fun _ s' ⟨H', I', eH⟩ => ?_
    subst eH
    obtain ⟨w1, w2⟩ := r3.modL f2 ha f5 (f4.set n hR)
    exact ⟨σ, _, I', h3 σ _ U3 w1 (s3.trans w2)⟩
  | some kvs0 =>
  rw [e0, if_pos (show (some kvs0).isSome = true from rfl)] at h1
  obtain ⟨a, o0, es0, ep0, ha, _⟩ := r1.ownD e0
  refine thn ((pe_var hN hv hd hcd).run pins t1 σ H1 (fun v H' => v = .ref a ∧ H' = H1) I1 ⟨.ref a, ha, rfl, rfl⟩) fun ua t2 ⟨va, H2, I2, r2, e2, e3⟩ => ?_
  subst e2 e3
  cases r2
  refine thn (hk.v.run pins t2 σ H2 _ I2 ⟨ρ1, Φ, U1, SR.an r1 (SR.step h1 s1) fun kd ρ2 y H3 U3 l3 s3 e3 r3 q3 h3 => (⟨kd, ρ2, U3, s3, r3, q3, h3⟩ : ∃ kd ρ2 U3, SX H2 U1 H3 U3 ∧ Rep (X.K, X.w) Φ U3 σ H3 ρ2 ∧ R (X.K, X.w) H3 (WU Φ U3) kd y ∧ SR X Wx fr Φ U1 H2 DD (putDV i kd d ρ2))⟩) fun uk t3 ⟨y, H3, I3, ry, kd, ρ2, U3, s3, r3, q3, h3⟩ => ?_
  unfold putDV at h3
  cases e4 : owD ρ2[i]? with
  | none => rw [e4] at h3; exact h3.elim
  | some kvs =>
  rw [e4] at h3
  dsimp only at h3
  split at h3
  · rename_i hg
    rw [Bool.and_eq_true] at hg
    obtain ⟨a', o, es, ep, f1, f2, g1, g2, g3, g4, g5, g6, hmem⟩ := r3.ownD e4
    rw [ha] at f1
    cases f1
    refine d_putD (by have := hr.un; omega) I3 g1 hmem g3 g4 g5 g6 q3 hg.1 ry (R.sx s3 q1) rv fun o' es' ep' s' I' hx' hd' hr' => ?_
    obtain ⟨w1, w2⟩ := r3.modD f2 ha g2 hx' hd' hr' hg.2
    exact ⟨σ, _, I', h3 σ _ U3 w1 (s3.trans w2)⟩
  · exact h3.elim
end
end DI
set_option Elab.async false
set_option linter.all false
set_option maxRecDepth 100000
set_option maxHeartbeats 4000000
/-! statements: owned dicts of owned lists, dicts -/
namespace DI
open PySem PySem.Spec PyProof.Rows L2
section
variable {X : Cx} {Wx : WX} {fr : Bool} {Φ : Fr} {U U1 W : WS} {σ σ1 : L2.St} {H H1 : Hp} {ρ ρ1 ρ2 : Rho} {DD : Ends} {cf : Str → List D → CR} {k : Nat} {K : PySem.W.Frag × World} {F : Nat → List Addr}
theorem RepF.minus {b : Addr} (r : RepF K (Φ.plus (some b)) U σ H ρ F) : RepF K Φ U σ H ρ F := by
  have hpl : ∀ c, Φ.all c → (Φ.plus (some b)).all c := fun c z => z.elim .inl fun z => .inr (.inl z)
  have st : Stp H (WU (Φ.plus (some b)) U) H (WU Φ U) := Stp.less fun c z => z.elim (fun z => .inl (hpl c z)) .inr
  exact ⟨r.len, r.out, fun i sl e => (r.ok i sl e).stp st (fun c _ o q => q) (fun c z => z) fun c z => z, r.bo, r.nd, r.sep, r.mem, fun c z q => r.own c z (hpl c q), fun c z => r.trk c (hpl c z), r.pin, r.lkp⟩
def Lnk (ρ : Rho) (F : Nat → List Addr) (j : Nat) (kd : D) (b : Addr) (isL : Bool) : Prop := ∃ (a : Addr) (bs : List Addr) (kvs : List (D × D)) (n : Nat) (k' d : D), ρ[j]? = some (.od kvs) ∧ F j = a :: bs ∧ bs[n]? = some b ∧ kvs[n]? = some (k', d) ∧ nkOf k' = nkOf kd ∧ boxIs isL d = true
def DPost (X : Cx) (Φ : Fr) (U : WS) (σ : L2.St) (H : Hp) (ρ : Rho) (j : Nat) (kd : D) (b : Addr) (isL : Bool) : Prop := ∃ F, RepF (X.K, X.w) Φ U σ H ρ F ∧ Lnk ρ F j kd b isL
def tDp (X : Cx) (Wx : WX) (fr : Bool) (cf : Str → List D → CR) (c : CE) (j : Nat) (isL : Bool) (g : D → Rho → SO) : TE := fun σ H Q => ∃ ρ Φ U DD, Rep (X.K, X.w) Φ U σ H ρ ∧ (deepOf ρ[j]?).isSome = true ∧ SR X Wx fr Φ U H DD ((evalE cf false c ρ).toS fun kd ρ1 => (nxO (deepV j isL kd ρ1)).bind (g kd)) ∧
  ∀ kd ρ' b H' U', DPost X Φ U' σ H' ρ' j kd b isL → SX H U H' U' → SR X Wx fr Φ U H DD (g kd ρ') → Q (.ref b) H'
theorem pe_deep {j : Nat} {x : Str} {e f : Expr} {c : CE} {p ap cp : Pos} {isL : Bool} {g : D → Rho → SO} (hr : Room k X.A) (hN : X.N[j]? = some x) (hv : Vis X.env.scope x) (hd : (x == ("__debug__" : Str)) = false) (hcd : (x == ("__classdict__" : Str)) = false) (he : E3 cf X Wx e c)
    (hf : PE X f (fun σ H Q => ∃ ρ, tE X Wx true .fr ρ (.ok (emptyB isL) ρ) σ H Q)) (hline : (ap.endLine == cp.line) = true)
    (hst : starEach [e, f] X.env = (false, eval e X.env) :: starEach [f] X.env) (hst2 : starEach [f] X.env = [(false, eval f X.env)]) :
    PE X (.Call (.Attribute (.Name x p) "setdefault" ap) [e, f] [] cp) (tDp X Wx fr cf c j isL g) := by
  refine PE.imp (pe_dm PySem.F.slot_dict_setdefault PySem.F.type_dict_setdefault (mt_setdG (by have := hr.un; omega)) (pe_var hN hv hd hcd) (pa_cons he.v (pa_cons hf pa_nil hst2) hst) rfl (by rw [hst, hst2]; rfl) hline hst (by rw [hst2]; rfl)) fun σ H Q ⟨ρ, Φ, U, DD, r, h0, h, hq⟩ => ?_
  obtain ⟨kvs0, e0⟩ := Option.isSome_iff_exists.mp h0
  obtain ⟨F, rf⟩ := id r
  obtain ⟨_, a, bs0, hF0, hs0, hd0⟩ := rf.od e0
  obtain ⟨o0, es0, ep0, g1, g2, g3, _⟩ := id hd0
  refine ⟨.ref a, hs0, ⟨a, o0, rfl, g1, g3⟩, ρ, Φ, U, SR.an r h fun kd ρ1 v H1 U1 l1 s1 u1 r1 q1 h1 => ⟨ρ1, Φ, U1, r1, fun w H2 U2 r2 s2 l2 e2 rn => ?_⟩⟩
  obtain ⟨rn, rp⟩ := rn
  have hbox : isBox (emptyB isL) = true := by cases isL <;> rfl
  obtain ⟨b, ev, hn, ho⟩ := rn.2 hbox
  subst ev
  have ea : apF (emptyB isL) (.ref b) = some b := by unfold apF; rw [if_pos hbox]
  rw [ea] at rp
  unfold deepV at h1
  cases e3 : deepOf ρ1[j]? with
  | none => rw [e3] at h1; exact h1.elim
  | some kvs =>
  rw [e3] at h1
  dsimp only at h1
  by_cases hkf : keyFit kvs kd = true
  case neg => rw [if_neg hkf] at h1; exact h1.elim
  rw [if_pos hkf] at h1
  obtain ⟨F2, rf2⟩ := rp
  obtain ⟨rf3, a', bs, hF, hs, hdp⟩ := rf2.od e3
  rw [hs0] at hs
  cases hs
  have hl : j < ρ1.length := by
    rcases deepOf_set e3 with e | ⟨e, _⟩ <;> exact (List.getElem?_eq_some_iff.mp e).1
  have hod : (ρ1.set j (.od kvs))[j]? = some (.od kvs) := List.getElem?_set_self hl
  obtain ⟨o, es, ep, t1, t2, t3, t4, t5, t6⟩ := hdp.tag (bs' := bs ++ [b]) fun n b' q => by rw [List.getElem?_append_left (List.getElem?_eq_some_iff.mp q).1]; exact q
  have hbl : bs.length = kvs.length := by obtain ⟨_, _, _, _, _, _, _, _, _, z, _⟩ := hdp; exact z
  have hok : dOk kvs = true := by obtain ⟨_, _, _, _, _, _, _, z, _⟩ := hdp; exact z
  have hUa : U2 a := (rf3.mem a).mpr ⟨j, by rw [hF]; simp⟩
  have hnb : ¬ Φ.all b := fun z => r1.wtrk b (.inl z) hn
  have hpl : ∀ c, WU (Φ.plus (some b)) U2 c → WU Φ U2 c ∨ c = b := fun c z => z.elim (fun z => z.elim (fun z => .inl (.inl (.inl z))) fun z => z.elim (fun z => .inl (.inl (.inr z))) .inr) fun z => .inl (.inr z)
  have s2s := s2.stp (Φ := Φ)
  have st2 : Stp H1 (WU Φ U1) H2 (WU (Φ.plus (some b)) U2) := ⟨fun c o q n => ⟨(s2s.keep c o q n).1, fun z => (hpl c z).elim (s2s.keep c o q n).2 fun z => by rw [z, hn] at q; cases q⟩, fun c z => (hpl c z).elim (s2s.new c) fun z => .inr (z ▸ hn)⟩
  obtain ⟨k1, k2, k3⟩ := keys_dOk (tag_keys kvs 0)
  refine ⟨WU (Φ.plus (some b)) U2, VPb (bs ++ [b]), tagN 0 kvs, kd, .int (kvs.length : Int), a, v, .ref b, o, es, ep, rfl, rfl, t1, .inr hUa, t2, t3, t4, t6, t5, R.stp st2 _ _ q1, by rw [k2]; exact hkf, ⟨kvs.length, b, rfl, by rw [List.getElem?_append_right (by omega), hbl]; simp, rfl⟩, fun xx hx v' hv' => ?_, fun hnone o' es' ep' hx' hd' hr' => ?_⟩
  · obtain ⟨n, k', p1, p2⟩ := getN_place hx
    rw [tag_get] at p1
    obtain ⟨pp, p3, p4⟩ := Option.map_eq_some_iff.mp p1
    cases p4
    obtain ⟨n', b', p5, p6, p7⟩ := hv'
    subst p7
    have hnn : n' = n := by simp only [Nat.zero_add, PyData.int.injEq] at p5; omega
    subst hnn
    have hlt : n' < kvs.length := (List.getElem?_eq_some_iff.mp p3).1
    rw [List.getElem?_append_left (by omega)] at p6
    have hg : getN kvs (nkOf kd) = some pp.2 := find_mapped (dOk_nodup hok) (k := pp.1) (d := pp.2) p3 p2
    rw [hg] at h1
    dsimp only at h1
    by_cases hbi : boxIs isL pp.2 = true
    · rw [if_pos hbi] at h1
      exact hq kd _ b' H2 U2 ⟨F2, rf3.minus, a, bs, kvs, n', pp.1, pp.2, hod, hF, p6, p3, p2, hbi⟩ (s1.trans s2) h1
    · rw [if_neg hbi] at h1; exact h1.elim
  · have hg : getN kvs (nkOf kd) = none := by
      rw [getN_no, ← k3, ← getN_no]
      exact hnone
    rw [hg] at h1
    dsimp only at h1
    by_cases hok2 : dOk (kvs ++ [(kd, emptyB isL)]) = true
    · rw [if_pos hok2] at h1
      obtain ⟨F', rf', hF'⟩ := rf3.odAdd hnb hod hF hs0 hdp ho hx' hd' hr' hok2
      rw [List.set_set] at rf'
      refine hq kd _ b _ _ ⟨F', rf', a, bs ++ [b], _, kvs.length, kd, emptyB isL, List.getElem?_set_self hl, hF', ?_, ?_, rfl, by cases isL <;> rfl⟩ (s1.trans ⟨fun c o q n => ?_, fun c z => ?_, fun c z => s2.trk c (upd_none z)⟩) h1
      · rw [List.getElem?_append_right (by omega), hbl]; simp
      · rw [List.getElem?_append_right (Nat.le_refl _)]; simp
      · obtain ⟨w1, w2⟩ := s2.keep c o q n
        refine ⟨by rw [upd_ne (fun z => w2 (by rw [z]; exact hUa))]; exact w1, fun z => z.elim w2 fun z => by rw [z, hn] at q; cases q⟩
      · exact z.elim (s2.new c) fun z => .inr (z ▸ hn)
    · rw [if_neg hok2] at h1; exact h1.elim
theorem setS_two {i : Nat} {sl : Sl} (hs : DI.setS i sl ρ = some ρ2) : ∃ ρm, DI.setS i .un ρ = some ρm ∧ ρ2 = ρm.set i sl ∧ ∀ m kvs, m ≠ i → ρ[m]? = some (.od kvs) → ρm[m]? = some (.od kvs) := by
  unfold DI.setS at hs ⊢
  split at hs
  · cases hs
  · cases hs
  · cases hs
  · rename_i kvs e
    cases hs
    exact ⟨_, rfl, by rw [List.set_set], fun m kvs hm e => by rw [set_ne hm]; exact killbo_of e fun k z => by cases z⟩
  · rename_i n1 n2 n3 n4
    cases hs
    refine ⟨ρ.set i .un, ?_, by rw [List.set_set], fun m kvs hm e => by rw [set_ne hm]; exact e⟩
    cases e : ρ[i]? with
    | none => rfl
    | some sl' => cases sl' <;> first | rfl | exact (n1 _ e).elim | exact (n2 _ e).elim | exact (n3 _ e).elim | exact (n4 _ e).elim
/-- a name for what stands within -/
theorem RepF.setBo (r : RepF K Φ U σ H ρ F) {i j : Nat} {kd : D} {b : Addr} {isL : Bool} (lnk : Lnk ρ F j kd b isL) (hij : i ≠ j) (hs : DI.setS i (.bo j kd) ρ = some ρ2) : ∃ U2, Rep K Φ U2 (σ.set i (some (.ref b))) H ρ2 ∧ ∀ a, U2 a → U a := by
  obtain ⟨ρm, hm, e2, hodm⟩ := setS_two hs
  obtain ⟨a, bs, kvs, n, k', d, y1, y2, y3, y4, y5, y6⟩ := lnk
  obtain ⟨U1, F1, h1, h2, h3⟩ := RepF.setG (oa := none) r (fun a z => by cases z) (v := some (.ref b)) (f := []) (fun a => by simp) hm (fun i k z => by cases z) (fun d z => by cases z) .nil rfl
  subst e2
  refine ⟨U1, ?_, fun a z => (h2 a z).elim id fun w => by cases w⟩
  by_cases hl : i < ρm.length
  · have hun : ρm[i]? = some .un := by
      unfold DI.setS at hm
      split at hm
      · cases hm
      · cases hm
      · cases hm
      · cases hm
        exact List.getElem?_set_self (by simpa using hl)
      · cases hm
        exact List.getElem?_set_self (by simpa using hl)
    have hod : ∀ (m : Nat) (sl : Sl), (ρm.set i (.bo j kd))[m]? = some sl → (m = i ∧ sl = .bo j kd) ∨ (m ≠ i ∧ ρm[m]? = some sl) := fun m sl em => (get_set em).imp (fun z => ⟨z.1, z.2.1⟩) id
    have hFi : F1 i = [] := h1.ok i _ hun
    refine ⟨F1, by rw [List.length_set]; exact h1.len, fun m hm => h1.out m (by simpa using hm), fun m sl em => ?_, fun m j' k em => ?_, h1.nd, h1.sep, h1.mem, h1.own, h1.trk, fun m c h => ?_, fun m dd em => ?_⟩
    · rcases hod m sl em with ⟨rfl, rfl⟩ | ⟨q1, q2⟩
      · exact hFi
      · exact h1.ok m sl q2
    · rcases hod m _ em with ⟨rfl, q⟩ | ⟨q1, q2⟩
      · cases q
        exact ⟨a, bs, kvs, n, k', d, b, by rw [set_ne (fun z => hij z.symm)]; exact hodm j kvs (fun z => hij z.symm) y1, by rw [h3 j (fun z => hij z.symm)]; exact y2, y3, y4, y5, List.getElem?_set_self (by have := h1.len; rw [List.length_set] at this; omega)⟩
      · obtain ⟨a1, bs1, kvs1, n1, k1, d1, b1, z1, z2, z3, z4, z5, z6⟩ := h1.bo m j' k q2
        have hne : j' ≠ i := fun z => by rw [z, hun] at z1; cases z1
        exact ⟨a1, bs1, kvs1, n1, k1, d1, b1, by rw [set_ne hne]; exact z1, z2, z3, z4, z5, z6⟩
    · obtain ⟨g1, sl, g2, g3⟩ := h1.pin m c h
      have hne : m ≠ i := fun z => by rw [z, hun] at g2; cases g2; cases g3
      exact ⟨g1, sl, by rw [set_ne hne]; exact g2, g3⟩
    · rcases hod m _ em with ⟨_, q⟩ | ⟨q1, q2⟩
      · cases q
      · exact h1.lkp m dd q2
  · rw [List.set_eq_of_length_le (show ρm.length ≤ i by omega)]
    exact ⟨F1, h1⟩
theorem Lnk.own (r : RepF K Φ U σ H ρ F) {j : Nat} {kd : D} {b : Addr} {isL : Bool} {kvs : List (D × D)} {d : D} (lnk : Lnk ρ F j kd b isL) (e : ρ[j]? = some (.od kvs)) (hg : getN kvs (nkOf kd) = some d) : ∃ (a : Addr) (bs : List Addr) (n : Nat) (k' : D), F j = a :: bs ∧ bs[n]? = some b ∧ kvs[n]? = some (k', d) ∧ nkOf k' = nkOf kd ∧ OwnAt K H (WU Φ U) b d ∧ U b ∧ (nks kvs).Nodup := by
  obtain ⟨a, bs, kvs', n, k', d', y1, y2, y3, y4, y5, y6⟩ := lnk
  rw [e] at y1
  cases y1
  obtain ⟨a2, bs2, w1, w2, w3⟩ := r.ok j _ e
  rw [y2] at w1
  cases w1
  obtain ⟨o, es, ep, g1, g2, g3, g4, g5, g6, g7, g8⟩ := w3
  obtain ⟨e1, x, b1, q1, q2, q3, q4, q5, q6, q7⟩ := g8 n k' d' y4
  rw [y3] at q2
  cases q2
  have := find_mapped (dOk_nodup g5) (k := k') (d := d') y4 y5
  rw [hg] at this
  cases this
  exact ⟨a, bs, n, k', y2, y3, y4, y5, q7, (r.mem b).mpr ⟨j, by rw [y2]; simp [List.mem_of_getElem? y3]⟩, dOk_nodup g5⟩
theorem e_emp {pos : Pos} : PE X (.List [] pos) (fun σ H Q => ∃ ρ, tE X Wx true .fr ρ (.ok (emptyB true) ρ) σ H Q) :=
  PE.imp ((e_lst (cf := fun _ _ => .bad) (cl := .nil) (PA.imp pa_nil fun σ H Q ⟨ρ, Φ, U, h⟩ => h.ok (Same.refl H) (by simp only [rRs, Rs]))).f rfl) fun σ H Q ⟨ρ, h⟩ => ⟨ρ, h⟩
theorem e_emd {pos : Pos} : PE X (.Dict [] [] pos) (fun σ H Q => ∃ ρ, tE X Wx true .fr ρ (.ok (emptyB false) ρ) σ H Q) :=
  PE.imp ((e_dic (cf := fun _ _ => .bad)).f rfl) fun σ H Q ⟨ρ, h⟩ => ⟨ρ, h⟩
theorem odOf_some {sl : Option Sl} {kvs : List (D × D)} (h : odOf sl = some kvs) : sl = some (.od kvs) := by
  unfold odOf at h
  split at h
  · cases h; rfl
  · cases h
theorem lsOf_some {o : Option D} {ds : List D} (h : lsOf o = some ds) : o = some (.list ds) := by
  unfold lsOf at h
  split at h
  · cases h; rfl
  · cases h
theorem dcOf_some {o : Option D} {ds : List (D × D)} (h : dcOf o = some ds) : o = some (.dict ds) := by
  unfold dcOf at h
  split at h
  · cases h; rfl
  · cases h
theorem shOf_some {o : Option Sl} {d : D} (h : shOf o = some d) : o = some (.sh d) := by
  unfold shOf at h
  split at h
  · cases h; rfl
  · cases h
theorem boOf_some {o : Option Sl} {j : Nat} {d : D} (h : boOf o = some (j, d)) : o = some (.bo j d) := by
  unfold boOf at h
  split at h
  · cases h; rfl
  · cases h
theorem bo_view (r : RepF K Φ U σ H ρ F) {i : Nat} {ds : List D} (h : boL i ρ = some ds) : ∃ (j : Nat) (kd : D) (kvs : List (D × D)) (b a : Addr) (bs : List Addr) (n : Nat) (k' : D) (xs : List V), boOf ρ[i]? = some (j, kd) ∧ ρ[j]? = some (.od kvs) ∧ getN kvs (nkOf kd) = some (.list ds) ∧ σ[i]? = some (some (.ref b)) ∧ F j = a :: bs ∧ bs[n]? = some b ∧ kvs[n]? = some (k', .list ds) ∧ nkOf k' = nkOf kd ∧ H b = some (.lst xs) ∧ Rs K H (WU Φ U) ds xs ∧ U b ∧ (nks kvs).Nodup := by
  unfold boL at h
  obtain ⟨⟨j, kd⟩, h1, h⟩ := Option.bind_eq_some_iff.mp h
  obtain ⟨kvs, h2, h⟩ := Option.bind_eq_some_iff.mp h
  have h2 := odOf_some h2
  have h3 := lsOf_some h
  obtain ⟨a, bs, kvs', n, k', d, b, y1, y2, y3, y4, y5, y6⟩ := r.bo i j kd (boOf_some h1)
  rw [h2] at y1
  cases y1
  obtain ⟨a2, bs2, w1, w2, w3⟩ := r.ok j _ h2
  rw [y2] at w1
  cases w1
  obtain ⟨o, es, ep, g1, g2, g3, g4, g5, g6, g7, g8⟩ := w3
  have hg := find_mapped (dOk_nodup g5) (k := k') (d := d) y4 y5
  rw [h3] at hg
  cases hg
  obtain ⟨e1, x, b1, q1, q2, q3, q4, q5, q6, q7⟩ := g8 n k' _ y4
  rw [y3] at q2
  cases q2
  simp only [OwnAt] at q7
  obtain ⟨xs, p1, p2⟩ := q7
  exact ⟨j, kd, kvs, b, a, bs, n, k', xs, h1, h2, h3, y6, y2, y3, y4, y5, p1, p2, (r.mem b).mpr ⟨j, by rw [y2]; simp [List.mem_of_getElem? y3]⟩, dOk_nodup g5⟩
theorem s_app {i : Nat} {x : Str} {e : Expr} {c : CE} {p ap cp pos : Pos} (hN : X.N[i]? = some x) (hv : Vis X.env.scope x) (hd : (x == ("__debug__" : Str)) = false) (hcd : (x == ("__classdict__" : Str)) = false) (he : E3 cf X Wx e c)
    (hline : (ap.endLine == cp.line) = true) (hst : starEach [e] X.env = [(false, eval e X.env)]) :
    S3 cf X Wx fr (.Expr (.Call (.Attribute (.Name x p) "append" ap) [e] [] cp) pos) (.app i c) := by
  refine PS.imp (ps_expr (pe_bm PySem.F.plainAttrs_list PySem.F.slot_list_append PySem.F.type_list_append mt_append (pe_var hN hv hd hcd) (pa_cons he.v pa_nil hst) rfl (by rw [hst]; rfl) hline hst rfl) rfl) fun DD σ H ⟨ρ, Φ, U, r, h⟩ => ?_
  simp only [exec] at h
  cases e0 : owL ρ[i]? with
  | some ds0 =>
    rw [e0, if_pos (show (some ds0).isSome = true from rfl)] at h
    obtain ⟨a, xs0, h1, h2, h3, h4, h5⟩ := r.ownL e0
    refine ⟨.ref a, h1, .inl ⟨rfl, xs0, .of h3⟩, ρ, Φ, U, SR.an r h fun d ρ1 v H1 U1 l s e r1 q h6 => ?_⟩
    unfold appV at h6
    cases e1 : owL ρ1[i]? with
    | none => rw [e1] at h6; exact h6.elim
    | some ds =>
    rw [e1] at h6
    dsimp only at h6
    split at h6
    · rename_i hz
      obtain ⟨a', xs, g1, g2, g3, g4, g5⟩ := r1.ownL e1
      rw [h1] at g1
      cases g1
      have rs : Rs (X.K, X.w) H1 (WU Φ U1) (ds ++ [d]) (xs ++ [v]) := g4.append (Rs.one q)
      obtain ⟨q1, q2⟩ := r1.modL g2 h1 g5 rs
      exact ⟨a, xs, v, rfl, rfl, g3, by rw [g4.length]; exact hz, h6 σ _ U1 q1 (s.trans q2)⟩
    · exact h6.elim
  | none =>
    rw [e0, if_neg (show ¬ (none : Option (List D)).isSome = true by simp)] at h
    cases eb : boL i ρ with
    | none => rw [eb] at h; exact h.elim
    | some ds0 =>
    rw [eb, if_pos (show (some ds0).isSome = true from rfl)] at h
    obtain ⟨F, rf⟩ := id r
    obtain ⟨j0, kd0, kvs0, b, a0, bs0, n0, k0, xs0, w1, w2, w3, w4, w5, w6, w7, w8, w9, w10, w11, w12⟩ := bo_view rf eb
    refine ⟨.ref b, w4, .inl ⟨rfl, xs0, .of w9⟩, ρ, Φ, U, SR.an r h fun d ρ1 v H1 U1 l s e r1 q h6 => ?_⟩
    obtain ⟨F1, rf1⟩ := id r1
    unfold appB at h6
    cases f1 : boOf ρ1[i]? with
    | none => rw [f1] at h6; exact h6.elim
    | some jk =>
    obtain ⟨j, kd⟩ := jk
    rw [f1] at h6
    dsimp only at h6
    cases f2 : odOf ρ1[j]? with
    | none => rw [f2] at h6; exact h6.elim
    | some kvs =>
    rw [f2] at h6
    dsimp only at h6
    cases f3 : lsOf (getN kvs (nkOf kd)) with
    | none => rw [f3] at h6; exact h6.elim
    | some ds =>
    rw [f3] at h6
    dsimp only at h6
    have eb1 : boL i ρ1 = some ds := by
      unfold boL
      rw [f1]
      simp only [Option.bind_some]
      rw [f2]
      simp only [Option.bind_some]
      exact f3
    obtain ⟨j', kd', kvs', b', a1, bs1, n1, k1, xs, x1, x2, x3, x4, x5, x6, x7, x8, x9, x10, x11, x12⟩ := bo_view rf1 eb1
    rw [f1] at x1
    cases x1
    rw [w4] at x4
    cases x4
    have f2' : ρ1[j]? = some (.od kvs) := odOf_some f2
    rw [f2'] at x2
    cases x2
    split at h6
    · rename_i hz
      have st : Stp H1 (WU Φ U1) (upd H1 b (.lst (xs ++ [v]))) (WU Φ U1) := ⟨fun c o eb n => ⟨by rw [upd_ne (fun z => n (by rw [z]; exact .inr x11))]; exact eb, n⟩, fun c z => .inl z⟩
      obtain ⟨q1, q2⟩ := rf1.odMod (H' := upd H1 b (.lst (xs ++ [v]))) (d' := .list (ds ++ [d])) f2' x5 x6 x7 (fun c hc o q => by rw [upd_ne hc]; exact q) (fun c => upd_none) (by simp only [OwnAt]; exact ⟨_, upd_same, Rs.stp st _ _ (x10.append (Rs.one q))⟩)
      rw [putN_set x12 x7 x8] at h6
      exact ⟨b, xs, v, rfl, rfl, x9, by rw [x10.length]; exact hz, h6 σ _ U1 ⟨_, q1⟩ (s.trans q2)⟩
    · exact h6.elim
theorem s_bor {i j : Nat} {y x : Str} {e f : Expr} {c : CE} {py p ap cp pos : Pos} {isL : Bool} (hr : Room k X.A) (hNn : X.N.Nodup) (hi : X.N[i]? = some y) (hy : Loc X.env.scope y) (hs : swapsWith (.Call (.Attribute (.Name x p) "setdefault" ap) [e, f] [] cp) (some (.Name y py)) pos.line X.env = pure false) (hfy : X.fn y = true ∨ X.env.scope.names.lookup y = some .local)
    (hN : X.N[j]? = some x) (hv : Vis X.env.scope x) (hd : (x == ("__debug__" : Str)) = false) (hcd : (x == ("__classdict__" : Str)) = false) (he : E3 cf X Wx e c)
    (hf : PE X f (fun σ H Q => ∃ ρ, tE X Wx true .fr ρ (.ok (emptyB isL) ρ) σ H Q)) (hline : (ap.endLine == cp.line) = true)
    (hst : starEach [e, f] X.env = (false, eval e X.env) :: starEach [f] X.env) (hst2 : starEach [f] X.env = [(false, eval f X.env)]) :
    S3 cf X Wx fr (.Assign [.Name y py] (.Call (.Attribute (.Name x p) "setdefault" ap) [e, f] [] cp) pos) (.bor i j c isL) := by
  refine PS.imp (ps_set hNn hi hy (pe_deep (fr := fr) (cf := cf) (isL := isL) (g := fun kd ρ2 => borV i j kd ρ2) hr hN hv hd hcd he hf hline hst hst2) hs hfy) fun DD σ H ⟨ρ, Φ, U, r, h⟩ => ?_
  simp only [exec] at h
  cases e0 : (deepOf ρ[j]?).isSome with
  | false => rw [e0] at h; exact h.elim
  | true =>
  rw [e0, if_pos rfl] at h
  refine ⟨ρ, Φ, U, DD, r, e0, h, fun kd ρ' b H' U' ⟨F, rf, lnk⟩ s h1 => ?_⟩
  unfold borV at h1
  split at h1
  · exact h1.elim
  · rename_i hij
    obtain ⟨ρ2, e2, h1⟩ := SR.nx h1
    obtain ⟨U2, q1, q2⟩ := rf.setBo lnk hij e2
    exact h1 _ _ U2 q1 (s.trans (SX.less (Same.refl _) q2))
theorem s_bo0 {j : Nat} {x : Str} {e f : Expr} {c : CE} {p ap cp pos : Pos} {isL : Bool} (hr : Room k X.A)
    (hN : X.N[j]? = some x) (hv : Vis X.env.scope x) (hd : (x == ("__debug__" : Str)) = false) (hcd : (x == ("__classdict__" : Str)) = false) (he : E3 cf X Wx e c)
    (hf : PE X f (fun σ H Q => ∃ ρ, tE X Wx true .fr ρ (.ok (emptyB isL) ρ) σ H Q)) (hline : (ap.endLine == cp.line) = true)
    (hst : starEach [e, f] X.env = (false, eval e X.env) :: starEach [f] X.env) (hst2 : starEach [f] X.env = [(false, eval f X.env)]) :
    S3 cf X Wx fr (.Expr (.Call (.Attribute (.Name x p) "setdefault" ap) [e, f] [] cp) pos) (.bo0 j c isL) := by
  refine PS.imp (ps_expr (pe_deep (fr := fr) (cf := cf) (isL := isL) (g := fun kd ρ2 => .next ρ2) hr hN hv hd hcd he hf hline hst hst2) rfl) fun DD σ H ⟨ρ, Φ, U, r, h⟩ => ?_
  simp only [exec] at h
  cases e0 : (deepOf ρ[j]?).isSome with
  | false => rw [e0] at h; exact h.elim
  | true =>
  rw [e0, if_pos rfl] at h
  exact ⟨ρ, Φ, U, DD, r, e0, h, fun kd ρ' b H' U' ⟨F, rf, lnk⟩ s h1 => h1 σ H' U' ⟨F, rf⟩ s⟩
theorem s_boP {j i2 : Nat} {x y : Str} {e ke f : Expr} {c kc : CE} {p py ap cp sp pos : Pos} (hr : Room k X.A)
    (hN : X.N[j]? = some x) (hv : Vis X.env.scope x) (hd : (x == ("__debug__" : Str)) = false) (hcd : (x == ("__classdict__" : Str)) = false)
    (hN2 : X.N[i2]? = some y) (hv2 : Vis X.env.scope y) (hd2 : (y == ("__debug__" : Str)) = false) (hcd2 : (y == ("__classdict__" : Str)) = false) (hv0 : E3 cf X Wx e c) (he : E3 cf X Wx ke kc)
    (hf : PE X f (fun σ H Q => ∃ ρ, tE X Wx true .fr ρ (.ok (emptyB false) ρ) σ H Q)) (hline : (ap.endLine == cp.line) = true)
    (hst : starEach [ke, f] X.env = (false, eval ke X.env) :: starEach [f] X.env) (hst2 : starEach [f] X.env = [(false, eval f X.env)])
    (hsw : swapsWith e (some (.Subscript (.Call (.Attribute (.Name x p) "setdefault" ap) [ke, f] [] cp) (.Name y py) sp)) pos.line X.env = pure false) :
    S3 cf X Wx fr (.Assign [.Subscript (.Call (.Attribute (.Name x p) "setdefault" ap) [ke, f] [] cp) (.Name y py) sp] e pos) (.boP j kc i2 c) := by
  refine ⟨fun pins s σ H DD I ⟨ρ, Φ, U, r, h⟩ => ?_⟩
  simp only [exec] at h
  refine wpAny_Assign_Subscript (thn (hv0.v.run pins s σ H _ I ⟨ρ, Φ, U, SR.an r h fun d ρ1 v H1 U1 l1 s1 e1 r1 q1 h1 => (⟨d, ρ1, U1, s1, r1, q1, h1⟩ : ∃ d ρ1 U1, SX H U H1 U1 ∧ Rep (X.K, X.w) Φ U1 σ H1 ρ1 ∧ R (X.K, X.w) H1 (WU Φ U1) d v ∧ SR X Wx fr Φ U H DD (if (deepOf ρ1[j]?).isSome = true then (evalE cf false kc ρ1).toS fun kd ρ2 => (nxO (deepV j false kd ρ2)).bind fun ρ3 => (match shOf ρ3[i2]? with
    | some kd2 => putBo j kd kd2 d ρ3
    | none => .bad) else .bad))⟩) fun u t1 ⟨v, H1, I1, rv, d, ρ1, U1, s1, r1, q1, h1⟩ => ?_) hsw
  cases e0 : (deepOf ρ1[j]?).isSome with
  | false => rw [e0] at h1; exact h1.elim
  | true =>
  rw [e0, if_pos rfl] at h1
  refine thn ((pe_deep (fr := fr) (cf := cf) (isL := false) (Wx := Wx) (g := fun kd ρ3 => match shOf ρ3[i2]? with
    | some kd2 => putBo j kd kd2 d ρ3
    | none => .bad) hr hN hv hd hcd he hf hline hst hst2).run pins t1 σ H1 (fun v H' => ∃ b kd ρ' U', v = V.ref b ∧ DPost X Φ U' σ H' ρ' j kd b false ∧ SX H1 U1 H' U' ∧ SR X Wx fr Φ U1 H1 DD (match shOf ρ'[i2]? with
    | some kd2 => putBo j kd kd2 d ρ'
    | none => .bad)) I1 ⟨ρ1, Φ, U1, DD, r1, e0, SR.step h1 s1, fun kd ρ' b H' U' post s h2 => ⟨b, kd, ρ', U', rfl, post, s, h2⟩⟩) fun ub t2 ⟨vb, H2, I2, rb, b, kd, ρ', U', eb, ⟨F, rf, lnk⟩, s2, h2⟩ => ?_
  subst eb
  cases rb
  cases f1 : shOf ρ'[i2]? with
  | none => rw [f1] at h2; exact h2.elim
  | some kd2 =>
  rw [f1] at h2
  dsimp only at h2
  obtain ⟨z0, y2, hy2, ry2⟩ := rf.ok i2 _ (shOf_some f1)
  refine thn ((pe_var hN2 hv2 hd2 hcd2).run pins t2 σ H2 (fun v H' => v = y2 ∧ H' = H2) I2 ⟨y2, hy2, rfl, rfl⟩) fun uk t3 ⟨vk, H3, I3, rk, e2, e3⟩ => ?_
  subst e2 e3
  unfold putBo at h2
  cases f2 : odOf ρ'[j]? with
  | none => rw [f2] at h2; exact h2.elim
  | some kvs =>
  rw [f2] at h2
  dsimp only at h2
  cases f3 : dcOf (getN kvs (nkOf kd)) with
  | none => rw [f3] at h2; exact h2.elim
  | some w =>
  rw [f3] at h2
  dsimp only at h2
  split at h2
  · rename_i hg
    rw [Bool.and_eq_true] at hg
    obtain ⟨a, bs, n, k', p1, p2, p3, p4, p5, p6, p7⟩ := lnk.own rf (odOf_some f2) (dcOf_some f3)
    simp only [OwnAt] at p5
    obtain ⟨o, es, ep, w1, w2, w3, w4, w5, w6⟩ := p5
    refine d_putD (by have := hr.un; omega) I3 w1 (.inr p6) w3 w4 w5 w6 ry2 hg.1 rk (R.sx s2 q1) rv fun o' es' ep' s' I' hx' hd' hr' => ?_
    obtain ⟨x1, x2⟩ := rf.odMod (H' := upd _ b (.ext fun h => h.get? b = some o')) (d' := .dict (putN w kd2 d)) (odOf_some f2) p1 p2 p3 (fun c hc o q => by rw [upd_ne hc]; exact q) (fun c => upd_none) (by simp only [OwnAt]; exact ⟨o', es', ep', upd_same, w2, hx', hd', hr', hg.2⟩)
    rw [putN_set p7 p3 p4] at h2
    exact ⟨σ, _, I', h2 σ _ U' ⟨_, x1⟩ (s2.trans x2)⟩
  · exact h2.elim
end
end DI
set_option Elab.async false
set_option linter.all false
set_option maxRecDepth 100000
set_option maxHeartbeats 4000000
/-! statements: loops, pairs -/
namespace DI
open PySem PySem.Spec PyProof.Rows L2
section
variable {X : Cx} {Wx : WX} {fr : Bool} {Φ : Fr} {U U1 W ap : WS} {σ σ1 : L2.St} {H H1 : Hp} {ρ ρ1 : Rho} {DD : Ends} {cf : Str → List D → CR} {k : Nat} {K : PySem.W.Frag × World} {F F1 : Nat → List Addr}
theorem for_core {tgl : List Nat} {isT : Bool} {cb : CSs} {ds : List D} {J : It} (r : Rep (X.K, X.w) Φ U σ H ρ) (feeds : Feeds (X.K, X.w) H (WU Φ U) ap ds J) (hap : ∀ a, ap a → ¬ U a) (h : SR X Wx fr Φ U H DD (forS (setTg tgl isT) (execs cf fr cb) ds ρ)) :
    ∃ W : Nat → Nat → L2.St → Hp → Prop, (∃ m, W 0 m σ H) ∧ ∀ i m σ H, W i m σ H →
      (J.stop i H ∧ DD.nx σ H) ∨ (J.go i H ∧ ∃ N : L2.St → Hp → Prop, (∀ σ' H', N σ' H' → ∃ m', m' < m ∧ W (i + 1) m' σ' H') ∧ ∀ x H', J.yld i H x H' → gD X tgl isT x σ H' fun σ2 H2 => ∃ ρ, tS X Wx fr ρ (execs cf fr cb ρ) { DD with nx := N, ct := N, bk := DD.nx } σ2 H2) := by
  refine ⟨fun i m σ' H' => i ≤ ds.length ∧ m = ds.length - i ∧ ∃ ρ' U', Rep (X.K, X.w) Φ U' σ' H' ρ' ∧ SX H U H' U' ∧ SR X Wx fr Φ U H DD (forS (setTg tgl isT) (execs cf fr cb) (ds.drop i) ρ'),
    ⟨ds.length, Nat.zero_le _, rfl, ρ, U, r, SX.refl _ _, h⟩, fun i m σ' H' hW => ?_⟩
  obtain ⟨hle, hm, ρ', U', r', st, h2⟩ := hW
  obtain ⟨fe, fs⟩ := feeds H' (WU Φ U') st.stp (fun a ha o e => (st.keep a o e (hap a ha)).1) r'.wtrk
  by_cases hlt : i < ds.length
  · right
    have e1 : ds[i]? = some ds[i] := List.getElem?_eq_getElem hlt
    obtain ⟨go, yl⟩ := fe i _ e1
    rw [List.drop_eq_getElem_cons hlt] at h2
    refine ⟨go, fun σ2 H2 => ∃ ρ2 U2, Rep (X.K, X.w) Φ U2 σ2 H2 ρ2 ∧ SX H U H2 U2 ∧ SR X Wx fr Φ U H DD (forS (setTg tgl isT) (execs cf fr cb) (ds.drop (i + 1)) ρ2), fun σ2 H2 ⟨ρ2, U2, n1, n2, n3⟩ => ⟨ds.length - (i + 1), by omega, by omega, rfl, ρ2, U2, n1, n2, n3⟩, fun x H'' hy => ?_⟩
    obtain ⟨s2, rx⟩ := yl x H'' hy
    simp only [forS] at h2
    split at h2
    · rename_i ρ1 e2
      refine ⟨Φ, U', ρ', _, ρ1, r'.same s2, rx, e2, fun σ2 U2 r2 a1 a3 a4 => ⟨ρ1, Φ, U2, r2, ?_⟩⟩
      have st2 : SX H U H'' U2 := (st.trans (SX.of_same s2)).trans (SX.less (Same.refl _) a1)
      split at h2
      · rename_i ρ2 e3
        rw [e3]
        exact fun σ3 H3 U3 r3 t3 => ⟨ρ2, U3, r3, st2.trans t3, h2⟩
      · rename_i ρ2 e3
        rw [e3]
        exact fun σ3 H3 U3 r3 t3 => ⟨ρ2, U3, r3, st2.trans t3, h2⟩
      · rename_i ρ2 e3
        rw [e3]
        exact fun σ3 H3 U3 r3 t3 => h2 σ3 H3 U3 r3 (st2.trans t3)
      · rename_i n1 n2 n3
        have h3 := SR.step h2 st2
        revert h3
        cases e3 : execs cf fr cb ρ1 with
        | next ρ2 => exact absurd e3 (n1 ρ2)
        | cont ρ2 => exact absurd e3 (n2 ρ2)
        | brk ρ2 => exact absurd e3 (n3 ρ2)
        | ret d ρ2 => exact id
        | exc c p ρ2 => exact id
        | bad => exact id
    · exact h2.elim
  · left
    have e : i = ds.length := by omega
    subst e
    rw [List.drop_length] at h2
    exact ⟨fs, h2 σ' H' U' r' st⟩
theorem s_for {tg it : Expr} {b : List Stmt} {tgl : List Nat} {isT : Bool} {ci : CI} {cb : CSs} {pos : Pos} (hp : PassesOwn (model X.prog X.w) X.A X.env X.xe) (hc : X.calm = true) (hi : I3 cf X Wx tg it ci) (hg : PG X tg (gD X tgl isT)) (hb : Ss3 cf X Wx fr b cb)
    (hs : ∀ x, foldedSetIterable it X.env x = pure x) : S3 cf X Wx fr (.For tg it b [] pos) (.for_ tgl isT ci cb) := by
  refine PS.imp (ps_for hp hc (hi false) hg hb hs) fun DD σ H ⟨ρ, Φ, U, r, h⟩ => ?_
  simp only [exec] at h
  refine ⟨ρ, Φ, U, SR.an r h fun ds ρ1 J H1 U1 l s e r1 ⟨ap, hap, feeds⟩ h1 => ?_⟩
  exact for_core r1 feeds (fun a z => (hap rfl a z).elim) (SR.step h1 s)
/-! over a name's list, dict: locked meanwhile -/
def lockF (Φ : Fr) (i : Nat) (a : Addr) : Fr := ⟨Φ.w0, fun b => Φ.lw b ∨ b = a, Φ.ap, (i, a) :: Φ.pin⟩
def lockU (U : WS) (a : Addr) : WS := fun b => U b ∧ b ≠ a
theorem lock_all {i : Nat} {a : Addr} : ∀ b, (lockF Φ i a).all b ↔ (Φ.all b ∨ b = a) := fun b => by
  constructor
  · rintro ((z | (z | z)) | z)
    · exact .inl (.inl (.inl z))
    · exact .inl (.inl (.inr z))
    · exact .inr z
    · exact .inl (.inr z)
  · rintro (((z | z) | z) | z)
    · exact .inl (.inl z)
    · exact .inl (.inr (.inl z))
    · exact .inr z
    · exact .inl (.inr (.inr z))
theorem lock_wu {i : Nat} {a : Addr} (ha : U a) : ∀ b, WU (lockF Φ i a) (lockU U a) b ↔ WU Φ U b := fun b => by
  constructor
  · rintro (z | z)
    · exact ((lock_all b).mp z).elim .inl fun z => .inr (by rw [z]; exact ha)
    · exact .inr z.1
  · rintro (z | z)
    · exact .inl ((lock_all b).mpr (.inl z))
    · by_cases e : b = a
      · exact .inl ((lock_all b).mpr (.inr e))
      · exact .inr ⟨z, e⟩
theorem RepF.lock (r : RepF K Φ U σ H ρ F) {i : Nat} {a : Addr} {d : D} (hF : F i = [a]) (hs : σ[i]? = some (some (V.ref a))) (ho : OwnAt K H (WU Φ U) a d) (hk : ρ[i]? = some (.ow d) ∨ ρ[i]? = some (.io d)) :
    RepF K (lockF Φ i a) (lockU U a) σ H (ρ.set i (.lk d)) (updF F i []) := by
  have hU : U a := (r.mem a).mpr ⟨i, by rw [hF]; simp⟩
  have nal : ¬ Φ.all a := r.own a hU
  have hl : i < ρ.length := by rcases hk with h | h <;> exact (List.getElem?_eq_some_iff.mp h).1
  have st : Stp H (WU Φ U) H (WU (lockF Φ i a) (lockU U a)) := Stp.less fun b z => (lock_wu hU b).mp z
  have hne : ∀ j, j ≠ i → ∀ b ∈ F j, b ≠ a := fun j hj b hb z => hj (r.sep j i b hb (by rw [hF, z]; simp))
  refine ⟨by simpa using r.len, fun j hj => ?_, fun j sl e => ?_, fun j j' k e => ?_, fun j => ?_, fun j j' b h1 h2 => ?_, fun b => ?_, fun b z w => ?_, fun b z => ?_, fun j b z => ?_, fun j d' z => ?_⟩
  · rw [List.length_set] at hj
    rw [updF_ne (by omega)]
    exact r.out j hj
  · rcases get_set e with ⟨h1, h2, _⟩ | ⟨h1, h2⟩
    · subst h1 h2
      exact ⟨updF_self _ _, a, hs, ho.less fun b z => (lock_wu hU b).mp z, .inr rfl⟩
    · rw [updF_ne h1]
      exact (r.ok j sl h2).stp st (fun b _ o q => q) (fun b z => z) fun b z => .inl z
  · rcases get_set e with ⟨h1, h2, _⟩ | ⟨h1, h2⟩
    · cases h2
    · obtain ⟨a1, bs1, kvs1, n, k', d1, b, y1, y2, y3, y4, y5, y6⟩ := r.bo j j' k h2
      have hj' : j' ≠ i := fun z => by rw [z] at y1; rcases hk with h | h <;> (rw [h] at y1; cases y1)
      exact ⟨a1, bs1, kvs1, n, k', d1, b, by rw [set_ne hj']; exact y1, by rw [updF_ne hj']; exact y2, y3, y4, y5, y6⟩
  · by_cases hj : j = i
    · subst hj; rw [updF_self]; exact .nil
    · rw [updF_ne hj]; exact r.nd j
  · by_cases hj : j = i
    · subst hj; rw [updF_self] at h1; cases h1
    · by_cases hj' : j' = i
      · subst hj'; rw [updF_self] at h2; cases h2
      · rw [updF_ne hj] at h1; rw [updF_ne hj'] at h2; exact r.sep j j' b h1 h2
  · constructor
    · rintro ⟨z, w⟩
      obtain ⟨j, hj⟩ := (r.mem b).mp z
      have hji : j ≠ i := fun q => w (by rw [q, hF] at hj; simpa using hj)
      exact ⟨j, by rw [updF_ne hji]; exact hj⟩
    · rintro ⟨j, hj⟩
      by_cases hji : j = i
      · subst hji; rw [updF_self] at hj; cases hj
      · rw [updF_ne hji] at hj
        exact ⟨(r.mem b).mpr ⟨j, hj⟩, hne j hji b hj⟩
  · rcases (lock_all b).mp w with w | w
    · exact r.own b z.1 w
    · exact z.2 w
  · rcases (lock_all b).mp z with z | z
    · exact r.trk b z
    · rw [z]; exact r.utrk a hU
  · rcases List.mem_cons.mp z with z | z
    · cases z
      exact ⟨hs, .lk d, List.getElem?_set_self hl, rfl⟩
    · obtain ⟨g1, sl, g2, g3⟩ := r.pin j b z
      by_cases hj : j = i
      · subst hj
        exact ⟨g1, .lk d, List.getElem?_set_self hl, rfl⟩
      · exact ⟨g1, sl, by rw [set_ne hj]; exact g2, g3⟩
  · rcases get_set z with ⟨h1, h2, _⟩ | ⟨h1, h2⟩
    · subst h1
      exact ⟨a, List.mem_cons_self⟩
    · obtain ⟨b, hb⟩ := r.lkp j d' h2
      exact ⟨b, List.mem_cons_of_mem _ hb⟩
/-- other pinned places are elsewhere -/
theorem RepF.pin_ne (r : RepF K Φ U σ H ρ F) {i : Nat} {a : Addr} (hF : F i = [a]) : ∀ j b, (j, b) ∈ Φ.pin → j ≠ i → b ≠ a := fun j b h hj z => by
  obtain ⟨g1, sl, g2, g3⟩ := r.pin j b h
  have ok := r.ok j _ g2
  cases sl <;> simp only [isPin] at g3 <;> first | cases g3 | skip
  · obtain ⟨a', q1, q2, q3⟩ := ok
    rw [g1] at q2
    cases q2
    exact hj (r.sep j i b (by rw [q1]; simp) (by rw [hF, z]; simp))
  · obtain ⟨q1, a', q2, q3, q4⟩ := ok
    rw [g1] at q2
    cases q2
    exact r.own a ((r.mem a).mpr ⟨i, by rw [hF]; simp⟩) (.inl (.inr (z ▸ q4)))
theorem Rep.unlock {i : Nat} {a : Addr} (r : Rep K (lockF Φ i a) U1 σ1 H1 ρ1) (nal : ¬ Φ.all a) (hpn : ∀ j b, (j, b) ∈ Φ.pin → j ≠ i → b ≠ a) {isIo : Bool} (hp : isIo = false → ∀ b, (i, b) ∉ Φ.pin) : Rep K Φ (fun b => U1 b ∨ b = a) σ1 H1 (unlk i isIo ρ1) ∧ ∃ d, ρ1[i]? = some (.lk d) := by
  obtain ⟨F, r⟩ := r
  obtain ⟨g1, sl, g2, g3⟩ := r.pin i a List.mem_cons_self
  have nU : ¬ U1 a := fun z => r.own a z ((lock_all a).mpr (.inr rfl))
  have hl : i < ρ1.length := (List.getElem?_eq_some_iff.mp g2).1
  have key : ∃ d, sl = .lk d := by
    cases sl <;> simp only [isPin] at g3 <;> first | cases g3 | skip
    · obtain ⟨a', q1, q2, q3⟩ := r.ok i _ g2
      rw [g1] at q2
      cases q2
      exact (nU ((r.mem a).mpr ⟨i, by rw [q1]; simp⟩)).elim
    · exact ⟨_, rfl⟩
  obtain ⟨d, rfl⟩ := key
  obtain ⟨q1, a', q2, q3, q4⟩ := r.ok i _ g2
  rw [g1] at q2
  cases q2
  have wu : ∀ b, WU Φ (fun b => U1 b ∨ b = a) b → WU (lockF Φ i a) U1 b := fun b z =>
    z.elim (fun z => .inl ((lock_all b).mpr (.inl z))) fun z => z.elim .inr fun z => .inl ((lock_all b).mpr (.inr z))
  have st : Stp H1 (WU (lockF Φ i a) U1) H1 (WU Φ (fun b => U1 b ∨ b = a)) := Stp.less wu
  have eun : unlk i isIo ρ1 = ρ1.set i (if isIo = true then .io d else .ow d) := by unfold unlk; rw [g2]
  have nF : ∀ j, a ∉ F j := fun j z => nU ((r.mem a).mpr ⟨j, z⟩)
  have nlk : ∀ d', (if isIo = true then Sl.io d else .ow d) ≠ .lk d' := fun d' z => by cases isIo <;> cases z
  rw [eun]
  refine ⟨⟨updF F i [a], by simpa using r.len, fun j hj => ?_, fun j sl e => ?_, fun j j' k e => ?_, fun j => ?_, fun j j' b h1 h2 => ?_, fun b => ?_, fun b z w => ?_, fun b z => ?_, fun j b z => ?_, fun j d' z => ?_⟩, d, g2⟩
  · rw [List.length_set] at hj
    rw [updF_ne (by omega)]
    exact r.out j hj
  · rcases get_set e with ⟨h1, h2, _⟩ | ⟨h1, h2⟩
    · subst h1 h2
      rw [updF_self]
      cases isIo with
      | true => exact ⟨a, rfl, g1, q3.less wu⟩
      | false => exact ⟨a, rfl, g1, q3.less wu⟩
    · rw [updF_ne h1]
      have ok := r.ok j sl h2
      cases sl with
      | lk d' =>
        obtain ⟨z1, b, z2, z3, z4⟩ := ok
        refine ⟨z1, b, z2, z3.less wu, z4.elim id fun z => ?_⟩
        obtain ⟨c, hc⟩ := r.lkp j d' h2
        obtain ⟨w1, _⟩ := r.pin j c hc
        rw [z2] at w1
        cases w1
        rcases List.mem_cons.mp hc with hc | hc
        · cases hc; exact absurd rfl h1
        · exact absurd z (hpn j b hc h1)
      | un => exact ok
      | sh d' => obtain ⟨z1, u, z2, z3⟩ := ok; exact ⟨z1, u, z2, R.stp st d' u z3⟩
      | ow d' => obtain ⟨b, z1, z2, z3⟩ := ok; exact ⟨b, z1, z2, z3.less wu⟩
      | io d' => obtain ⟨b, z1, z2, z3⟩ := ok; exact ⟨b, z1, z2, z3.less wu⟩
      | pk d' => obtain ⟨z1, u, z2, z3⟩ := ok; exact ⟨z1, u, z2, z3.imp (R.stp st d' u) fun ⟨b, e, z4, z5⟩ => ⟨b, e, z4.less wu, z5⟩⟩
      | od kvs => obtain ⟨b, bs, z1, z2, z3⟩ := ok; exact ⟨b, bs, z1, z2, z3.stp st fun c _ o q => q⟩
      | bo j' k => exact ok
  · rcases get_set e with ⟨h1, h2, _⟩ | ⟨h1, h2⟩
    · cases isIo <;> cases h2
    · obtain ⟨a1, bs1, kvs1, n, k', d1, b, y1, y2, y3, y4, y5, y6⟩ := r.bo j j' k h2
      have hj' : j' ≠ i := fun z => by rw [z, g2] at y1; cases y1
      exact ⟨a1, bs1, kvs1, n, k', d1, b, by rw [set_ne hj']; exact y1, by rw [updF_ne hj']; exact y2, y3, y4, y5, y6⟩
  · by_cases hj : j = i
    · subst hj; rw [updF_self]; simp
    · rw [updF_ne hj]; exact r.nd j
  · by_cases hj : j = i <;> by_cases hj' : j' = i
    · rw [hj, hj']
    · subst hj; rw [updF_self] at h1; rw [updF_ne hj'] at h2
      rw [List.mem_singleton] at h1
      exact absurd (h1 ▸ h2) (nF j')
    · subst hj'; rw [updF_self] at h2; rw [updF_ne hj] at h1
      rw [List.mem_singleton] at h2
      exact absurd (h2 ▸ h1) (nF j)
    · rw [updF_ne hj] at h1; rw [updF_ne hj'] at h2; exact r.sep j j' b h1 h2
  · constructor
    · rintro (z | z)
      · obtain ⟨j, hj⟩ := (r.mem b).mp z
        by_cases hji : j = i
        · subst hji; rw [q1] at hj; cases hj
        · exact ⟨j, by rw [updF_ne hji]; exact hj⟩
      · exact ⟨i, by rw [updF_self, z]; simp⟩
    · rintro ⟨j, hj⟩
      by_cases hji : j = i
      · subst hji; rw [updF_self] at hj; exact .inr (by simpa using hj)
      · rw [updF_ne hji] at hj
        exact .inl ((r.mem b).mpr ⟨j, hj⟩)
  · rcases z with z | z
    · exact r.own b z ((lock_all b).mpr (.inl w))
    · exact nal (z ▸ w)
  · exact r.trk b ((lock_all b).mpr (.inl z))
  · obtain ⟨g1', sl, g2', g3'⟩ := r.pin j b (List.mem_cons_of_mem _ z)
    by_cases hj : j = i
    · subst hj
      cases isIo with
      | false => exact absurd z (hp rfl b)
      | true => exact ⟨g1', .io d, List.getElem?_set_self hl, rfl⟩
    · exact ⟨g1', sl, by rw [set_ne hj]; exact g2', g3'⟩
  · rcases get_set z with ⟨h1, h2, _⟩ | ⟨h1, h2⟩
    · exact absurd h2.symm (nlk d')
    · obtain ⟨b, hb⟩ := r.lkp j d' h2
      rcases List.mem_cons.mp hb with hb | hb
      · cases hb; exact absurd rfl h1
      · exact ⟨b, hb⟩
theorem unlk_get {i j : Nat} {isIo : Bool} (h : j ≠ i) : (unlk i isIo ρ)[j]? = ρ[j]? := by
  unfold unlk
  split
  · exact set_ne h
  · rfl
theorem SR.unl {i : Nat} {a : Addr} {o : SO} {isIo : Bool} (hU : U a) (nal : ¬ Φ.all a) (hpn : ∀ j b, (j, b) ∈ Φ.pin → j ≠ i → b ≠ a) (hp : isIo = false → ∀ b, (i, b) ∉ Φ.pin) (h : SR X Wx fr Φ U H DD (o.unl i isIo)) : SR X Wx fr (lockF Φ i a) (lockU U a) H DD o := by
  have sx2 : ∀ {σ' : L2.St} {H' : Hp} {U' : WS} {ρ' : Rho}, Rep (X.K, X.w) (lockF Φ i a) U' σ' H' ρ' → SX H (lockU U a) H' U' → SX H U H' (fun b => U' b ∨ b = a) := fun {σ' H' U' ρ'} r t => ⟨fun b o e n => ⟨(t.keep b o e fun z => n z.1).1, fun z => z.elim (t.keep b o e fun z => n z.1).2 fun z => n (z ▸ hU)⟩, fun b z => z.elim (fun z => (t.new b z).imp (fun z => z.1) id) fun z => .inl (z ▸ hU), t.trk⟩
  cases o with
  | next ρ' => exact fun σ' H' U' r t => h σ' H' _ (r.unlock nal hpn hp).1 (sx2 r t)
  | brk ρ' => exact fun σ' H' U' r t => h σ' H' _ (r.unlock nal hpn hp).1 (sx2 r t)
  | cont ρ' => exact fun σ' H' U' r t => h σ' H' _ (r.unlock nal hpn hp).1 (sx2 r t)
  | ret d ρ' =>
    intro v σ' H' U' r t ⟨Wr, q1, q2, q3, q4⟩
    obtain ⟨r2, d0, e0⟩ := r.unlock nal hpn hp
    refine h v σ' H' _ r2 (sx2 r t) ⟨Wr, fun b z => q1 b ((lock_all b).mpr (.inl z)), fun j b z => q2 j b (List.mem_cons_of_mem _ z), q3, fun z1 z2 => ?_⟩
    obtain ⟨a', e, n, ho, hil⟩ := q4 z1 z2
    have n' : H a' = none ∨ ∃ (j : Nat) (d' : D), (unlk i isIo ρ')[j]? = some (Sl.ow d') ∧ σ'[j]? = some (some (V.ref a')) := by
      rcases n with n | ⟨j, d', w1, w2⟩
      · exact .inl n
      · have hj : j ≠ i := fun z => by rw [z, e0] at w1; cases w1
        exact .inr ⟨j, d', by rw [unlk_get hj]; exact w1, w2⟩
    refine ⟨a', e, n', ho, fun j d' w => ?_⟩
    · by_cases hj : j = i
      · subst hj
        refine hil j d' ?_
        rw [e0]
        unfold unlk at w
        rw [e0] at w
        dsimp only at w
        rw [List.getElem?_set_self (List.getElem?_eq_some_iff.mp e0).1] at w
        cases isIo with
        | true => exact w
        | false => cases w
      · rw [unlk_get hj] at w
        exact hil j d' w
  | exc c p ρ' => exact fun cls dd σ' H' U' r t q => h cls dd σ' H' _ (r.unlock nal hpn hp).1 (sx2 r t) q
  | bad => exact h
def iVar (X : Cx) (i : Nat) : TI := fun σ H Q => (iList X.K (tVar i)) σ H Q ∨ (iTup X.K (tVar i)) σ H Q ∨ (iStr (tVar i)) σ H Q ∨ (iDic (tVar i)) σ H Q
theorem pi_var {i : Nat} {x : Str} {pos : Pos} {tg : Expr} (hN : X.N[i]? = some x) (hv : Vis X.env.scope x) (hd : (x == ("__debug__" : Str)) = false) (hcd : (x == ("__classdict__" : Str)) = false) : PI X tg (.Name x pos) (iVar X i) :=
  pi_or (pi_list (pe_var hN hv hd hcd)) (pi_or (pi_tup (pe_var hN hv hd hcd)) (pi_or (pi_str (pe_var hN hv hd hcd)) (pi_dic (pe_var hN hv hd hcd))))
theorem var_feeds {i : Nat} {d : D} {v : V} {ds : List D} {Q : It → Hp → Prop} (e : σ[i]? = some (some v)) (hr : R (X.K, X.w) H W d v ∨ ∃ a, v = .ref a ∧ OwnAt (X.K, X.w) H W a d ∧ ap a) (hi : itemsD d = some ds) (q : ∀ J, Feeds (X.K, X.w) H W ap ds J → Q J H) : iVar X i σ H Q := by
  cases d <;> simp only [itemsD] at hi <;> first | cases hi | skip
  · refine .inr (.inr (.inl ⟨v, e, ?_⟩))
    rcases hr with r | ⟨a, rfl, r, h⟩
    · simp only [R] at r
      exact ⟨_, r, q _ feeds_str⟩
    · exact r.elim
  · refine .inl ⟨v, e, ?_⟩
    rcases hr with r | ⟨a, rfl, r, h⟩
    · simp only [R] at r
      obtain ⟨a, xs, rfl, s2, r2⟩ := r
      exact ⟨a, rfl, ⟨xs, s2.sq⟩, q _ (feeds_list s2 r2)⟩
    · simp only [OwnAt] at r
      obtain ⟨xs, s2, r2⟩ := r
      exact ⟨a, rfl, ⟨xs, .of s2⟩, q _ (feeds_lst s2 h r2)⟩
  · refine .inr (.inl ⟨v, e, ?_⟩)
    rcases hr with r | ⟨a, rfl, r, h⟩
    · simp only [R] at r
      obtain ⟨a, xs, rfl, s2, r2⟩ := r
      exact ⟨a, rfl, ⟨xs, s2.sq⟩, q _ (feeds_tup s2 r2)⟩
    · exact r.elim
  · refine .inr (.inr (.inr ⟨v, e, ?_⟩))
    rcases hr with r | ⟨a, rfl, r, h⟩
    · simp only [R] at r
      obtain ⟨a, o, es, ep, rfl, h1, n, h2, h3, h4, r, hk⟩ := r
      obtain ⟨xs, k1, k2, k3⟩ := re_keys r
      exact ⟨a, o, es, ep, rfl, h1, h2, h3, h4, xs, by simpa using k1, fun i x e => by simpa using k3 i x e, q _ (feeds_dic h1 (.inl n) k2)⟩
    · simp only [OwnAt] at r
      obtain ⟨o, es, ep, h1, h2, h3, h4, r, hk⟩ := r
      obtain ⟨xs, k1, k2, k3⟩ := re_keys r
      exact ⟨a, o, es, ep, rfl, h1, h2, h3, h4, xs, by simpa using k1, fun i x e => by simpa using k3 i x e, q _ (feeds_dic h1 (.inr h) k2)⟩
theorem s_forV {tg : Expr} {i : Nat} {x : Str} {p : Pos} {b : List Stmt} {tgl : List Nat} {isT : Bool} {cb : CSs} {pos : Pos} (hp : PassesOwn (model X.prog X.w) X.A X.env X.xe) (hc : X.calm = true) (hN : X.N[i]? = some x) (hv : Vis X.env.scope x) (hd : (x == ("__debug__" : Str)) = false) (hcd : (x == ("__classdict__" : Str)) = false) (hg : PG X tg (gD X tgl isT)) (hb : Ss3 cf X Wx fr b cb) :
    S3 cf X Wx fr (.For tg (.Name x p) b [] pos) (.forV tgl isT i cb) := by
  refine PS.imp (ps_for hp hc (pi_var hN hv hd hcd) hg hb (fun _ => rfl)) fun DD σ H ⟨ρ, Φ, U, r, h⟩ => ?_
  simp only [exec] at h
  obtain ⟨U', r', less⟩ := r.prep i
  generalize prep i ρ = ρ0 at h r'
  have h := SR.step h (SX.less (Same.refl H) less)
  clear r less
  have rep := r'
  obtain ⟨F, rf⟩ := r'
  unfold forVS at h
  cases e : ρ0[i]? with
  | none => rw [e] at h; exact h.elim
  | some sl =>
  rw [e] at h
  have ok := rf.ok i _ e
  have items : ∀ {d : D} {g : List D → SO}, SR X Wx fr Φ U' H DD (match itemsD d with | some ds => g ds | none => .bad) → ∃ ds, itemsD d = some ds ∧ SR X Wx fr Φ U' H DD (g ds) := fun {d g} h => by
    cases ei : itemsD d with
    | none => rw [ei] at h; exact h.elim
    | some ds => rw [ei] at h; exact ⟨ds, rfl, h⟩
  have lockd : ∀ {d : D} {a : Addr} {isIo : Bool} {ds : List D}, F i = [a] → σ[i]? = some (some (V.ref a)) → OwnAt (X.K, X.w) H (WU Φ U') a d → (ρ0[i]? = some (.ow d) ∨ ρ0[i]? = some (.io d)) → (isIo = false → ∀ b, (i, b) ∉ Φ.pin) → itemsD d = some ds → SR X Wx fr Φ U' H DD ((forS (setTg tgl isT) (execs cf fr cb) ds (ρ0.set i (.lk d))).unl i isIo) → iVar X i σ H (fun J H1 => ∃ W : Nat → Nat → L2.St → Hp → Prop, (∃ m, W 0 m σ H1) ∧ ∀ i m σ H, W i m σ H →
      (J.stop i H ∧ DD.nx σ H) ∨ (J.go i H ∧ ∃ N : L2.St → Hp → Prop, (∀ σ' H', N σ' H' → ∃ m', m' < m ∧ W (i + 1) m' σ' H') ∧ ∀ x H', J.yld i H x H' → gD X tgl isT x σ H' fun σ2 H2 => ∃ ρ, tS X Wx fr ρ (execs cf fr cb ρ) { DD with nx := N, ct := N, bk := DD.nx } σ2 H2)) := fun {d a isIo ds} hF hs ho hk hpi ei h => by
    have hU : U' a := (rf.mem a).mpr ⟨i, by rw [hF]; simp⟩
    have nal : ¬ Φ.all a := rf.own a hU
    have rl := rf.lock hF hs ho hk
    have h' := SR.unl hU nal (rf.pin_ne hF) hpi h
    refine var_feeds (W := WU (lockF Φ i a) (lockU U' a)) (ap := fun b => b = a) hs (.inr ⟨a, rfl, ho.less fun b z => (lock_wu hU b).mp z, rfl⟩) ei fun J feeds => ?_
    exact for_core ⟨_, rl⟩ feeds (fun b z w => w.2 z) h'
  cases sl with
  | un => exact h.elim
  | od kvs => exact h.elim
  | bo j k => exact h.elim
  | sh d =>
    obtain ⟨ds, ei, h⟩ := items h
    obtain ⟨_, u, h1, h2⟩ := ok
    exact var_feeds (ap := fun _ => False) h1 (.inl h2) ei fun J feeds => for_core rep feeds (fun b z => z.elim) h
  | pk d =>
    obtain ⟨ds, ei, h⟩ := items h
    obtain ⟨_, u, h1, h2⟩ := ok
    exact var_feeds (ap := fun b => Φ.w0 b) h1 (h2.imp id fun ⟨a, e, h3, h4⟩ => ⟨a, e, h3, h4⟩) ei fun J feeds => for_core rep feeds (fun b z w => rf.own b w (.inl (.inl z))) h
  | lk d =>
    obtain ⟨ds, ei, h⟩ := items h
    obtain ⟨_, a, h1, h2, h3⟩ := ok
    exact var_feeds (ap := fun b => Φ.lw b) h1 (.inr ⟨a, rfl, h2, h3⟩) ei fun J feeds => for_core rep feeds (fun b z w => rf.own b w (.inl (.inr z))) h
  | ow d =>
    obtain ⟨ds, ei, h⟩ := items h
    obtain ⟨a, h0, h1, h2⟩ := ok
    refine lockd h0 h1 h2 (.inl e) (fun _ b z => ?_) ei h
    obtain ⟨_, sl, g2, g3⟩ := rf.pin i b z
    rw [e] at g2
    cases g2
    cases g3
  | io d =>
    obtain ⟨ds, ei, h⟩ := items h
    obtain ⟨a, h0, h1, h2⟩ := ok
    exact lockd h0 h1 h2 (.inr e) (fun z => by cases z) ei h
theorem s_whl {n : Nat} {c : Expr} {cc : CE} {b : List Stmt} {cb : CSs} {pos : Pos} (hp : PassesOwn (model X.prog X.w) X.A X.env X.xe) (hc : T3 cf X Wx c cc) (hb : Ss3 cf X Wx fr b cb) : S3 cf X Wx fr (.While c b [] pos) (.whl n cc cb) := by
  refine PS.imp (ps_while hp hc hb) fun DD σ H ⟨ρ, Φ, U, r, h⟩ => ?_
  simp only [exec] at h
  refine ⟨fun m σ' H' => ∃ ρ' U', Rep (X.K, X.w) Φ U' σ' H' ρ' ∧ SR X Wx fr Φ U' H' DD (whS (evalB cf cc) (execs cf fr cb) m ρ'), ⟨n, ρ, U, r, h⟩, fun m σ' H' ⟨ρ', U', r', h2⟩ => ?_⟩
  cases m with
  | zero => exact h2.elim
  | succ m =>
    simp only [whS] at h2
    refine ⟨ρ', Φ, U', SR.an r' h2 fun d ρ1 v H1 U1 l s e r1 q h3 => ?_⟩
    have q : d = v := q
    subst q
    have h3 := SR.step h3 s
    split <;> rename_i hk
    · rw [if_pos hk] at h3
      refine ⟨fun σ2 H2 => ∃ ρ2 U2, Rep (X.K, X.w) Φ U2 σ2 H2 ρ2 ∧ SR X Wx fr Φ U2 H2 DD (whS (evalB cf cc) (execs cf fr cb) m ρ2), fun σ2 H2 q => ⟨m, Nat.lt_succ_self _, q⟩, ρ1, Φ, U1, r1, ?_⟩
      split at h3
      · rename_i ρ2 e3
        rw [e3]
        exact fun σ3 H3 U3 r3 t3 => ⟨ρ2, U3, r3, SR.step h3 t3⟩
      · rename_i ρ2 e3
        rw [e3]
        exact fun σ3 H3 U3 r3 t3 => ⟨ρ2, U3, r3, SR.step h3 t3⟩
      · rename_i ρ2 e3
        rw [e3]
        exact fun σ3 H3 U3 r3 t3 => h3 σ3 H3 U3 r3 t3
      · rename_i n1 n2 n3
        revert h3
        cases e3 : execs cf fr cb ρ1 with
        | next ρ2 => exact absurd e3 (n1 ρ2)
        | cont ρ2 => exact absurd e3 (n2 ρ2)
        | brk ρ2 => exact absurd e3 (n3 ρ2)
        | ret d ρ2 => exact id
        | exc c p ρ2 => exact id
        | bad => exact id
    · rw [if_neg hk] at h3
      exact h3 σ' H1 U1 r1 (SX.refl _ _)
theorem s_par {i j : Nat} {x y : Str} {a b : Expr} {ca cb : CE} {px py pt pos : Pos} {kt k2 : Nat} {pt2 : Pos} (hc : X.calm = true) (hN : X.N.Nodup) (hi : X.N[i]? = some x) (hj : X.N[j]? = some y) (hij : i ≠ j)
    (hx : X.env.scope.names.lookup x = some .local) (hy : X.env.scope.names.lookup y = some .local) (ha : E3 cf X Wx a ca) (hb : E3 cf X Wx b cb) (hst : starEach [a, b] X.env = (false, eval a X.env) :: starEach [b] X.env) (hst2 : starEach [b] X.env = [(false, eval b X.env)])
    (hw : swappedStores [.Tuple [.Name x px, .Name y py] kt pt] (.Tuple [a, b] k2 pt2) X.env = pure (some [x, y])) :
    S3 cf X Wx fr (.Assign [.Tuple [.Name x px, .Name y py] kt pt] (.Tuple [a, b] k2 pt2) pos) (.par i j ca cb) := by
  refine PS.imp (ps_par hc hN hi hj hij hx hy (pa_cons ha.v (pa_cons hb.v pa_nil hst2) hst) hw rfl) fun DD σ H ⟨ρ, Φ, U, r, h⟩ => ?_
  simp only [exec] at h
  refine ⟨ρ, Φ, U, SR.an r h fun d ρ1 v H1 U1 l s e r1 q h1 => ⟨ρ1, Φ, U1, SR.an r1 (SR.step h1 s) fun d' ρ2 v' H2 U2 l2 s2 e2 r2 q2 h2 => ⟨v, v', rfl, ?_⟩⟩⟩
  obtain ⟨ρ3, e3, h2⟩ := SR.nx h2
  obtain ⟨ρ4, e4, e5⟩ := Option.bind_eq_some_iff.mp e3
  obtain ⟨U3, k1, k2⟩ := r2.setSh e4 (R.sx s2 (show R (X.K, X.w) H1 (WU Φ U1) d v from q))
  obtain ⟨U4, k3, k4⟩ := k1.setSh e5 (R.stp (Stp.less fun a z => z.imp id (k2 a)) _ _ q2)
  exact h2 _ _ U4 k3 (s2.trans (SX.less (Same.refl _) fun a z => k2 a (k4 a z)))
end
end DI
set_option Elab.async false
set_option linter.all false
set_option maxRecDepth 100000
set_option maxHeartbeats 8000000
/-! statements: from the text -/
namespace DI
open PySem PySem.Spec PyProof.Rows L2
def swB (y : Str) (py : Pos) (sc : Scope) : Expr → Bool
  | .ListComp _ _ scope pos => sc.names.lookup y == some .local && py.line == pos.line && !(scope.names.any fun (n, k) => n == y && (k == .local || k == .cell))
  | _ => false
def isLc : Expr → Bool
  | .ListComp _ _ _ _ => true
  | _ => false
def compSs (f : Stmt → Option CS) : List Stmt → Option CSs
  | [] => some .nil
  | s :: ss => (f s).bind fun c => (compSs f ss).bind fun cs => some (.cons c cs)
def isVarC : CE → Bool
  | .var _ => true
  | _ => false
def compRet (N : List Str) (sc : Scope) (fr : Bool) (f : Expr → Option CE) (e : Expr) : Option CS := if fr = true then match nmOf e with
    | some x => if okNm x && isVis sc x then (slotOf N x).map fun i => .ret (.var i) else (f e).bind fun c => if isVarC c then none else some (.ret c)
    | none => (f e).bind fun c => if isVarC c then none else some (.ret c)
  else (f e).map .ret
/-- x.setdefault(k, []), x.setdefault(k, {}) -/
def emptyOf : Expr → Option Bool
  | .List [] _ => some true
  | .Dict [] [] _ => some false
  | _ => none
def bdOf : Expr → Option (Expr × Expr × Bool)
  | .Call (.Attribute o m ap) [e0, e1] [] cp => if m = ("setdefault" : Str) ∧ (ap.endLine == cp.line) = true then (emptyOf e1).map fun b => (o, e0, b) else none
  | _ => none
def compS (G : GI) (N : List Str) (sc : Scope) (fr : Bool) : Nat → Stmt → Option CS
  | 0, _ => none
  | n + 1, s => match s with
    | .Pass _ => some .pass
    | .Break _ => some .brk
    | .Continue _ => some .cont
    | .Return none _ => some .retN
    | .Return (some e) _ => compRet N sc fr (comp G N n (fun _ => true) sc) e
    | .If c a b _ => (comp G N n (fun _ => true) sc c).bind fun cc => (compSs (compS G N sc fr n) a).bind fun ca => (compSs (compS G N sc fr n) b).bind fun cb => some (.iff cc ca cb)
    | .Raise _ _ _ => some .not_
    | .For tg it b [] _ => (compTg (fun _ => true) N sc tg).bind fun t => match slotN N sc it with
      | some i => (compSs (compS G N sc fr n) b).bind fun cb => some (.forV t.1 t.2 i cb)
      | none => (compI (comp G N n (fun _ => true) sc) G sc t.2 it).bind fun ci => (compSs (compS G N sc fr n) b).bind fun cb => some (.for_ t.1 t.2 ci cb)
    | .While c b [] _ => (comp G N n (fun _ => true) sc c).bind fun cc => (compSs (compS G N sc fr n) b).bind fun cb => some (.whl 100000 cc cb)
    | .Assign [.Name x p] e pos => match bdOf e with
      | some r => (tg1 (fun _ => true) N sc (.Name x p)).bind fun i => (slotN N sc r.1).bind fun j => (comp G N n (fun _ => true) sc r.2.1).map fun c => .bor i j c r.2.2
      | none => (tg1 (fun _ => true) N sc (.Name x p)).bind fun i => if swB x p sc e && !(sc.names.lookup x == some .local) then none else (comp G N n (fun _ => true) sc e).map (.set i)
    | .Assign [.Tuple es kk p] e pos => (match es, e with
      | [.Name x px, .Name y py], .Tuple [a, b] k2 pt2 => (slotOf N x).bind fun i => (slotOf N y).bind fun j =>
          if i ≠ j ∧ sc.names.lookup x = some .local ∧ sc.names.lookup y = some .local ∧ px.line = py.line ∧ x ≠ y ∧ ([a, b].all (foldedForSure 8)) = false ∧ ([a, b].all (constantsAlone 8)) = false then
            (comp G N n (fun _ => true) sc a).bind fun ca => (comp G N n (fun _ => true) sc b).bind fun cb => some (.par i j ca cb) else none
      | _, _ => if isTup e then none else (tgs (tg1 (fun _ => true) N sc) es).bind fun is => (comp G N n (fun _ => true) sc e).map (.setT is))
    | .Assign [.Subscript (.Name x p) ke sp] e pos => if okNm x && isVis sc x && !isLc e then (slotOf N x).bind fun i => (comp G N n (fun _ => true) sc e).bind fun c => (comp G N n (fun _ => true) sc ke).bind fun kc => some (.put i c kc) else none
    | .Assign [.Subscript (.Call f as kw cp) (.Name y py) sp] e pos => match bdOf (.Call f as kw cp) with
      | some r => if r.2.2 || isLc e then none else (slotN N sc r.1).bind fun j => (slotN N sc (.Name y py)).bind fun i2 => (comp G N n (fun _ => true) sc e).bind fun c => (comp G N n (fun _ => true) sc r.2.1).map fun kc => .boP j kc i2 c
      | none => none
    | .Expr e pos => match bdOf e with
     | some r => (slotN N sc r.1).bind fun j => (comp G N n (fun _ => true) sc r.2.1).map fun c => .bo0 j c r.2.2
     | none => (match e with
      | .Constant (.str _) _ _ => some .pass
      | .Call (.Attribute o m ap) [a] [] cp => if m = ("append" : Str) ∧ (ap.endLine == cp.line) = true then (slotN N sc o).bind fun i => (comp G N n (fun _ => true) sc a).map (.app i)
          else if m = ("extend" : Str) ∧ (ap.endLine == cp.line) = true then (slotN N sc o).bind fun i => (comp G N n (fun _ => true) sc a).map (.ext i)
          else (comp G N n (fun _ => true) sc e).map .exp
      | e => if isLc e then none else (comp G N n (fun _ => true) sc e).map .exp)
    | _ => none
theorem bdOf_some {e o e0 : Expr} {b : Bool} (h : bdOf e = some (o, e0, b)) : ∃ ap cp e1, e = .Call (.Attribute o ("setdefault" : Str) ap) [e0, e1] [] cp ∧ (ap.endLine == cp.line) = true ∧ emptyOf e1 = some b := by
  unfold bdOf at h
  split at h
  · rename_i o' m ap e0' e1 cp
    split at h
    · rename_i q
      obtain ⟨hm, hl⟩ := q
      obtain ⟨b', h1, h2⟩ := Option.map_eq_some_iff.mp h
      cases h2
      subst hm
      exact ⟨ap, cp, e1, rfl, hl, h1⟩
    · cases h
  · cases h
theorem emp_ok {X : Cx} {Wx : WX} {f : Expr} {b : Bool} (h : emptyOf f = some b) : PE X f (fun σ H Q => ∃ ρ, tE X Wx true .fr ρ (.ok (emptyB b) ρ) σ H Q) ∧ starEach [f] X.env = [(false, eval f X.env)] := by
  unfold emptyOf at h
  split at h
  · cases h; exact ⟨e_emp, rfl⟩
  · cases h; exact ⟨e_emd, rfl⟩
  · cases h
structure FitsS (X : Cx) (G : GI) (N : List Str) (sc : Scope) (k : Nat) (cf : Str → List D → CR) (Wx : WX) : Prop where
  ft : Fits X G (fun _ => true) N sc k cf Wx
  po : PassesOwn (model X.prog X.w) X.A X.env X.xe
  kd : sc.kind = .function
section
variable {X : Cx} {Wx : WX} {fr : Bool} {G : GI} {N : List Str} {sc : Scope} {k : Nat} {cf : Str → List D → CR} {F : Str → Bool} {n : Nat} {e : Expr} {c : CE}
theorem comp_sw (h : comp G N n F sc e = some c) (hb : X.env.scope = sc) (kd : sc.kind = .function) (y : Str) (py : Pos) (l : Nat) : swapsWith e (some (.Name y py)) l X.env = pure (swB y py sc e) := by
  cases n with
  | zero => exact (comp_zero h).elim
  | succ n =>
    cases e <;> first
      | rfl
      | (unfold comp at h; cases h; done)
      | skip
    have hk : X.env.blockKind = .function := by unfold Env.blockKind; rw [hb, kd]; rfl
    unfold swapsWith swB
    simp only [hk, Env.kindOf, hb, Expr.pos]
    rfl
theorem comp_swN (h : comp G N n F sc e = some c) (hl : isLc e = false) (l : Nat) : swapsWith e none l X.env = pure false := by
  cases n with
  | zero => exact (comp_zero h).elim
  | succ n =>
    cases e <;> first
      | rfl
      | (unfold comp at h; cases h; done)
      | cases hl
theorem comp_swS (h : comp G N n F sc e = some c) (hl : isLc e = false) (a b : Expr) (p : Pos) (l : Nat) : swapsWith e (some (.Subscript a b p)) l X.env = pure false := by
  cases n with
  | zero => exact (comp_zero h).elim
  | succ n =>
    cases e <;> first
      | rfl
      | (unfold comp at h; cases h; done)
      | cases hl
theorem ss_none (es : List Expr) (kk : Nat) (p : Pos) (he : isTup e = false) : swappedStores [.Tuple es kk p] e X.env = pure none := by
  cases e <;> first
    | rfl
    | cases he
theorem notVar (h : isVarC c = false) : ∀ i, c ≠ .var i := fun i e => by subst e; cases h
theorem retN_ok {f : Expr → Option CE} (hf : ∀ e c, f e = some c → E3 cf X Wx e c) {e : Expr} {c : CS} {pos : Pos} (h : ((f e).bind fun c => if isVarC c then none else some (.ret c)) = some c) : S3 cf X Wx fr (.Return (some e) pos) c := by
  obtain ⟨c1, h1, h⟩ := Option.bind_eq_some_iff.mp h
  split at h
  · cases h
  · rename_i hv
    cases h
    exact s_ret (hf _ _ h1) (.inr (notVar (Bool.eq_false_iff.mpr hv)))
theorem compRet_ok (ft : Fits X G (fun _ => true) N sc k cf Wx) {f : Expr → Option CE} (hf : ∀ e c, f e = some c → E3 cf X Wx e c) {e : Expr} {c : CS} {pos : Pos} (h : compRet N sc fr f e = some c) : S3 cf X Wx fr (.Return (some e) pos) c := by
  unfold compRet at h
  split at h
  · rename_i hfr
    split at h
    · rename_i x hx
      obtain ⟨p, rfl⟩ := nmOf_some hx
      split at h
      · rename_i hv
        rw [Bool.and_eq_true] at hv
        obtain ⟨i, h1, h2⟩ := Option.map_eq_some_iff.mp h
        subst h2
        obtain ⟨d1, d2⟩ := okNm_of hv.1
        exact s_retV (by rw [ft.N]; exact slotOf_some h1) (by rw [ft.sc]; exact isVis_vis hv.2) d1 d2 hfr
      · exact retN_ok hf h
    · exact retN_ok hf h
  · rename_i hfr
    obtain ⟨c1, h1, h2⟩ := Option.map_eq_some_iff.mp h
    subst h2
    exact s_ret (hf _ _ h1) (.inl (Bool.eq_false_iff.mpr hfr))
theorem compSs_ok {f : Stmt → Option CS} (hf : ∀ s c, f s = some c → S3 cf X Wx fr s c) : ∀ {ss : List Stmt} {cs : CSs}, compSs f ss = some cs → Ss3 cf X Wx fr ss cs
  | [], cs, h => by
    simp only [compSs, Option.some.injEq] at h
    subst h
    exact ss_nil
  | s :: ss, cs, h => by
    simp only [compSs] at h
    obtain ⟨c, h1, h⟩ := Option.bind_eq_some_iff.mp h
    obtain ⟨cs', h2, h⟩ := Option.bind_eq_some_iff.mp h
    cases h
    exact ss_cons (hf _ _ h1) (compSs_ok hf h2)
/-- name = [..] -/
theorem s_setLc {i : Nat} {x : Str} {e : Expr} {p pos : Pos} (fs : FitsS X G N sc k cf Wx) (h : comp G N n (fun _ => true) sc e = some c) (hi : X.N[i]? = some x) (hl : sc.names.lookup x = some .local) (hs : swB x p sc e = true) :
    S3 cf X Wx fr (.Assign [.Name x p] e pos) (.set i c) := by
  have hsw := comp_sw (X := X) h fs.ft.sc fs.kd x p pos.line
  rw [hs] at hsw
  cases n with
  | zero => exact (comp_zero h).elim
  | succ n =>
  cases e <;> first | cases hs | skip
  rename_i elt gens scope lpos
  have h0 := h
  unfold comp at h
  simp only at h
  split at h
  · rename_i tg iter ifs
    split at h
    · rename_i hb
      obtain ⟨t, h1, h⟩ := Option.bind_eq_some_iff.mp h
      split at h
      · rename_i hsub
        obtain ⟨ci, h2, h⟩ := Option.bind_eq_some_iff.mp h
        obtain ⟨cifs, h4, h⟩ := Option.bind_eq_some_iff.mp h
        obtain ⟨ce, h5, h⟩ := Option.bind_eq_some_iff.mp h
        cases h
        have hfit := fun s H C cl fp => fs.ft.blk s H scope C cl fp
        have h3 : ∀ e c, comp G N n (fun _ => true) sc e = some c → E3 cf X Wx e c := fun e c h => (comp_ok n X Wx _ sc e c fs.ft h).1
        have hsub' : ∀ i ∈ t.1, i ∈ (ownOf N scope).map (·.2) := fun i hi => by
          rw [List.all_eq_true] at hsub
          simpa using hsub i hi
        have hfold := fun x => compI_fold h2 X.env x
        have hok : BlkOk X.N X.env.scope scope (ownOf N scope) := by rw [fs.ft.N, fs.ft.sc]; exact blkOk_by hb
        obtain ⟨wi, g, tt, te, a1, a2, a3, a4, a5⟩ := e_lc (elt := elt) (tg := tg) (pos := lpos) (own := ownOf N scope) (tgl := t.1) (isT := t.2) (ci := ci) (cifs := cifs) (celt := ce) fs.ft.calm fs.ft.nd (compI_ok fs.ft h3 (fun z => compTg_tup h1 z) h2) hok hsub'
          (fun s H C cl fp => compTg_ok (hfit s H C cl fp) h1)
          (fun s H C cl fp => compIf_ok (fun e c h => (comp_ok n _ _ _ _ e c (hfit s H C cl fp) h).2) h4)
          (fun s H C cl fp => ((comp_ok n _ _ _ _ elt ce (hfit s H C cl fp) h5).1).v) hfold
        refine PS.imp (ps_setLc fs.ft.calm fs.ft.nd hi (by rw [fs.ft.sc]; exact hl) hsw a1 hok a2 a3 a4 hfold) fun DD σ H ⟨ρ, h⟩ => ?_
        simp only [exec] at h
        refine a5 σ H _ ⟨ρ, ?_⟩
        exact (tS_set (b := true) h : tAsg (An X Wx _ ρ _ (rNv (X.K, X.w) true)) (gName i) DD σ H)
      · cases h
    · cases h
  · cases h
def isSt : Expr → Bool
  | .Starred .. => true
  | _ => false
theorem comp_st (h : comp G N n F sc e = some c) : isSt e = false := by
  cases n with
  | zero => exact (comp_zero h).elim
  | succ n =>
    cases e <;> first
      | rfl
      | (unfold comp at h; cases h; done)
theorem sw_pair {x y : Str} {px py pt : Pos} {kt k2 : Nat} {a b : Expr} {pt2 : Pos} (hb : X.env.scope = sc) (kd : sc.kind = .function) (hx : sc.names.lookup x = some .local) (hy : sc.names.lookup y = some .local) (hl : px.line = py.line) (hxy : x ≠ y)
    (ha : isSt a = false) (hb2 : isSt b = false) (h1 : ([a, b].all (foldedForSure 8)) = false) (h2 : ([a, b].all (constantsAlone 8)) = false) : swappedStores [.Tuple [.Name x px, .Name y py] kt pt] (.Tuple [a, b] k2 pt2) X.env = pure (some [x, y]) := by
  have hk : X.env.blockKind = .function := by unfold Env.blockKind; rw [hb, kd]; rfl
  have e1 : ([x, y] : List Str).eraseDups = [x, y] := by
    have : (x == y) = false := by simpa using hxy
    have : (y == x) = false := by simpa using fun z => hxy z.symm
    simp [List.eraseDups_cons, this]
  unfold swappedStores
  have e2 : ([a, b].any fun | .Starred .. => true | _ => false) = false := by
    have q : (fun (x : Expr) => match x with | .Starred .. => true | _ => false) = isSt := by
      funext x
      cases x <;> rfl
    rw [q]
    simp [ha, hb2]
  have e3 : ([x, y] : List Str).eraseDups.length = 2 := by rw [e1]; rfl
  simp [hk, Env.kindOf, hb, hx, hy, Expr.pos, hl, h1, h2, e2, e3]
  rintro (q | q)
  · cases a <;> first | (cases ha; done) | (cases q; done)
  · cases b <;> first | (cases hb2; done) | (cases q; done)
theorem compS_ok (fs : FitsS X G N sc k cf Wx) : ∀ (n : Nat) (s : Stmt) (c : CS), compS G N sc fr n s = some c → S3 cf X Wx fr s c := by
  intro n
  induction n with
  | zero => intro s c h; unfold compS at h; cases h
  | succ n ih =>
    intro s c h
    have h3 : ∀ e c, comp G N n (fun _ => true) sc e = some c → E3 cf X Wx e c := fun e c h => (comp_ok n X Wx _ sc e c fs.ft h).1
    have t3 : ∀ e c, comp G N n (fun _ => true) sc e = some c → T3 cf X Wx e c := fun e c h => (comp_ok n X Wx _ sc e c fs.ft h).2
    have Ls : ∀ {ss : List Stmt} {cs : CSs}, compSs (compS G N sc fr n) ss = some cs → Ss3 cf X Wx fr ss cs := fun h => compSs_ok ih h
    unfold compS at h
    split at h
    · cases h; exact s_pass
    · cases h; exact s_brk
    · cases h; exact s_cont
    · cases h; exact s_retN
    · exact compRet_ok fs.ft h3 h
    · obtain ⟨cc, h1, h⟩ := Option.bind_eq_some_iff.mp h
      obtain ⟨ca, h2, h⟩ := Option.bind_eq_some_iff.mp h
      obtain ⟨cb, h4, h⟩ := Option.bind_eq_some_iff.mp h
      cases h
      exact s_iff (t3 _ _ h1) (Ls h2) (Ls h4)
    · cases h; exact s_not
    · obtain ⟨t, h1, h⟩ := Option.bind_eq_some_iff.mp h
      split at h
      · rename_i i hi
        obtain ⟨cb, h4, h⟩ := Option.bind_eq_some_iff.mp h
        cases h
        obtain ⟨x, p, rfl, g1, g2, g3, g4⟩ := slotN_ok fs.ft hi
        exact s_forV fs.po fs.ft.calm g1 g2 g3 g4 (compTg_ok fs.ft h1) (Ls h4)
      · obtain ⟨ci, h2, h⟩ := Option.bind_eq_some_iff.mp h
        obtain ⟨cb, h4, h⟩ := Option.bind_eq_some_iff.mp h
        cases h
        exact s_for fs.po fs.ft.calm (compI_ok fs.ft h3 (fun z => compTg_tup h1 z) h2) (compTg_ok fs.ft h1) (Ls h4) (fun x => compI_fold h2 X.env x)
    · obtain ⟨cc, h1, h⟩ := Option.bind_eq_some_iff.mp h
      obtain ⟨cb, h4, h⟩ := Option.bind_eq_some_iff.mp h
      cases h
      exact s_whl fs.po (t3 _ _ h1) (Ls h4)
    · rename_i x p ee poss
      split at h
      · rename_i r hr0
        obtain ⟨o, e0, b⟩ := r
        obtain ⟨ap, cp, e1, rfl, hl, he1⟩ := bdOf_some hr0
        obtain ⟨i, h1, h⟩ := Option.bind_eq_some_iff.mp h
        obtain ⟨j, h2, h⟩ := Option.bind_eq_some_iff.mp h
        obtain ⟨c1, h4, h5⟩ := Option.map_eq_some_iff.mp h
        subst h5
        obtain ⟨x', p', ee0, a, bb, d⟩ := (tg1_ok fs.ft h1).ex
        cases ee0
        obtain ⟨y, py, rfl, g1, g2, d1, d2⟩ := slotN_ok fs.ft h2
        obtain ⟨z1, z2⟩ := emp_ok (X := X) (Wx := Wx) he1
        exact s_bor fs.ft.room fs.ft.nd a bb rfl d g1 g2 d1 d2 (h3 _ _ h4) z1 hl (comp_star h4 _ _) z2
      obtain ⟨i, h1, h⟩ := Option.bind_eq_some_iff.mp h
      split at h
      · cases h
      · rename_i hb
        obtain ⟨c1, h2, h4⟩ := Option.map_eq_some_iff.mp h
        subst h4
        obtain ⟨x', p', e0, a, b, d⟩ := (tg1_ok fs.ft h1).ex
        cases e0
        have hsw := comp_sw (X := X) h2 fs.ft.sc fs.kd x p
        cases hs : swB x p sc ee with
        | false =>
          rw [hs] at hsw
          exact s_set fs.ft.nd a b (h3 _ _ h2) (hsw _) d
        | true =>
          rw [hs, Bool.true_and] at hb
          exact s_setLc fs h2 a (by simpa using hb) hs
    · split at h
      · obtain ⟨i, h1, h⟩ := Option.bind_eq_some_iff.mp h
        obtain ⟨j, h2, h⟩ := Option.bind_eq_some_iff.mp h
        split at h
        · rename_i q
          obtain ⟨q1, q2, q3, q4, q5, q6, q7⟩ := q
          obtain ⟨ca, h4, h⟩ := Option.bind_eq_some_iff.mp h
          obtain ⟨cb, h5, h⟩ := Option.bind_eq_some_iff.mp h
          cases h
          refine s_par fs.ft.calm fs.ft.nd (by rw [fs.ft.N]; exact slotOf_some h1) (by rw [fs.ft.N]; exact slotOf_some h2) q1 (by rw [fs.ft.sc]; exact q2) (by rw [fs.ft.sc]; exact q3) (h3 _ _ h4) (h3 _ _ h5) (comp_star h4 _ _) (comp_star h5 [] _) ?_
          exact sw_pair fs.ft.sc fs.kd q2 q3 q4 q5 (comp_st h4) (comp_st h5) q6 q7
        · cases h
      · split at h
        · cases h
        · rename_i hb
          obtain ⟨is, h1, h⟩ := Option.bind_eq_some_iff.mp h
          obtain ⟨c1, h2, h4⟩ := Option.map_eq_some_iff.mp h
          subst h4
          exact s_setT (g_tup fs.ft.calm fs.ft.nd (tgs_ok fs.ft h1)) (h3 _ _ h2) (ss_none _ _ _ (Bool.eq_false_iff.mpr hb))
    · split at h
      · rename_i hq
        rw [Bool.and_eq_true, Bool.and_eq_true] at hq
        obtain ⟨d1, d2⟩ := okNm_of hq.1.1
        obtain ⟨i, h1, h⟩ := Option.bind_eq_some_iff.mp h
        obtain ⟨c1, h2, h⟩ := Option.bind_eq_some_iff.mp h
        obtain ⟨c2, h4, h⟩ := Option.bind_eq_some_iff.mp h
        cases h
        have hl := hq.2
        rw [Bool.not_eq_true'] at hl
        exact s_put fs.ft.room (by rw [fs.ft.N]; exact slotOf_some h1) (by rw [fs.ft.sc]; exact isVis_vis hq.1.2) d1 d2 (h3 _ _ h2) (h3 _ _ h4) (comp_swS h2 hl _ _ _ _)
      · cases h
    · rename_i f0 as0 kw0 cp0 y0 py0 sp0 e9 pos0
      split at h
      · rename_i r hr0
        obtain ⟨o, e0, b⟩ := r
        obtain ⟨ap, cp', e1, hre, hl, he1⟩ := bdOf_some hr0
        split at h
        · cases h
        rename_i hq
        obtain ⟨j, h2, h⟩ := Option.bind_eq_some_iff.mp h
        obtain ⟨i2, h1, h⟩ := Option.bind_eq_some_iff.mp h
        obtain ⟨c1, h4, h⟩ := Option.bind_eq_some_iff.mp h
        obtain ⟨c2, h5, h6⟩ := Option.map_eq_some_iff.mp h
        subst h6
        obtain ⟨x, p, rfl, g1, g2, d1, d2⟩ := slotN_ok fs.ft h2
        obtain ⟨y, py, ey, k1, k2, w1, w2⟩ := slotN_ok fs.ft h1
        cases ey
        have hb : b = false := by cases b <;> simp_all
        subst hb
        have hl2 : isLc e9 = false := by
          rw [Bool.not_eq_true, Bool.or_eq_false_iff] at hq
          exact hq.2
        cases hre
        obtain ⟨z1, z2⟩ := emp_ok (X := X) (Wx := Wx) he1
        exact s_boP fs.ft.room g1 g2 d1 d2 k1 k2 w1 w2 (h3 _ _ h4) (h3 _ _ h5) z1 hl (comp_star h5 _ _) z2 (comp_swS h4 hl2 _ _ _ _)
      · cases h
    · split at h
      · rename_i r hr0
        obtain ⟨o, e0, b⟩ := r
        obtain ⟨ap, cp, e1, rfl, hl, he1⟩ := bdOf_some hr0
        obtain ⟨j, h2, h⟩ := Option.bind_eq_some_iff.mp h
        obtain ⟨c1, h4, h5⟩ := Option.map_eq_some_iff.mp h
        subst h5
        obtain ⟨y, py, rfl, g1, g2, d1, d2⟩ := slotN_ok fs.ft h2
        obtain ⟨z1, z2⟩ := emp_ok (X := X) (Wx := Wx) he1
        exact s_bo0 fs.ft.room g1 g2 d1 d2 (h3 _ _ h4) z1 hl (comp_star h4 _ _) z2
      split at h
      · cases h; exact s_doc
      · split at h
        · rename_i q
          obtain ⟨hm, q3⟩ := q
          subst hm
          obtain ⟨i, h1, h⟩ := Option.bind_eq_some_iff.mp h
          obtain ⟨c1, h2, h4⟩ := Option.map_eq_some_iff.mp h
          subst h4
          obtain ⟨x, p, rfl, g1, g2, d1, d2⟩ := slotN_ok fs.ft h1
          exact s_app g1 g2 d1 d2 (h3 _ _ h2) q3 (comp_star h2 [] _)
        · split at h
          · rename_i q
            obtain ⟨hm, q3⟩ := q
            subst hm
            obtain ⟨i, h1, h⟩ := Option.bind_eq_some_iff.mp h
            obtain ⟨c1, h2, h4⟩ := Option.map_eq_some_iff.mp h
            subst h4
            obtain ⟨x, p, rfl, g1, g2, d1, d2⟩ := slotN_ok fs.ft h1
            exact s_ext g1 g2 d1 d2 (h3 _ _ h2) q3 (comp_star h2 [] _)
          · obtain ⟨c1, h2, h4⟩ := Option.map_eq_some_iff.mp h
            subst h4
            exact s_exp (h3 _ _ h2) (comp_swN h2 rfl _)
      · split at h
        · cases h
        · rename_i hb
          obtain ⟨c1, h2, h4⟩ := Option.map_eq_some_iff.mp h
          subst h4
          exact s_exp (h3 _ _ h2) (comp_swN h2 (Bool.eq_false_iff.mpr hb) _)
    · cases h
end
end DI
set_option Elab.async false
set_option linter.all false
set_option maxRecDepth 100000
set_option maxHeartbeats 4000000
/-! functions -/
namespace DI
open PySem PySem.Spec PyProof.Rows L2
structure FD where
  nm : Str
  ps : List Str
  N : List Str
  fr : Bool
  ks : List PKd
  body : CSs
def slK : PKd → D → Sl
  | .a, d => .sh d
  | .s, d => .io d
  | .p, d => .pk d
def rho0 (fd : FD) (ds : List D) : Rho := List.zipWith slK fd.ks ds ++ List.replicate (fd.N.length - ds.length) .un
def outsR : List PKd → Nat → Rho → Option (List D)
  | [], _, _ => some []
  | .s :: ks, i, ρ => (slotD ρ[i]?).bind fun d => (outsR ks (i + 1) ρ).map (d :: ·)
  | .a :: ks, i, ρ => (outsR ks (i + 1) ρ).map (.none :: ·)
  | .p :: ks, i, ρ => (outsR ks (i + 1) ρ).map (.none :: ·)
def outK (ks : List PKd) (ρ : Rho) : Option (List D) := if ks.contains .s = true then outsR ks 0 ρ else some []
def crO (d : D) : Option (List D) → CR
  | some os => .ok d os
  | none => .bad
def crE (c : Str) (p : List D) : Option (List D) → CR
  | some os => .exc c p os
  | none => .bad
def SO.out (ks : List PKd) : SO → CR
  | .next ρ => crO .none (outK ks ρ)
  | .ret d ρ => crO d (outK ks ρ)
  | .exc c p ρ => crE c p (outK ks ρ)
  | _ => .bad
def runF (cf : Str → List D → CR) (fd : FD) (ds : List D) : CR := (execs cf fd.fr fd.body (rho0 fd ds)).out fd.ks
def callF (T : List FD) : Nat → Str → List D → CR
  | 0, _, _ => .bad
  | k + 1, f, ds => match T.find? (fun fd => fd.nm == f) with
    | some fd => if ds.length = fd.ps.length then runF (callF T k) fd ds else .bad
    | none => .bad
/-- a def of the text stands where its name tells -/
structure DefOk (K : PySem.W.Frag) (mg : Str → Option Value) (G : GI) (fd : FD) : Prop where
  ex : ∃ (f : Addr) (dt : FuncData) (st : Stmt) (qual : Str), mg fd.nm = some (.ref f) ∧ Fun K fd.nm qual st f dt ∧ FnScope fd.N fd.ps (defScope st) ∧ (∀ us : List Value, us.length = fd.ps.length → bindArgs dt ⟨us, []⟩ = pure (fd.ps.zip us)) ∧ compSs (compS G fd.N (defScope st) fd.fr 100) (defBody st) = some fd.body
  db : (fd.nm == ("__debug__" : Str)) = false
  ks : fd.ks.length = fd.ps.length
/-! the begin: the places that own what is handed over -/
def F0 : List PKd → List Addr → Nat → List Addr
  | .s :: _, a :: _, 0 => [a]
  | .s :: ks, _ :: as, i + 1 => F0 ks as i
  | .a :: ks, as, i + 1 => F0 ks as i
  | .p :: ks, as, i + 1 => F0 ks as i
  | _, _, _ => []
def pin0 (ks : List PKd) (as : List Addr) : List (Nat × Addr) := (List.range ks.length).flatMap fun i => (F0 ks as i).map fun a => (i, a)
section
variable {P : Program} {w : World} {K : PySem.W.Frag} {mg : Str → Option Value} {base : Heap} {T : List FD} {G : GI} {H : Hp} {W : WS} {as0 : List Addr}
theorem F0_mem : ∀ {ks : List PKd} {as : List Addr} {i : Nat} {a : Addr}, a ∈ F0 ks as i → a ∈ as ∧ F0 ks as i = [a] ∧ ks[i]? = some .s
  | [], as, i, a, h => by unfold F0 at h; cases h
  | .s :: ks, [], i, a, h => by unfold F0 at h; cases h
  | .s :: ks, b :: as, 0, a, h => by
    have h : a ∈ [b] := h
    rw [List.mem_singleton] at h
    subst h
    exact ⟨List.mem_cons_self, rfl, rfl⟩
  | .s :: ks, b :: as, i + 1, a, h => by
    obtain ⟨h1, h2, h3⟩ := F0_mem (ks := ks) (as := as) (i := i) h
    exact ⟨List.mem_cons_of_mem _ h1, h2, by simpa using h3⟩
  | .a :: ks, as, 0, a, h => by unfold F0 at h; cases h
  | .a :: ks, as, i + 1, a, h => by
    have h : a ∈ F0 ks as i := by cases as <;> exact h
    obtain ⟨h1, h2, h3⟩ := F0_mem h
    exact ⟨h1, by cases as <;> exact h2, by simpa using h3⟩
  | .p :: ks, as, 0, a, h => by unfold F0 at h; cases h
  | .p :: ks, as, i + 1, a, h => by
    have h : a ∈ F0 ks as i := by cases as <;> exact h
    obtain ⟨h1, h2, h3⟩ := F0_mem h
    exact ⟨h1, by cases as <;> exact h2, by simpa using h3⟩
theorem F0_as (ks : List PKd) (as : List Addr) (i : Nat) : F0 (.a :: ks) as (i + 1) = F0 ks as i := by cases as <;> rfl
theorem F0_ps (ks : List PKd) (as : List Addr) (i : Nat) : F0 (.p :: ks) as (i + 1) = F0 ks as i := by cases as <;> rfl
theorem F0_a0 (ks : List PKd) (as : List Addr) : F0 (.a :: ks) as 0 = [] := by cases as <;> rfl
theorem F0_p0 (ks : List PKd) (as : List Addr) : F0 (.p :: ks) as 0 = [] := by cases as <;> rfl
theorem F0_sep : ∀ {ks : List PKd} {as : List Addr} {i j : Nat} {a : Addr}, as.Nodup → a ∈ F0 ks as i → a ∈ F0 ks as j → i = j
  | [], as, i, j, a, hn, h, h' => by unfold F0 at h; cases h
  | .s :: ks, [], i, j, a, hn, h, h' => by unfold F0 at h; cases h
  | .s :: ks, b :: as, i, j, a, hn, h, h' => by
    rw [List.nodup_cons] at hn
    cases i with
    | zero =>
      cases j with
      | zero => rfl
      | succ j =>
        have h1 : a ∈ [b] := h
        rw [List.mem_singleton] at h1
        exact absurd (h1 ▸ (F0_mem (ks := ks) (as := as) (i := j) h').1) hn.1
    | succ i =>
      cases j with
      | zero =>
        have h1 : a ∈ [b] := h'
        rw [List.mem_singleton] at h1
        exact absurd (h1 ▸ (F0_mem (ks := ks) (as := as) (i := i) h).1) hn.1
      | succ j => rw [F0_sep (ks := ks) (as := as) (i := i) (j := j) hn.2 h h']
  | .a :: ks, as, i, j, a, hn, h, h' => by
    cases i with
    | zero => rw [F0_a0] at h; cases h
    | succ i =>
      cases j with
      | zero => rw [F0_a0] at h'; cases h'
      | succ j => rw [F0_as] at h h'; rw [F0_sep hn h h']
  | .p :: ks, as, i, j, a, hn, h, h' => by
    cases i with
    | zero => rw [F0_p0] at h; cases h
    | succ i =>
      cases j with
      | zero => rw [F0_p0] at h'; cases h'
      | succ j => rw [F0_ps] at h h'; rw [F0_sep hn h h']
/-- a parameter -/
structure Par (K : PySem.W.Frag × World) (H : Hp) (W : WS) (as0 : List Addr) (F : List Addr) (kd : PKd) (d : D) (v : V) : Prop where
  a : kd = .a → F = [] ∧ R K H W d v
  p : kd = .p → F = [] ∧ (R K H W d v ∨ ∃ a, v = .ref a ∧ OwnAt K H W a d ∧ W a ∧ a ∉ as0)
  s : kd = .s → ∃ a, F = [a] ∧ v = .ref a ∧ OwnAt K H W a d
theorem hand_get : ∀ {ks : List PKd} {ds : List D} {vs : List V} {as : List Addr}, HandOk (K, w) H W as0 ks ds vs as → ks.length = ds.length ∧ vs.length = ds.length ∧ (∀ (i : Nat) (kd : PKd), ks[i]? = some kd → ∃ d v, ds[i]? = some d ∧ vs[i]? = some v ∧ Par (K, w) H W as0 (F0 ks as i) kd d v) ∧ ∀ a ∈ as, ∃ i, a ∈ F0 ks as i
  | [], ds, vs, as, h => by
    cases ds <;> cases vs <;> cases as <;> first | exact h.elim | skip
    exact ⟨rfl, rfl, fun i kd e => by simp at e, fun a h => (List.not_mem_nil h).elim⟩
  | .a :: ks, ds, vs, as, h => by
    cases ds with
    | nil => exact h.elim
    | cons d ds =>
    cases vs with
    | nil => exact h.elim
    | cons v vs =>
    have h : R (K, w) H W d v ∧ HandOk (K, w) H W as0 ks ds vs as := by cases as <;> exact h
    obtain ⟨q1, q2, q3, q4⟩ := hand_get h.2
    refine ⟨by simp [q1], by simp [q2], fun i kd e => ?_, fun a ha => let ⟨i, hi⟩ := q4 a ha; ⟨i + 1, by rw [F0_as]; exact hi⟩⟩
    cases i with
    | zero =>
      simp at e
      subst e
      exact ⟨d, v, rfl, rfl, fun _ => ⟨F0_a0 _ _, h.1⟩, (fun z => by cases z), fun z => by cases z⟩
    | succ i =>
      obtain ⟨d', v', e1, e2, e3⟩ := q3 i kd (by simpa using e)
      exact ⟨d', v', by simpa using e1, by simpa using e2, by rw [F0_as]; exact e3⟩
  | .p :: ks, ds, vs, as, h => by
    cases ds with
    | nil => exact h.elim
    | cons d ds =>
    cases vs with
    | nil => exact h.elim
    | cons v vs =>
    have h : (R (K, w) H W d v ∨ ∃ a, v = .ref a ∧ OwnAt (K, w) H W a d ∧ W a ∧ a ∉ as0) ∧ HandOk (K, w) H W as0 ks ds vs as := by cases as <;> exact h
    obtain ⟨q1, q2, q3, q4⟩ := hand_get h.2
    refine ⟨by simp [q1], by simp [q2], fun i kd e => ?_, fun a ha => let ⟨i, hi⟩ := q4 a ha; ⟨i + 1, by rw [F0_ps]; exact hi⟩⟩
    cases i with
    | zero =>
      simp at e
      subst e
      exact ⟨d, v, rfl, rfl, (fun z => by cases z), fun _ => ⟨F0_p0 _ _, h.1⟩, fun z => by cases z⟩
    | succ i =>
      obtain ⟨d', v', e1, e2, e3⟩ := q3 i kd (by simpa using e)
      exact ⟨d', v', by simpa using e1, by simpa using e2, by rw [F0_ps]; exact e3⟩
  | .s :: ks, ds, vs, as, h => by
    cases ds with
    | nil => exact h.elim
    | cons d ds =>
    cases vs with
    | nil => exact h.elim
    | cons v vs =>
    cases as with
    | nil => exact h.elim
    | cons a as =>
    obtain ⟨h1, h2, h⟩ := h
    obtain ⟨q1, q2, q3, q4⟩ := hand_get h
    refine ⟨by simp [q1], by simp [q2], fun i kd e => ?_, fun b hb => ?_⟩
    · cases i with
      | zero =>
        simp at e
        subst e
        exact ⟨d, v, rfl, rfl, (fun z => by cases z), (fun z => by cases z), fun _ => ⟨a, rfl, h1, h2⟩⟩
      | succ i =>
        obtain ⟨d', v', e1, e2, e3⟩ := q3 i kd (by simpa using e)
        exact ⟨d', v', by simpa using e1, by simpa using e2, e3⟩
    · rcases List.mem_cons.mp hb with hb | hb
      · exact ⟨0, by rw [hb]; exact List.mem_cons_self⟩
      · obtain ⟨i, hi⟩ := q4 b hb
        exact ⟨i + 1, hi⟩
theorem mem_pin0 {ks : List PKd} {as : List Addr} {i : Nat} {a : Addr} : (i, a) ∈ pin0 ks as → a ∈ F0 ks as i := fun h => by
  unfold pin0 at h
  obtain ⟨j, hj, h⟩ := List.mem_flatMap.mp h
  obtain ⟨b, hb, e⟩ := List.mem_map.mp h
  cases e
  exact hb
theorem pin0_mem {ks : List PKd} {as : List Addr} {i : Nat} {a : Addr} (h : a ∈ F0 ks as i) : (i, a) ∈ pin0 ks as := by
  have hi : i < ks.length := (List.getElem?_eq_some_iff.mp (F0_mem h).2.2).1
  unfold pin0
  exact List.mem_flatMap.mpr ⟨i, List.mem_range.mpr hi, List.mem_map.mpr ⟨a, h, rfl⟩⟩
def Fr0 (W : WS) (ks : List PKd) (as : List Addr) : Fr := ⟨fun a => W a ∧ a ∉ as, fun _ => False, fun _ => False, pin0 ks as⟩
theorem fr0_wu {ks : List PKd} {as : List Addr} (ha : ∀ a ∈ as, W a) : ∀ a, WU (Fr0 W ks as) (fun a => a ∈ as) a ↔ W a := fun a => by
  constructor
  · rintro (((z | z) | z) | z)
    · exact z.1
    · exact z.elim
    · exact z.elim
    · exact ha a z
  · intro z
    by_cases h : a ∈ as
    · exact .inr h
    · exact .inl (.inl (.inl ⟨z, h⟩))
theorem rep0 {fd : FD} {ds : List D} {vs : List V} {as : List Addr} (tr : ∀ a, W a → H a ≠ none) (hn : as.Nodup) (ha : ∀ a ∈ as, W a) (h : HandOk (K, w) H W as fd.ks ds vs as) (hl : ds.length = fd.ps.length) (S : fd.N.take fd.ps.length = fd.ps) : Rep (K, w) (Fr0 W fd.ks as) (fun a => a ∈ as) (L2.start fd.N vs) H (rho0 fd ds) := by
  obtain ⟨q1, q2, q3, q4⟩ := hand_get h
  have lenN : fd.ps.length ≤ fd.N.length := by
    have := congrArg List.length S
    rw [List.length_take] at this
    omega
  have lz : (List.zipWith slK fd.ks ds).length = ds.length := by rw [List.length_zipWith, q1, Nat.min_self]
  have wu := fr0_wu (ks := fd.ks) ha
  have less : ∀ a, WU (Fr0 W fd.ks as) (fun a => a ∈ as) a → W a := fun a => (wu a).mp
  have slot : ∀ (i : Nat) (sl : Sl), (rho0 fd ds)[i]? = some sl → (sl = .un ∧ F0 fd.ks as i = []) ∨ ∃ kd d v, fd.ks[i]? = some kd ∧ sl = slK kd d ∧ (L2.start fd.N vs)[i]? = some (some v) ∧ Par (K, w) H W as (F0 fd.ks as i) kd d v := fun i sl e => by
    unfold rho0 at e
    by_cases hi : i < (List.zipWith slK fd.ks ds).length
    · rw [List.getElem?_append_left hi, List.getElem?_zipWith] at e
      have hik : i < fd.ks.length := by rw [lz] at hi; omega
      obtain ⟨d, v, e1, e2, e3⟩ := q3 i _ (List.getElem?_eq_getElem hik)
      rw [e1, List.getElem?_eq_getElem hik] at e
      cases e
      refine .inr ⟨_, d, v, List.getElem?_eq_getElem hik, rfl, ?_, e3⟩
      unfold L2.start
      rw [List.getElem?_append_left (by rw [List.length_map, q2, ← lz]; exact hi), List.getElem?_map, e2]
      rfl
    · rw [List.getElem?_append_right (by omega)] at e
      have := List.mem_of_getElem? e
      rw [List.mem_replicate] at this
      refine .inl ⟨this.2, ?_⟩
      cases eF : F0 fd.ks as i with
      | nil => rfl
      | cons x l =>
        have := (F0_mem (ks := fd.ks) (as := as) (i := i) (a := x) (by rw [eF]; simp)).2.2
        have := (List.getElem?_eq_some_iff.mp this).1
        omega
  refine ⟨F0 fd.ks as, ?_, fun i hi => ?_, fun i sl e => ?_, fun i j k e => ?_, fun i => ?_, fun i j a h1 h2 => F0_sep hn h1 h2, fun a => ⟨fun z => q4 a z, fun ⟨i, z⟩ => (F0_mem z).1⟩, fun a z => ?_, fun a z => ?_, fun i a z => ?_, fun i d z => ?_⟩
  · unfold rho0 L2.start
    rw [List.length_append, List.length_append, lz]
    simp [q2]
  · cases eF : F0 fd.ks as i with
    | nil => rfl
    | cons x l =>
      have h3 := (F0_mem (ks := fd.ks) (as := as) (i := i) (a := x) (by rw [eF]; simp)).2.2
      have h4 := (List.getElem?_eq_some_iff.mp h3).1
      unfold rho0 at hi
      rw [List.length_append, lz] at hi
      omega
  · rcases slot i sl e with ⟨rfl, h2⟩ | ⟨kd, d, v, h1, rfl, h3, h4⟩
    · exact h2
    · cases kd with
      | a => exact ⟨(h4.a rfl).1, v, h3, R.stp (Stp.less less) d v (h4.a rfl).2⟩
      | p =>
        obtain ⟨g1, g2⟩ := h4.p rfl
        exact ⟨g1, v, h3, g2.imp (R.stp (Stp.less less) d v) fun ⟨a, z1, z2, z3, z4⟩ => ⟨a, z1, z2.less less, z3, z4⟩⟩
      | s =>
        obtain ⟨a, g1, g2, g3⟩ := h4.s rfl
        subst g2
        exact ⟨a, g1, h3, g3.less less⟩
  · rcases slot i _ e with ⟨z, _⟩ | ⟨kd, d, v, h1, z, h3, h4⟩
    · cases z
    · cases kd <;> cases z
  · cases eF : F0 fd.ks as i with
    | nil => exact .nil
    | cons x l =>
      have h3 := (F0_mem (ks := fd.ks) (as := as) (i := i) (a := x) (by rw [eF]; simp)).2.1
      rw [← eF, h3]
      simp
  · rintro ((w1 | w1) | w1)
    · exact w1.2 z
    · exact w1
    · exact w1
  · rcases z with (z | z) | z
    · exact tr a z.1
    · exact z.elim
    · exact z.elim
  · have hF := mem_pin0 z
    obtain ⟨_, h2, h3⟩ := F0_mem hF
    have hi := (List.getElem?_eq_some_iff.mp h3).1
    obtain ⟨d, v, e1, e2, e3⟩ := q3 i _ h3
    obtain ⟨a', g1, g2, g3⟩ := e3.s rfl
    rw [h2] at g1
    cases g1
    subst g2
    refine ⟨?_, .io d, ?_, rfl⟩
    · unfold L2.start
      rw [List.getElem?_append_left (by rw [List.length_map]; omega), List.getElem?_map, e2]
      rfl
    · unfold rho0
      rw [List.getElem?_append_left (by rw [lz]; omega), List.getElem?_zipWith, e1, h3]
      rfl
  · rcases slot i _ z with ⟨q, _⟩ | ⟨kd, d, v, h1, q, h3, h4⟩
    · cases q
    · cases kd <;> cases q
theorem out_ok {H' : Hp} {W' : WS} {ρ : Rho} : ∀ {ks : List PKd} {ds : List D} {vs : List V} {as : List Addr} {n : Nat} {os : List D}, HandOk (K, w) H W as0 ks ds vs as → outsR ks n ρ = some os → (∀ (i : Nat) (a : Addr), a ∈ F0 ks as i → ∀ d, slotD ρ[n + i]? = some d → OwnAt (K, w) H' W' a d) → OutOk (K, w) H' W' ks os as
  | [], ds, vs, as, n, os, h, e, k => by
    simp only [outsR, Option.some.injEq] at e
    subst e
    cases ds <;> cases vs <;> cases as <;> first | exact h.elim | skip
    exact trivial
  | .a :: ks, ds, vs, as, n, os, h, e, k => by
    cases ds with
    | nil => exact h.elim
    | cons d ds =>
    cases vs with
    | nil => exact h.elim
    | cons v vs =>
    have h : R (K, w) H W d v ∧ HandOk (K, w) H W as0 ks ds vs as := by cases as <;> exact h
    simp only [outsR] at e
    obtain ⟨os', e1, e2⟩ := Option.map_eq_some_iff.mp e
    subst e2
    have := out_ok (W' := W') (H' := H') h.2 e1 fun i a hi d hd => k (i + 1) a (by rw [F0_as]; exact hi) d (by rw [show n + (i + 1) = n + 1 + i by omega]; exact hd)
    cases as <;> exact this
  | .p :: ks, ds, vs, as, n, os, h, e, k => by
    cases ds with
    | nil => exact h.elim
    | cons d ds =>
    cases vs with
    | nil => exact h.elim
    | cons v vs =>
    have h : (R (K, w) H W d v ∨ ∃ a, v = .ref a ∧ OwnAt (K, w) H W a d ∧ W a ∧ a ∉ as0) ∧ HandOk (K, w) H W as0 ks ds vs as := by cases as <;> exact h
    simp only [outsR] at e
    obtain ⟨os', e1, e2⟩ := Option.map_eq_some_iff.mp e
    subst e2
    have := out_ok (W' := W') (H' := H') h.2 e1 fun i a hi d hd => k (i + 1) a (by rw [F0_ps]; exact hi) d (by rw [show n + (i + 1) = n + 1 + i by omega]; exact hd)
    cases as <;> exact this
  | .s :: ks, ds, vs, as, n, os, h, e, k => by
    cases ds with
    | nil => exact h.elim
    | cons d ds =>
    cases vs with
    | nil => exact h.elim
    | cons v vs =>
    cases as with
    | nil => exact h.elim
    | cons a as =>
    simp only [outsR] at e
    obtain ⟨d1, e1, e⟩ := Option.bind_eq_some_iff.mp e
    obtain ⟨os', e2, e3⟩ := Option.map_eq_some_iff.mp e
    subst e3
    exact ⟨k 0 a List.mem_cons_self d1 e1, out_ok h.2.2 e2 fun i b hi d hd => k (i + 1) b hi d (by rw [show n + (i + 1) = n + 1 + i by omega]; exact hd)⟩
theorem no_s : ∀ {ks : List PKd} {ds : List D} {vs : List V} {as : List Addr}, HandOk (K, w) H W as0 ks ds vs as → ks.contains .s = false → as = []
  | [], ds, vs, as, h, e => by
    cases ds <;> cases vs <;> cases as <;> first | exact h.elim | rfl
  | .a :: ks, ds, vs, as, h, e => by
    cases ds with
    | nil => exact h.elim
    | cons d ds =>
    cases vs with
    | nil => exact h.elim
    | cons v vs =>
    have h : R (K, w) H W d v ∧ HandOk (K, w) H W as0 ks ds vs as := by cases as <;> exact h
    exact no_s h.2 (by simpa using e)
  | .p :: ks, ds, vs, as, h, e => by
    cases ds with
    | nil => exact h.elim
    | cons d ds =>
    cases vs with
    | nil => exact h.elim
    | cons v vs =>
    have h : (R (K, w) H W d v ∨ ∃ a, v = .ref a ∧ OwnAt (K, w) H W a d ∧ W a ∧ a ∉ as0) ∧ HandOk (K, w) H W as0 ks ds vs as := by cases as <;> exact h
    exact no_s h.2 (by simpa using e)
  | .s :: ks, ds, vs, as, h, e => by simp at e
/-- what is known of the module -/
structure ModOk (K : PySem.W.Frag) (w : World) (mg : Str → Option Value) (T : List FD) (G : GI) : Prop where
  consts : ∀ x d, G.consts.lookup x = some d → ∃ u v, mg x = some u ∧ RelV v u ∧ R (K, w) (fun _ => none) (fun _ => False) d v
  blt : ∀ t ∈ G.blt, mg (Str.ofString t) = none
  fns : ∀ x fr ks, G.fns.lookup x = some (fr, ks) → ∃ fd, T.find? (fun fd => fd.nm == x) = some fd ∧ fd.fr = fr ∧ fd.ks = ks
  defs : ∀ fd ∈ T, DefOk K mg G fd
theorem fun_look {x qual : Str} {st : Stmt} {f : Addr} {fd : FuncData} (F : Fun K x qual st f fd) : ∃ oc od osl, K.lookup f = some ⟨oc, od, .func fd, osl⟩ := by
  obtain ⟨oc, od, kV, doc, pm, an, cdv, ct, osl, rfl, lk, hcd⟩ := F.ex
  exact ⟨oc, od, osl, lk⟩
theorem lookup_mem {α : Type} {x : Str} {d : α} : ∀ {l : List (Str × α)}, l.lookup x = some d → (x, d) ∈ l
  | [], h => by cases h
  | (y, e) :: l, h => by
    rw [List.lookup_cons] at h
    split at h
    · rename_i hq
      cases h
      rw [LawfulBEq.eq_of_beq hq]
      exact List.mem_cons_self
    · exact List.mem_cons_of_mem _ (lookup_mem h)
theorem sp_len {fr : Bool} {f : List D → CR} {ks : List PKd} {vs : List V} {H : Hp} {Q : VK} {E : Value → Option Addr → Hp → Prop} (h : spF (K, w) mg ks fr f vs H Q E) : vs.length = ks.length := by
  obtain ⟨W, ds, as, _, _, _, q, _⟩ := h
  obtain ⟨q1, q2, _⟩ := hand_get q
  rw [q2, q1]
theorem fns_ok (M : ModOk K w mg T G) : ∀ (k : Nat) (x : Str) (fd : FD), T.find? (fun fd => fd.nm == x) = some fd →
    ∃ (f : Addr) (dt : FuncData) (ps : List Str), mg x = some (.ref f) ∧ PySem.W.keepIn K (.ref f) = true ∧ Binds K dt ps [] ∧ ps = fd.ps ∧ (∃ oc od osl, K.lookup f = some ⟨oc, od, .func dt, osl⟩) ∧ FnOk P w K mg base (L2.CX P w) (2 * k) f dt ps (spF (K, w) mg fd.ks fd.fr (callF T k x)) := by
  intro k
  induction k with
  | zero =>
    intro x fd h
    have hx : fd.nm = x := by simpa using List.find?_some h
    have hks := (M.defs fd (List.mem_of_find?_eq_some h)).ks
    obtain ⟨f, dt, st, qual, h1, h2, h3, h4, h5⟩ := (M.defs fd (List.mem_of_find?_eq_some h)).ex
    refine ⟨f, dt, fd.ps, by rw [← hx]; exact h1, h2.kp, .all h4, rfl, fun_look h2, ⟨fun vs H Q E q => by rw [sp_len q, hks], fun A outer s H args us vs Q E _ _ _ _ q => ?_⟩⟩
    obtain ⟨W, ds, as, _, _, _, _, q⟩ := q
    exact q.elim
  | succ k ih =>
    intro x fd h
    have hx : fd.nm = x := by simpa using List.find?_some h
    have hks := (M.defs fd (List.mem_of_find?_eq_some h)).ks
    obtain ⟨f, dt, st, qual, h1, h2, h3, h4, h5⟩ := (M.defs fd (List.mem_of_find?_eq_some h)).ex
    refine ⟨f, dt, fd.ps, by rw [← hx]; exact h1, h2.kp, .all h4, rfl, fun_look h2, Fun.okX h2 h3 (fun vs H Q E q => by rw [sp_len q, hks]) fun cdv A outer s H vs Q E hr q => ?_⟩
    obtain ⟨W, ds, as, tr, hn, ha, hh, q⟩ := q
    obtain ⟨l1, l2, l3, l4⟩ := hand_get hh
    have hl : ds.length = fd.ps.length := by rw [← l1, hks]
    have fs : FitsS (cxOf (L2.CX P w) P w K mg base fd.N qual (defScope st) f cdv A outer s H E) G fd.N (defScope st) (2 * k) (callF T k) (fun cls d _ H => E cls d H) := by
      refine ⟨⟨rfl, rfl, rfl, h3.nd, rfl, hr, takes_of rfl rfl rfl rfl, M.consts, M.blt, fun x' fr ks hx' => ?_⟩, passes_of rfl, h3.kind⟩
      obtain ⟨fd', k1, k2, k3⟩ := M.fns x' fr ks hx'
      obtain ⟨f', dt', ps', g1, g2, g3, g4, _, g5⟩ := ih x' fd' k1
      refine ⟨⟨f', dt', ps', g1, g2, g3, ?_⟩, ?_⟩
      · rw [← k2, ← k3]
        exact g5
      · have hx2 : fd'.nm = x' := by simpa using List.find?_some k1
        rw [← hx2]
        exact (M.defs fd' (List.mem_of_find?_eq_some k1)).db
    refine ⟨_, compSs_ok (compS_ok fs 100) h5, rho0 fd ds, Fr0 W fd.ks as, fun a => a ∈ as, rep0 tr hn ha hh hl h3.pre, ?_⟩
    have e0 : callF T (k + 1) x ds = runF (callF T k) fd ds := by
      show (match T.find? (fun fd => fd.nm == x) with
        | some fd => if ds.length = fd.ps.length then runF (callF T k) fd ds else CR.bad
        | none => .bad) = _
      rw [h]
      dsimp only
      rw [if_pos hl]
    rw [e0] at q
    unfold runF at q
    -- what is told of what was handed over
    have kept : ∀ {H' : Hp} {U' : WS}, SX H (fun a => a ∈ as) H' U' → KeepB H as H' := fun t => ⟨fun a o e n => (t.keep a o e n).1, t.trk⟩
    have wsub : ∀ {σ' : L2.St} {H' : Hp} {U' : WS} {ρ' : Rho}, Rep (K, w) (Fr0 W fd.ks as) U' σ' H' ρ' → ∀ b, W b → WU (Fr0 W fd.ks as) U' b := fun {σ' H' U' ρ'} r b hb => by
      by_cases hba : b ∈ as
      · obtain ⟨i, hi⟩ := l4 b hba
        exact r.wrB.2 i b (pin0_mem hi)
      · exact .inl (.inl (.inl ⟨hb, hba⟩))
    have slD : ∀ {ρ' : Rho} {σ' : L2.St} {H' : Hp} {U' : WS} (i : Nat) (a : Addr), Rep (K, w) (Fr0 W fd.ks as) U' σ' H' ρ' → a ∈ F0 fd.ks as i → σ'[i]? = some (some (V.ref a)) ∧ ∀ d, slotD ρ'[i]? = some d → ρ'[i]? = some (.io d) := fun {ρ' σ' H' U'} i a r hi => by
      obtain ⟨F, r⟩ := r
      obtain ⟨g1, sl, g2, g3⟩ := r.pin i a (pin0_mem hi)
      refine ⟨g1, fun d hd => ?_⟩
      rw [g2] at hd ⊢
      cases sl <;> simp only [isPin] at g3 <;> first | cases g3 | skip
      · cases hd; rfl
      · cases hd
    have outs : ∀ {ρ' : Rho} {σ' : L2.St} {H' : Hp} {U' : WS} {os : List D} {W' : WS}, Rep (K, w) (Fr0 W fd.ks as) U' σ' H' ρ' → outK fd.ks ρ' = some os → (∀ (i : Nat) (d : D), ρ'[i]? = some (.io d) → ∀ a, σ'[i]? = some (some (V.ref a)) → OwnAt (K, w) H' W' a d) → as = [] ∨ OutOk (K, w) H' W' fd.ks os as := fun {ρ' σ' H' U' os W'} r e kk => by
      unfold outK at e
      split at e
      · refine .inr (out_ok hh e fun i a hi d hd => ?_)
        rw [Nat.zero_add] at hd
        obtain ⟨g1, g2⟩ := slD i a r hi
        exact kk i d (g2 d hd) a g1
      · rename_i hc
        exact .inl (no_s hh (Bool.eq_false_iff.mpr hc))
    have plain : ∀ {ρ' : Rho} {σ' : L2.St} {H' : Hp} {U' : WS} (W' : WS), (∀ b, W' b → W b) → Rep (K, w) (Fr0 W fd.ks as) U' σ' H' ρ' → ∀ (i : Nat) (d : D), ρ'[i]? = some (.io d) → ∀ a, σ'[i]? = some (some (V.ref a)) → OwnAt (K, w) H' W' a d := fun {ρ' σ' H' U'} W' hw r i d e a es => by
      obtain ⟨b, w1, w2⟩ := r.ilB (d := d) (by rw [e]; rfl)
      rw [es] at w1
      cases w1
      exact w2.less fun c z => wsub r c (hw c z)
    revert q
    cases execs (callF T k) fd.fr fd.body (rho0 fd ds) with
    | next ρ' =>
      intro q σ' H' U' r' st'
      simp only [SO.out] at q
      cases eo : outK fd.ks ρ' with
      | none => rw [eo] at q; exact q.elim
      | some os =>
      rw [eo] at q
      refine q .non H' (kept st') (outs r' eo (plain _ (fun b z => z.elim id fun z => by cases z.2) r')) ?_
      have hR : R (K, w) H' W .none .non := by simp only [R]
      split
      · exact RN.of hR rfl
      · exact hR
    | ret d ρ' =>
      intro q v σ' H' U' r' st' ro
      simp only [SO.out] at q
      cases eo : outK fd.ks ρ' with
      | none => rw [eo] at q; exact q.elim
      | some os =>
      rw [eo] at q
      obtain ⟨Wr, w1, w2, w3, w4⟩ := ro
      have wW : ∀ b, W b → Wr b := fun b hb => by
        by_cases hba : b ∈ as
        · obtain ⟨i, hi⟩ := l4 b hba
          exact w2 i b (pin0_mem hi)
        · exact w1 b (.inl (.inl ⟨hb, hba⟩))
      have hR : R (K, w) H' W d v := R.stp (Stp.less wW) d v w3
      by_cases hfb : fd.fr = true ∧ isBox d = true
      · obtain ⟨a, e, n, ho, hil⟩ := w4 hfb.1 hfb.2
        subst e
        have ea : apF d (.ref a) = some a := by unfold apF; rw [if_pos hfb.2]
        have hn' : H a = none := by
          rcases n with n | ⟨i, d', n1, n2⟩
          · exact n
          · obtain ⟨F, rf⟩ := id r'
            obtain ⟨a', z1, z2, z3⟩ := rf.ok i _ n1
            rw [n2] at z2
            cases z2
            have hU : U' a := (rf.mem a).mpr ⟨i, by rw [z1]; simp⟩
            rcases st'.new a hU with z | z
            · exfalso
              obtain ⟨j, hj⟩ := l4 a z
              obtain ⟨g1, sl, g2, g3⟩ := rf.pin j a (pin0_mem hj)
              cases sl <;> simp only [isPin] at g3 <;> first | cases g3 | skip
              · obtain ⟨b, y1, y2, y3⟩ := rf.ok j _ g2
                rw [g1] at y2
                cases y2
                have := rf.sep i j a (by rw [z1]; simp) (by rw [y1]; simp)
                subst this
                rw [n1] at g2
                cases g2
              · obtain ⟨y1, b, y2, y3, y4⟩ := rf.ok j _ g2
                exact y4.elim
            · exact z
        refine q _ H' (kept st') (outs r' eo fun i d' ei a' es => ?_) ?_
        · obtain ⟨b, y1, y2⟩ := hil i d' (by rw [ei]; rfl)
          rw [es] at y1
          cases y1
          exact y2.less fun c z => z.imp (wW c) fun z => by rw [ea] at z; exact (Option.some.inj z.2).symm
        · rw [if_pos hfb.1]
          exact ⟨hR, fun _ => ⟨a, rfl, hn', ho.less fun c z => z.imp (wW c) id⟩⟩
      · refine q v H' (kept st') (outs r' eo (plain _ (fun b z => z.elim id fun z => ?_) r')) ?_
        · exfalso
          refine hfb ⟨z.1, ?_⟩
          have z2 := z.2
          unfold apF at z2
          split at z2
          · assumption
          · cases z2
        · split
          · rename_i hfr
            exact ⟨hR, fun hb => absurd ⟨hfr, hb⟩ hfb⟩
          · exact hR
    | exc c p ρ' =>
      intro q cls dd σ' H' U' r' st' he
      simp only [SO.out] at q
      cases eo : outK fd.ks ρ' with
      | none => rw [eo] at q; exact q.elim
      | some os =>
      rw [eo] at q
      exact q cls dd H' (kept st') (outs r' eo (plain _ (fun b z => z) r')) he
    | brk ρ' => exact fun q => q.elim
    | cont ρ' => exact fun q => q.elim
    | bad => exact fun q => q.elim
/-- the law's own function at a script -/
def spL (K : PySem.W.Frag) : Sp := fun vs H Q _ => ∃ (a : Addr) (ns : List Int), vs = [.ref a] ∧ SqL K H a (ns.map V.int) ∧ ns.length ≤ 63 ∧ ∀ H', Q (.bl true) H'
theorem law_ok (M : ModOk K w mg T G) {k : Nat} {fd : FD} (h : T.find? (fun fd => fd.nm == ("law" : Str)) = some fd) {x : Str} (hp : fd.ps = [x]) (hk : fd.ks = [.a]) (hL : ∀ ns : List Int, ns.length ≤ 63 → callF T k "law" [.list (ns.map PyData.int)] = .ok (.bool true) []) :
    ∃ (f : Addr) (dt : FuncData), mg ("law" : Str) = some (.ref f) ∧ (∃ oc od osl, K.lookup f = some ⟨oc, od, .func dt, osl⟩) ∧ FnOk P w K mg base (L2.CX P w) (2 * k) f dt [x] (spL K) := by
  obtain ⟨f, dt, ps, h1, h2, h3, h4, h6, h5⟩ := fns_ok (P := P) (base := base) M k "law" fd h
  rw [hp] at h4
  subst h4
  refine ⟨f, dt, h1, h6, h5.imp fun vs H Q E ⟨a, ns, e, hS, hl, q⟩ => ?_⟩
  subst e
  rw [hk]
  refine ⟨fun _ => False, [.list (ns.map PyData.int)], [], fun _ z => z.elim, .nil, fun a h => (List.not_mem_nil h).elim, ⟨?_, trivial⟩, ?_⟩
  · simp only [R]
    refine ⟨a, ns.map V.int, rfl, ?_, Rs.ints⟩
    exact hS.elim (fun z => .inl ⟨z, id⟩) .inr
  · rw [hL ns hl]
    intro v H' _ _ r
    have : v = .bl true := by
      split at r
      · have := r.1; simpa only [R] using this
      · simpa only [R] using r
    rw [this]
    exact q H'
theorem end_ok {l : Program} {h : Heap} {k : Nat} {fd : FD} (M : ModOk K w mg T G) (X : K.In h) (N : h.Ns mainGlobals mg) {fa : Addr} (hmg : mg (Str.ofString "law") = some (.ref fa)) (hf : T.find? (fun fd => fd.nm == Str.ofString "law") = some fd) (hp : fd.ps = [Str.ofString "_law_script"]) (hk : fd.ks = [.a])
    (hL : ∀ ns : List Int, ns.length ≤ 63 → callF T k (Str.ofString "law") [.list (ns.map PyData.int)] = .ok (.bool true) []) :
    ∃ dt : FuncData, (∀ (s : Shared) (u : Value), BindsTo s dt ⟨[u], []⟩ [(Str.ofString "_law_script", u)]) ∧ ∀ base : Heap, K.In base → base.Ns mainGlobals mg → FnOk l w K mg base (L2.CX l w) (2 * k) fa dt [Str.ofString "_law_script"] (spL K) := by
  have hx : fd.nm = Str.ofString "law" := by simpa using List.find?_some hf
  obtain ⟨f, dt, st, qual, h1, h2, h3, h4, h5⟩ := (M.defs fd (List.mem_of_find?_eq_some hf)).ex
  rw [hx, hmg] at h1
  cases h1
  refine ⟨dt, fun s u => .of_eq ?_, fun base _ _ => ?_⟩
  · have := h4 [u] (by rw [hp]; rfl)
    rw [hp] at this
    exact this
  · obtain ⟨f, dt', g1, g2, g3⟩ := law_ok (P := l) (base := base) M hf hp hk hL
    have e1 : f = fa := by
      have := g1.symm.trans hmg
      cases this
      rfl
    subst e1
    have e2 : dt' = dt := by
      obtain ⟨oc, od, osl, q1⟩ := g2
      obtain ⟨oc', od', osl', q2⟩ := fun_look h2
      rw [q1] at q2
      cases q2
      rfl
    subst e2
    exact g3
theorem cx_no {P : Program} {w : World} {H : Hp} {s : Shared} {e : Value} {s' : Shared} (q : L2.CX P w [] H s (fun _ _ _ => False) e s') : False := by
  obtain ⟨_, _, _, _, _, _, _, _, _, _, _, _, z⟩ := q
  exact z.elim
/-- a tuple of texts -/
def isStrV (x : Str) : Value → Bool
  | .str y _ => x == y
  | _ => false
def tupStrs (o : Obj) (xs : List Str) : Bool := (match o.cls with | .type t => t == "tuple" | _ => false) && (match o.data with
  | .seq its _ => decide (its.size = xs.length) && decide (xs.length ≤ 16777216) && (xs.zip its.toList).all (fun p => isStrV p.1 p.2)
  | _ => false)
theorem vals_strs : ∀ (xs : List Str) (us : List Value), us.length = xs.length → (xs.zip us).all (fun p => isStrV p.1 p.2) = true → Vals (xs.map V.str) us
  | [], [], _, _ => .nil
  | x :: xs, u :: us, hl, h => by
    simp only [List.zip_cons_cons, List.all_cons, Bool.and_eq_true] at h
    refine .cons ?_ (vals_strs xs us (by simpa using hl) h.2)
    cases u <;> simp [isStrV] at h
    rename_i y t
    rw [h.1]
    exact ⟨t, rfl⟩
theorem rs_strs {H : Hp} {W : WS} : ∀ (xs : List Str), Rs (K, w) H W (xs.map PyData.str) (xs.map V.str)
  | [] => by simp [Rs]
  | x :: xs => by simp only [List.map_cons, Rs, R]; exact ⟨_, _, rfl, rfl, rs_strs xs⟩
theorem tupStrs_ok {p : Addr} {o : Obj} {xs : List Str} (l : K.lookup p = some o) (h : tupStrs o xs = true) : R (K, w) (fun _ => none) (fun _ => False) (.tuple (xs.map PyData.str)) (.ref p) := by
  unfold tupStrs at h
  rw [Bool.and_eq_true] at h
  obtain ⟨h1, h2⟩ := h
  split at h1
  · rename_i t e1
    split at h2
    · rename_i its n e2
      simp only [Bool.and_eq_true, decide_eq_true_eq] at h2
      simp only [R]
      refine ⟨p, xs.map V.str, rfl, .inr ⟨o, its, n, l, by rw [e1]; simpa using h1, e2, by rw [h2.1.1]; exact h2.1.2, vals_strs _ _ (by simpa using h2.1.1) h2.2⟩, rs_strs xs⟩
    · cases h2
  · cases h1
end
end DI
set_option Elab.async false
set_option linter.all false
set_option maxRecDepth 100000
set_option maxHeartbeats 4000000
/-! plain facts about the small language -/
namespace DI
open PySem PySem.Spec PyProof.Rows L2
def isS : D → Bool
  | .str _ => true
  | _ => false
def isT : D → Bool
  | .tuple _ => true
  | _ => false
def isL : D → Bool
  | .list _ => true
  | _ => false
def isB : D → Bool
  | .bool _ => true
  | _ => false
def isI : D → Bool
  | .int _ => true
  | _ => false
def isDc : D → Bool
  | .dict _ => true
  | _ => false
theorem isi_str (d : D) : isiD d "str" = some (.bool (isS d)) := by cases d <;> rfl
theorem isi_tuple (d : D) : isiD d "tuple" = some (.bool (isT d)) := by cases d <;> rfl
theorem isi_list (d : D) : isiD d "list" = some (.bool (isL d)) := by cases d <;> rfl
theorem isi_bool (d : D) : isiD d "bool" = some (.bool (isB d)) := by cases d <;> rfl
theorem isi_int (d : D) : isiD d "int" = some (.bool (isI d || isB d)) := by cases d <;> rfl
theorem isi_dict (d : D) : isiD d "dict" = some (.bool (isDc d)) := by cases d <;> rfl
theorem atI_mod {α : Type} (xs : List α) {n : Int} (i : Int) (h : n = xs.length) (h0 : 0 < n) : ∃ d, atI xs (i % n) = some d ∧ d ∈ xs := by
  have h1 : 0 ≤ i % n := Int.emod_nonneg _ (by omega)
  have h2 : i % n < n := Int.emod_lt_of_pos _ h0
  have h3 : (i % n).toNat < xs.length := by omega
  refine ⟨xs[(i % n).toNat], ?_, List.getElem_mem _⟩
  unfold atI ixN
  rw [if_pos h1, if_pos (by omega)]
  simp [List.getElem?_eq_getElem h3]
theorem atI_in {α : Type} (xs : List α) {i : Int} (h0 : 0 ≤ i) (h1 : i < xs.length) : ∃ d, atI xs i = some d ∧ d ∈ xs := by
  have h3 : i.toNat < xs.length := by omega
  refine ⟨xs[i.toNat], ?_, List.getElem_mem _⟩
  unfold atI ixN
  rw [if_pos h0, if_pos (by omega)]
  simp [List.getElem?_eq_getElem h3]
theorem bin_mod (i j : Int) (h : 0 < j) : binD .Mod (.int i) (.int j) = some (.int (i % j)) := by simp [binD, guardP, h]
theorem bin_fdiv (i j : Int) (h : 0 < j) (h2 : j.natAbs.log2 < 9000) : binD .FloorDiv (.int i) (.int j) = some (.int (i / j)) := by simp [binD, guardP, h, h2]
theorem forS_inv {set : D → Rho → Option Rho} {f : Rho → SO} (P : Nat → Rho → Prop) : ∀ (ds : List D) (n : Nat) (ρ : Rho), P n ρ → (∀ i d ρ, ds[i]? = some d → P (n + i) ρ → ∃ ρ1 ρ2, set d ρ = some ρ1 ∧ (f ρ1 = .next ρ2 ∨ f ρ1 = .cont ρ2) ∧ P (n + i + 1) ρ2) →
    ∃ ρ', forS set f ds ρ = .next ρ' ∧ P (n + ds.length) ρ'
  | [], n, ρ, h0, hs => ⟨ρ, rfl, h0⟩
  | d :: ds, n, ρ, h0, hs => by
    obtain ⟨ρ1, ρ2, e1, e2, h1⟩ := hs 0 d ρ rfl h0
    obtain ⟨ρ', e3, h3⟩ := forS_inv P ds (n + 1) ρ2 h1 fun i d' ρ e h => by
      have := hs (i + 1) d' ρ (by simpa using e) (by rw [show n + (i + 1) = n + 1 + i by omega]; exact h)
      rw [show n + (i + 1) + 1 = n + 1 + i + 1 by omega] at this
      exact this
    refine ⟨ρ', ?_, by rw [List.length_cons, show n + (ds.length + 1) = n + 1 + ds.length by omega]; exact h3⟩
    simp only [forS, e1]
    rcases e2 with e2 | e2 <;> rw [e2] <;> exact e3
theorem forS_inv0 {set : D → Rho → Option Rho} {f : Rho → SO} (P : Nat → Rho → Prop) {ds : List D} {ρ : Rho} (h0 : P 0 ρ) (hs : ∀ i d ρ, ds[i]? = some d → P i ρ → ∃ ρ1 ρ2, set d ρ = some ρ1 ∧ (f ρ1 = .next ρ2 ∨ f ρ1 = .cont ρ2) ∧ P (i + 1) ρ2) :
    ∃ ρ', forS set f ds ρ = .next ρ' ∧ P ds.length ρ' := by
  obtain ⟨ρ', h1, h2⟩ := forS_inv P ds 0 ρ h0 fun i d ρ e h => by
    rw [Nat.zero_add] at h ⊢
    exact hs i d ρ e h
  exact ⟨ρ', h1, by rwa [Nat.zero_add] at h2⟩
/-- a loop that ends at the first item that fails a test -/
theorem forS_all {set : D → Rho → Option Rho} {f : Rho → SO} (p : D → Bool) (P : Rho → Prop) (o : SO) (ho : ∀ ρ, o ≠ .next ρ ∧ o ≠ .cont ρ ∧ o ≠ .brk ρ) : ∀ (ds : List D) (ρ : Rho), P ρ → (∀ d ∈ ds, ∀ ρ, P ρ → ∃ ρ1, set d ρ = some ρ1 ∧ (if p d = true then ∃ ρ2, f ρ1 = .next ρ2 ∧ P ρ2 else f ρ1 = o)) →
    (ds.all p = true → ∃ ρ', forS set f ds ρ = .next ρ' ∧ P ρ') ∧ (ds.all p = false → forS set f ds ρ = o)
  | [], ρ, h0, hs => ⟨fun _ => ⟨ρ, rfl, h0⟩, fun h => Bool.noConfusion h⟩
  | d :: ds, ρ, h0, hs => by
    obtain ⟨ρ1, e1, e2⟩ := hs d List.mem_cons_self ρ h0
    simp only [forS, e1, List.all_cons]
    cases hp : p d with
    | true =>
      rw [hp, if_pos rfl] at e2
      obtain ⟨ρ2, e2, h2⟩ := e2
      rw [e2, Bool.true_and]
      exact forS_all p P o ho ds ρ2 h2 fun d hd => hs d (List.mem_cons_of_mem _ hd)
    | false =>
      rw [hp, if_neg Bool.false_ne_true] at e2
      rw [e2, Bool.false_and]
      refine ⟨fun h => Bool.noConfusion h, fun _ => ?_⟩
      cases o with
      | next ρ => exact absurd rfl (ho ρ).1
      | cont ρ => exact absurd rfl (ho ρ).2.1
      | brk ρ => exact absurd rfl (ho ρ).2.2
      | ret d ρ => rfl
      | exc c p ρ => rfl
      | bad => rfl
/-- one item of a comprehension, from the slots where its own names are nothing -/
def lcB (cf : Str → List D → CR) (tg : List Nat) (isT : Bool) (ifs : CO) (elt : CE) (ρ : Rho) (d : D) (ρw : Rho) : EO (Option D) := (eob (setTg tg isT d ρw) ρ).bind fun ρ' _ => (evalT cf ifs ρ').bind fun k ρ' => if k = true then (evalE cf false elt ρ').bind fun x ρ' => .ok (some x) ρ' else .ok none ρ'
def lcOne (cf : Str → List D → CR) (own tg : List Nat) (isT : Bool) (ifs : CO) (elt : CE) (d : D) (ρ : Rho) : EO (Option D) := if (own.all (notOw ρ)) = true then lcB cf tg isT ifs elt ρ d (wipeR ρ own) else .bad
theorem wipe_back {ρ1 ρ2 : Rho} {own : List Nat} (h : wipeR ρ2 own = wipeR ρ1 own) : backR ρ1 ρ2 own = ρ1 := by
  have hl : ρ1.length = ρ2.length := by rw [← wipeR_len ρ1 own, ← h, wipeR_len]
  apply List.ext_getElem?
  intro i
  rw [backR_get hl]
  by_cases hi : i ∈ own
  · rw [if_pos hi]
  · rw [if_neg hi]
    have := congrArg (fun l => l[i]?) h
    simp only [wipeR_get, if_neg hi] at this
    exact this
/-- the slots stay, but for the own names -/
theorem lcLoop_st {cf : Str → List D → CR} {own tg : List Nat} {isT : Bool} {ifs : CO} {elt : CE} {ρ1 : Rho} {g : D → Option D} : ∀ (ds : List D) (ρ : Rho), wipeR ρ own = wipeR ρ1 own → (own.all (notOw ρ)) = true →
    (∀ d ∈ ds, ∀ ρ0, ∃ ρ', lcB cf tg isT ifs elt ρ0 d (wipeR ρ1 own) = .ok (g d) ρ' ∧ wipeR ρ' own = wipeR ρ1 own ∧ (own.all (notOw ρ')) = true) → ∃ ρ2, lcLoop (lcOne cf own tg isT ifs elt) ds ρ = .ok (ds.filterMap g) ρ2 ∧ wipeR ρ2 own = wipeR ρ1 own ∧ (own.all (notOw ρ2)) = true
  | [], ρ, h1, h2, h => ⟨ρ, rfl, h1, h2⟩
  | d :: ds, ρ, h1, h2, h => by
    obtain ⟨ρ', e1, e2, e3⟩ := h d List.mem_cons_self ρ
    obtain ⟨ρ2, f1, f2, f3⟩ := lcLoop_st ds ρ' e2 e3 fun d hd => h d (List.mem_cons_of_mem _ hd)
    refine ⟨ρ2, ?_, f2, f3⟩
    have e0 : lcOne cf own tg isT ifs elt d ρ = .ok (g d) ρ' := by
      unfold lcOne
      rw [if_pos h2, h1, e1]
    simp only [lcLoop, e0, List.filterMap_cons]
    cases g d with
    | none => exact f1
    | some x =>
      dsimp only
      rw [f1]
      rfl
theorem str_len (x y : Str) : (x ++ y).length = x.length + y.length := by
  show (x.cps ++ y.cps).size = _
  simp [Str.length]
/-! the small language worked step by step: what is to come is left alone -/
theorem asB_bool (b : Bool) : asB (.bool b) = some b := Eq.trans rfl rfl
theorem asI_int (b : Int) : asI (.int b) = some b := Eq.trans rfl rfl
theorem guard_tt {α : Type} (o : Option α) : guardP true o = o := Eq.trans rfl rfl
theorem guard_ff {α : Type} (o : Option α) : guardP false o = none := Eq.trans rfl rfl
theorem lenL (xs : List D) : biD "len" [.list xs] = some (.int xs.length) := Eq.trans rfl rfl
theorem lenT (xs : List D) : biD "len" [.tuple xs] = some (.int xs.length) := Eq.trans rfl rfl
theorem lenS (x : Str) : biD "len" [.str x] = guardP (szOk x.length) (some (.int x.length)) := Eq.trans rfl rfl
theorem eqv_int (i j : Int) : PyData.eqv (.int i) (.int j) = decide (i = j) := by simp [PyData.eqv]; rfl
theorem eqv_bool (i j : Bool) : PyData.eqv (.bool i) (.bool j) = (i == j) := Eq.trans rfl rfl
theorem eqv_str (i j : Str) : PyData.eqv (.str i) (.str j) = (i == j) := Eq.trans rfl rfl
theorem shp_int (i : Int) : shp (.int i) = true := Eq.trans rfl rfl
theorem shp_str (i : Str) : shp (.str i) = true := Eq.trans rfl rfl
theorem shp_bool (i : Bool) : shp (.bool i) = true := Eq.trans rfl rfl
theorem shp_none : shp .none = true := Eq.trans rfl rfl
theorem cmp_eq_int (i j : Int) : cmpD .Eq (.int i) (.int j) = some (decide (i = j)) := by simp only [cmpD, eqD, shp_int, Bool.and_self, guard_tt, eqv_int, Option.map_some]
theorem cmp_ne_int (i j : Int) : cmpD .NotEq (.int i) (.int j) = some (!decide (i = j)) := by simp only [cmpD, eqD, shp_int, Bool.and_self, guard_tt, eqv_int, Option.map_some]
theorem cmp_eq_bool (i j : Bool) : cmpD .Eq (.bool i) (.bool j) = some (i == j) := Eq.trans rfl rfl
theorem cmp_ne_bool (i j : Bool) : cmpD .NotEq (.bool i) (.bool j) = some (!(i == j)) := Eq.trans rfl rfl
theorem cmp_eq_str (i j : Str) : cmpD .Eq (.str i) (.str j) = some (i == j) := Eq.trans rfl rfl
theorem cmp_ne_str (i j : Str) : cmpD .NotEq (.str i) (.str j) = some (!(i == j)) := Eq.trans rfl rfl
theorem cmp_lt_int (i j : Int) : cmpD .Lt (.int i) (.int j) = some (decide (i < j)) := Eq.trans rfl rfl
theorem cmp_gt_int (i j : Int) : cmpD .Gt (.int i) (.int j) = some (decide (j < i)) := Eq.trans rfl rfl
theorem cmp_le_int (i j : Int) : cmpD .LtE (.int i) (.int j) = some (decide (i ≤ j)) := Eq.trans rfl rfl
theorem cmp_ge_int (i j : Int) : cmpD .GtE (.int i) (.int j) = some (decide (j ≤ i)) := Eq.trans rfl rfl
theorem cmp_le_str (i j : Str) : cmpD .LtE (.str i) (.str j) = some (!decide (j.cps.toList < i.cps.toList)) := Eq.trans rfl rfl
theorem cmp_ge_str (i j : Str) : cmpD .GtE (.str i) (.str j) = some (!decide (i.cps.toList < j.cps.toList)) := Eq.trans rfl rfl
theorem cmp_gt_str (i j : Str) : cmpD .Gt (.str i) (.str j) = some (decide (j.cps.toList < i.cps.toList)) := Eq.trans rfl rfl
theorem cmp_lt_str (i j : Str) : cmpD .Lt (.str i) (.str j) = some (decide (i.cps.toList < j.cps.toList)) := Eq.trans rfl rfl
theorem cmp_in (x y : D) : cmpD .In x y = inD x y := Eq.trans rfl rfl
theorem cmp_nin (x y : D) : cmpD .NotIn x y = (inD x y).map (!·) := Eq.trans rfl rfl
theorem cmp_is (x y : D) : cmpD .Is x y = isD x y := Eq.trans rfl rfl
theorem cmp_isn (x y : D) : cmpD .IsNot x y = (isD x y).map (!·) := Eq.trans rfl rfl
theorem isD_bool (a b : Bool) : isD (.bool a) (.bool b) = some (a == b) := Eq.trans rfl rfl
theorem isD_none (x : D) : isD x .none = some (isNonD x) := by cases x <;> rfl
theorem bin_add (i j : Int) : binD .Add (.int i) (.int j) = some (.int (i + j)) := Eq.trans rfl rfl
theorem bin_sub (i j : Int) : binD .Sub (.int i) (.int j) = some (.int (i - j)) := Eq.trans rfl rfl
theorem bin_adds (i j : Str) : binD .Add (.str i) (.str j) = guardP (szOk (i.length + j.length)) (some (.str (i ++ j))) := Eq.trans rfl rfl
theorem bin_addl (i j : List D) : binD .Add (.list i) (.list j) = guardP (szOk (i.length + j.length)) (some (.list (i ++ j))) := Eq.trans rfl rfl
theorem bin_addt (i j : List D) : binD .Add (.tuple i) (.tuple j) = guardP (szOk (i.length + j.length)) (some (.tuple (i ++ j))) := Eq.trans rfl rfl
theorem ix_list (xs : List D) (i : Int) : ixD (.list xs) (.int i) = atI xs i := Eq.trans rfl rfl
theorem ix_tup (xs : List D) (i : Int) : ixD (.tuple xs) (.int i) = atI xs i := Eq.trans rfl rfl
theorem ix_str (z : Str) (i : Int) : ixD (.str z) (.int i) = guardP (szOk z.length) ((atI z.cps.toList i).map fun c => .str ⟨#[c]⟩) := Eq.trans rfl rfl
theorem items_list (xs : List D) : itemsD (.list xs) = some xs := Eq.trans rfl rfl
theorem items_tup (xs : List D) : itemsD (.tuple xs) = some xs := Eq.trans rfl rfl
theorem items_str (x : Str) : itemsD (.str x) = some (x.cps.toList.map fun c => .str ⟨#[c]⟩) := Eq.trans rfl rfl
theorem notOw_sh (d : D) (ρ : Rho) : notOw (.sh d :: ρ) 0 = true := Eq.trans rfl rfl
theorem notOw_un (ρ : Rho) : notOw (.un :: ρ) 0 = true := Eq.trans rfl rfl
theorem notOw_succ (s : Sl) (ρ : Rho) (i : Nat) : notOw (s :: ρ) (i + 1) = notOw ρ i := by unfold notOw; rw [List.getElem?_cons_succ]
theorem b_beq_true (b : Bool) : (b == true) = b := by cases b <;> rfl
theorem b_beq_false (b : Bool) : (b == false) = !b := by cases b <;> rfl
theorem szl0 : szOk 0 = true := by decide
theorem szl1 : szOk 1 = true := by decide
theorem szl2 : szOk 2 = true := by decide
theorem szl3 : szOk 3 = true := by decide
theorem szl4 : szOk 4 = true := by decide
theorem szl5 : szOk 5 = true := by decide
theorem szl6 : szOk 6 = true := by decide
theorem szl7 : szOk 7 = true := by decide
theorem szl8 : szOk 8 = true := by decide
theorem szl9 : szOk 9 = true := by decide
theorem szl10 : szOk 10 = true := by decide
theorem szl11 : szOk 11 = true := by decide
theorem szl12 : szOk 12 = true := by decide
theorem szl13 : szOk 13 = true := by decide
theorem szl14 : szOk 14 = true := by decide
theorem szl15 : szOk 15 = true := by decide
theorem szl16 : szOk 16 = true := by decide
end DI
set_option Elab.async false
set_option linter.all false
set_option maxRecDepth 100000
set_option maxHeartbeats 4000000
/-! the small language worked step by step, from within -/
namespace DI
open PySem PySem.Spec PyProof.Rows L2
theorem eob_some {α : Type} (a : α) (ρ : Rho) : eob (some a) ρ = .ok a ρ := Eq.trans rfl rfl
theorem eob_none {α : Type} (ρ : Rho) : eob (none : Option α) ρ = .bad := Eq.trans rfl rfl
theorem nxO_some (ρ : Rho) : nxO (some ρ) = .next ρ := Eq.trans rfl rfl
/-! slots -/
theorem newS_int (i : Int) (b : Bool) : newS (.int i) b = .sh (.int i) := by cases b <;> rfl
theorem newS_str (i : Str) (b : Bool) : newS (.str i) b = .sh (.str i) := by cases b <;> rfl
theorem newS_bool (i : Bool) (b : Bool) : newS (.bool i) b = .sh (.bool i) := by cases b <;> rfl
theorem newS_none (b : Bool) : newS .none b = .sh .none := by cases b <;> rfl
theorem newS_tup (ds : List D) (b : Bool) : newS (.tuple ds) b = .sh (.tuple ds) := by cases b <;> rfl
theorem newS_lst (ds : List D) : newS (.list ds) true = .ow (.list ds) := Eq.trans rfl rfl
theorem newS_dic (ds : List (D × D)) : newS (.dict ds) true = .ow (.dict ds) := Eq.trans rfl rfl
theorem newS_ff (d : D) : newS d false = .sh d := Eq.trans rfl rfl
theorem newS_nb (d : D) (b : Bool) (h : isBox d = false) : newS d b = .sh d := by unfold newS; rw [h, Bool.and_false]; rfl
def kSS (o : Option Sl) (i : Nat) (sl : Sl) (ρ : Rho) : Option Rho := match o with
  | some (.io _) => none
  | some (.pk _) => none
  | some (.lk _) => none
  | some (.od _) => some ((killbo i ρ).set i sl)
  | _ => some (ρ.set i sl)
theorem setS_k (i : Nat) (sl : Sl) (ρ : Rho) : setS i sl ρ = kSS ρ[i]? i sl ρ := Eq.trans rfl rfl
theorem kSS_un (i : Nat) (sl : Sl) (ρ : Rho) : kSS (some .un) i sl ρ = some (ρ.set i sl) := Eq.trans rfl rfl
theorem kSS_sh (d : D) (i : Nat) (sl : Sl) (ρ : Rho) : kSS (some (.sh d)) i sl ρ = some (ρ.set i sl) := Eq.trans rfl rfl
theorem kSS_ow (d : D) (i : Nat) (sl : Sl) (ρ : Rho) : kSS (some (.ow d)) i sl ρ = some (ρ.set i sl) := Eq.trans rfl rfl
theorem kSS_bo (j : Nat) (d : D) (i : Nat) (sl : Sl) (ρ : Rho) : kSS (some (.bo j d)) i sl ρ = some (ρ.set i sl) := Eq.trans rfl rfl
/-- it may be given something else -/
def setB : Sl → Bool
  | .un | .sh _ | .ow _ => true
  | _ => false
theorem setB_sh (d : D) : setB (.sh d) = true := Eq.trans rfl rfl
theorem setB_un : setB .un = true := Eq.trans rfl rfl
theorem setB_ow (d : D) : setB (.ow d) = true := Eq.trans rfl rfl
theorem kSS_pl (l : Sl) (i : Nat) (sl : Sl) (ρ : Rho) (h : setB l = true) : kSS (some l) i sl ρ = some (ρ.set i sl) := by cases l <;> first | rfl | cases h
theorem setB_pl {l : Sl} (h : plainS l = true) : setB l = true := by cases l <;> first | rfl | cases h
theorem setTg_one (i : Nat) (d : D) (ρ : Rho) : setTg [i] false d ρ = setS i (.sh d) ρ := Eq.trans rfl rfl
theorem setTg_tup (tg : List Nat) (ds : List D) (ρ : Rho) (h : ds.length = tg.length) : setTg tg true (.tuple ds) ρ = setAll tg ds ρ := by
  unfold setTg
  simp only [if_true, h]
theorem setAll_nil (ρ : Rho) : setAll [] [] ρ = some ρ := Eq.trans rfl rfl
def kSA (is : List Nat) (ds : List D) (o : Option Rho) : Option Rho := o.bind (setAll is ds)
theorem setAll_cons (i : Nat) (is : List Nat) (d : D) (ds : List D) (ρ : Rho) : setAll (i :: is) (d :: ds) ρ = kSA is ds (setS i (.sh d) ρ) := Eq.trans rfl rfl
theorem kSA_some (is : List Nat) (ds : List D) (ρ : Rho) : kSA is ds (some ρ) = setAll is ds ρ := Eq.trans rfl rfl
def kLk (o : Option Sl) (pk : Bool) (i : Nat) (ρ : Rho) : EO D := match o with
  | some (.sh d) => .ok d ρ
  | some (.ow d) => if pk = true then .ok d ρ else .ok d (ρ.set i (.sh d))
  | some (.io d) => if pk = true then .ok d ρ else .bad
  | some (.lk d) => if pk = true then .ok d ρ else .bad
  | some (.pk d) => if (pk || !isBox d) = true then .ok d ρ else .bad
  | _ => look pk i ρ
theorem look_k (pk : Bool) (i : Nat) (ρ : Rho) : look pk i ρ = kLk ρ[i]? pk i ρ := by
  cases e : ρ[i]? with
  | none => rfl
  | some sl =>
    cases sl <;> first
      | rfl
      | (unfold look prep look0; simp only [e]; rfl)
theorem kLk_sh (pk : Bool) (d : D) (i : Nat) (ρ : Rho) : kLk (some (.sh d)) pk i ρ = .ok d ρ := Eq.trans rfl rfl
theorem kLk_owt (d : D) (i : Nat) (ρ : Rho) : kLk (some (.ow d)) true i ρ = .ok d ρ := Eq.trans rfl rfl
theorem kLk_owf (d : D) (i : Nat) (ρ : Rho) : kLk (some (.ow d)) false i ρ = .ok d (ρ.set i (.sh d)) := Eq.trans rfl rfl
theorem kLk_io (d : D) (i : Nat) (ρ : Rho) : kLk (some (.io d)) true i ρ = .ok d ρ := Eq.trans rfl rfl
theorem kLk_lk (d : D) (i : Nat) (ρ : Rho) : kLk (some (.lk d)) true i ρ = .ok d ρ := Eq.trans rfl rfl
theorem kLk_pkt (d : D) (i : Nat) (ρ : Rho) : kLk (some (.pk d)) true i ρ = .ok d ρ := Eq.trans rfl rfl
theorem kLk_pk_tup (ds : List D) (i : Nat) (ρ : Rho) : kLk (some (.pk (.tuple ds))) false i ρ = .ok (.tuple ds) ρ := Eq.trans rfl rfl
theorem kLk_pk_int (n : Int) (i : Nat) (ρ : Rho) : kLk (some (.pk (.int n))) false i ρ = .ok (.int n) ρ := Eq.trans rfl rfl
theorem kLk_pk_str (n : Str) (i : Nat) (ρ : Rho) : kLk (some (.pk (.str n))) false i ρ = .ok (.str n) ρ := Eq.trans rfl rfl
theorem notOw_0 (l : Sl) (ρ : Rho) : notOw (l :: ρ) 0 = plainS l := Eq.trans rfl rfl
theorem plainS_sh (d : D) : plainS (.sh d) = true := Eq.trans rfl rfl
theorem plainS_un : plainS .un = true := Eq.trans rfl rfl
theorem owL_ow (ds : List D) : owL (some (.ow (.list ds))) = some ds := Eq.trans rfl rfl
theorem owL_io (ds : List D) : owL (some (.io (.list ds))) = some ds := Eq.trans rfl rfl
theorem owD_ow (ds : List (D × D)) : owD (some (.ow (.dict ds))) = some ds := Eq.trans rfl rfl
theorem owD_io (ds : List (D × D)) : owD (some (.io (.dict ds))) = some ds := Eq.trans rfl rfl
theorem withD_ow (d e : D) : withD (some (.ow d)) e = .ow e := Eq.trans rfl rfl
theorem withD_io (d e : D) : withD (some (.io d)) e = .io e := Eq.trans rfl rfl
theorem slotD_ow (d : D) : slotD (some (.ow d)) = some d := Eq.trans rfl rfl
theorem slotD_io (d : D) : slotD (some (.io d)) = some d := Eq.trans rfl rfl
theorem slotP_sh (d : D) : slotP (some (.sh d)) = some d := Eq.trans rfl rfl
theorem slotP_ow (d : D) : slotP (some (.ow d)) = some d := Eq.trans rfl rfl
theorem slotP_io (d : D) : slotP (some (.io d)) = some d := Eq.trans rfl rfl
theorem slotP_pk (d : D) : slotP (some (.pk d)) = some d := Eq.trans rfl rfl
theorem slotP_lk (d : D) : slotP (some (.lk d)) = some d := Eq.trans rfl rfl
section
variable (cf : Str → List D → CR) (fr : Bool)
/-! statements -/
def kSeq (ss : CSs) (o : SO) : SO := o.bind (execs cf fr ss)
def kSet (i : Nat) (b : Bool) (o : EO D) : SO := o.toS fun d ρ1 => nxO (setS i (newS d b) ρ1)
def kSetT (tg : List Nat) (o : EO D) : SO := o.toS fun d ρ1 => nxO (setTg tg true d ρ1)
def kExp (o : EO D) : SO := o.toS fun d ρ1 => .next ρ1
def kApp (i : Nat) (o : EO D) : SO := o.toS fun d ρ1 => appV i d ρ1
def kApB (i : Nat) (o : EO D) : SO := o.toS fun d ρ1 => appB i d ρ1
def kApD (i : Nat) (e : CE) (ρ : Rho) (b : Bool) : SO := if b = true then kApB i (evalE cf false e ρ) else .bad
def kApC (i : Nat) (e : CE) (ρ : Rho) (b : Bool) : SO := if b = true then kApp i (evalE cf false e ρ) else kApD cf i e ρ (boL i ρ).isSome
def kExt (i : Nat) (o : EO D) : SO := o.toS fun d ρ1 => match asSL d with
  | some es => extV i es ρ1
  | none => .bad
def kExC (i : Nat) (e : CE) (ρ : Rho) (b : Bool) : SO := if b = true then kExt i (evalE cf true e ρ) else .bad
def kRet (o : EO D) : SO := o.toS fun d ρ1 => .ret d ρ1
def kRf (b : Bool) (o : EO D) : SO := o.toS fun d ρ1 => if (isBox d && !b) = true then .bad else .ret d ρ1
def kIf (a b : CSs) (o : EO Bool) : SO := o.toS fun k ρ1 => if k = true then execs cf fr a ρ1 else execs cf fr b ρ1
def kFor (tg : List Nat) (isT : Bool) (b : CSs) (o : EO (List D)) : SO := o.toS fun ds ρ1 => forS (setTg tg isT) (execs cf fr b) ds ρ1
def kTst (o : EO D) : EO Bool := o.bind fun x ρ => eob (asB x) ρ
theorem execs_nil (ρ : Rho) : execs cf fr .nil ρ = .next ρ := Eq.trans rfl rfl
theorem execs_cons (s : CS) (ss : CSs) (ρ : Rho) : execs cf fr (.cons s ss) ρ = kSeq cf fr ss (exec cf fr s ρ) := Eq.trans rfl rfl
theorem kSeq_next (ss : CSs) (ρ : Rho) : kSeq cf fr ss (.next ρ) = execs cf fr ss ρ := Eq.trans rfl rfl
theorem kSeq_ret (ss : CSs) (d : D) (ρ : Rho) : kSeq cf fr ss (.ret d ρ) = .ret d ρ := Eq.trans rfl rfl
theorem kSeq_exc (ss : CSs) (c : Str) (p : List D) (ρ : Rho) : kSeq cf fr ss (.exc c p ρ) = .exc c p ρ := Eq.trans rfl rfl
theorem kSeq_brk (ss : CSs) (ρ : Rho) : kSeq cf fr ss (.brk ρ) = .brk ρ := Eq.trans rfl rfl
theorem kSeq_cont (ss : CSs) (ρ : Rho) : kSeq cf fr ss (.cont ρ) = .cont ρ := Eq.trans rfl rfl
theorem x_set (i : Nat) (e : CE) (ρ : Rho) : exec cf fr (.set i e) ρ = kSet i (freshE e) (evalE cf false e ρ) := Eq.trans rfl rfl
theorem kSet_ok (i : Nat) (b : Bool) (d : D) (ρ : Rho) : kSet i b (.ok d ρ) = nxO (setS i (newS d b) ρ) := Eq.trans rfl rfl
theorem kSet_exc (i : Nat) (b : Bool) (c : Str) (p : List D) (ρ : Rho) : kSet i b (.exc c p ρ) = .exc c p ρ := Eq.trans rfl rfl
theorem x_setT (tg : List Nat) (e : CE) (ρ : Rho) : exec cf fr (.setT tg e) ρ = kSetT tg (evalE cf false e ρ) := Eq.trans rfl rfl
theorem kSetT_ok (tg : List Nat) (d : D) (ρ : Rho) : kSetT tg (.ok d ρ) = nxO (setTg tg true d ρ) := Eq.trans rfl rfl
theorem kSetT_exc (tg : List Nat) (c : Str) (p : List D) (ρ : Rho) : kSetT tg (.exc c p ρ) = .exc c p ρ := Eq.trans rfl rfl
theorem x_exp (e : CE) (ρ : Rho) : exec cf fr (.exp e) ρ = kExp (evalE cf false e ρ) := Eq.trans rfl rfl
theorem kExp_ok (d : D) (ρ : Rho) : kExp (.ok d ρ) = .next ρ := Eq.trans rfl rfl
theorem kExp_exc (c : Str) (p : List D) (ρ : Rho) : kExp (.exc c p ρ) = .exc c p ρ := Eq.trans rfl rfl
theorem x_app (i : Nat) (e : CE) (ρ : Rho) : exec cf fr (.app i e) ρ = kApC cf i e ρ (owL ρ[i]?).isSome := Eq.trans rfl rfl
theorem kApC_ff (i : Nat) (e : CE) (ρ : Rho) : kApC cf i e ρ false = kApD cf i e ρ (boL i ρ).isSome := Eq.trans rfl rfl
theorem kApD_tt (i : Nat) (e : CE) (ρ : Rho) : kApD cf i e ρ true = kApB i (evalE cf false e ρ) := Eq.trans rfl rfl
theorem kApB_ok (i : Nat) (d : D) (ρ : Rho) : kApB i (.ok d ρ) = appB i d ρ := Eq.trans rfl rfl
theorem kApC_tt (i : Nat) (e : CE) (ρ : Rho) : kApC cf i e ρ true = kApp i (evalE cf false e ρ) := Eq.trans rfl rfl
def kAv (o : Option (List D)) (i : Nat) (d : D) (ρ : Rho) : SO := match o with
  | some ds => if ds.length < 16777216 then .next (ρ.set i (withD ρ[i]? (.list (ds ++ [d])))) else .bad
  | none => .bad
theorem kApp_ok (i : Nat) (d : D) (ρ : Rho) : kApp i (.ok d ρ) = kAv (owL ρ[i]?) i d ρ := Eq.trans rfl rfl
theorem kAv_ok (ds : List D) (i : Nat) (d : D) (ρ : Rho) (h : ds.length < 16777216) : kAv (some ds) i d ρ = .next (ρ.set i (withD ρ[i]? (.list (ds ++ [d])))) := by simp only [kAv, h, if_true]
theorem x_ext (i : Nat) (e : CE) (ρ : Rho) : exec cf fr (.ext i e) ρ = kExC cf i e ρ (owL ρ[i]?).isSome := Eq.trans rfl rfl
theorem kExC_tt (i : Nat) (e : CE) (ρ : Rho) : kExC cf i e ρ true = kExt i (evalE cf true e ρ) := Eq.trans rfl rfl
def kEv (o : Option (List D)) (i : Nat) (es : List D) (ρ : Rho) : SO := match o with
  | some ds => if ds.length + es.length ≤ 16777216 then .next (ρ.set i (withD ρ[i]? (.list (ds ++ es)))) else .bad
  | none => .bad
theorem kExt_ok (i : Nat) (es : List D) (ρ : Rho) : kExt i (.ok (.list es) ρ) = kEv (owL ρ[i]?) i es ρ := Eq.trans rfl rfl
theorem kExt_okt (i : Nat) (es : List D) (ρ : Rho) : kExt i (.ok (.tuple es) ρ) = kEv (owL ρ[i]?) i es ρ := Eq.trans rfl rfl
theorem kEv_ok (ds : List D) (i : Nat) (es : List D) (ρ : Rho) (h : ds.length + es.length ≤ 16777216) : kEv (some ds) i es ρ = .next (ρ.set i (withD ρ[i]? (.list (ds ++ es)))) := by simp only [kEv, h, if_true]
theorem isSome_some {α : Type} (a : α) : (some a).isSome = true := Eq.trans rfl rfl
theorem x_ret (e : CE) (ρ : Rho) : exec cf false (.ret e) ρ = kRet (evalE cf false e ρ) := Eq.trans rfl rfl
theorem kRet_ok (d : D) (ρ : Rho) : kRet (.ok d ρ) = .ret d ρ := Eq.trans rfl rfl
theorem kRet_exc (c : Str) (p : List D) (ρ : Rho) : kRet (.exc c p ρ) = .exc c p ρ := Eq.trans rfl rfl
def isVr : CE → Bool
  | .var _ => true
  | _ => false
theorem vr_cst (d : D) : isVr (.cst d) = false := Eq.trans rfl rfl
theorem fe_cst (d : D) : freshE (.cst d) = false := Eq.trans rfl rfl
theorem vr_gl (d : D) : isVr (.gl d) = false := Eq.trans rfl rfl
theorem fe_gl (d : D) : freshE (.gl d) = false := Eq.trans rfl rfl
theorem fe_var (i : Nat) : freshE (.var i) = false := Eq.trans rfl rfl
theorem vr_tup (es : CL) : isVr (.tup es) = false := Eq.trans rfl rfl
theorem fe_tup (es : CL) : freshE (.tup es) = false := Eq.trans rfl rfl
theorem vr_lst (es : CL) : isVr (.lst es) = false := Eq.trans rfl rfl
theorem fe_lst (es : CL) : freshE (.lst es) = true := Eq.trans rfl rfl
theorem vr_dic0  : isVr .dic0 = false := Eq.trans rfl rfl
theorem fe_dic0  : freshE .dic0 = true := Eq.trans rfl rfl
theorem vr_bin (op : Operator) (a b : CE) : isVr (.bin op a b) = false := Eq.trans rfl rfl
theorem fe_bin (op : Operator) (a b : CE) : freshE (.bin op a b) = true := Eq.trans rfl rfl
theorem vr_neg (a : CE) : isVr (.neg a) = false := Eq.trans rfl rfl
theorem fe_neg (a : CE) : freshE (.neg a) = false := Eq.trans rfl rfl
theorem vr_cmp (op : CmpOp) (a b : CE) : isVr (.cmp op a b) = false := Eq.trans rfl rfl
theorem fe_cmp (op : CmpOp) (a b : CE) : freshE (.cmp op a b) = false := Eq.trans rfl rfl
theorem vr_chn (o1 o2 : CmpOp) (a b c : CE) : isVr (.chn o1 o2 a b c) = false := Eq.trans rfl rfl
theorem fe_chn (o1 o2 : CmpOp) (a b c : CE) : freshE (.chn o1 o2 a b c) = false := Eq.trans rfl rfl
theorem vr_and_ (a b : CE) : isVr (.and_ a b) = false := Eq.trans rfl rfl
theorem fe_and_ (a b : CE) : freshE (.and_ a b) = false := Eq.trans rfl rfl
theorem vr_or_ (a b : CE) : isVr (.or_ a b) = false := Eq.trans rfl rfl
theorem fe_or_ (a b : CE) : freshE (.or_ a b) = false := Eq.trans rfl rfl
theorem vr_not_ (a : CE) : isVr (.not_ a) = false := Eq.trans rfl rfl
theorem fe_not_ (a : CE) : freshE (.not_ a) = false := Eq.trans rfl rfl
theorem vr_ife (c a b : CE) : isVr (.ife c a b) = false := Eq.trans rfl rfl
theorem fe_ife (c a b : CE) : freshE (.ife c a b) = false := Eq.trans rfl rfl
theorem vr_call (f : Str) (fr : Bool) (es : CL) : isVr (.call f fr es) = false := Eq.trans rfl rfl
theorem fe_call (f : Str) (fr : Bool) (es : CL) : freshE (.call f fr es) = fr := Eq.trans rfl rfl
theorem vr_callF (f : Str) (fr : Bool) (e : CE) (es : CL) : isVr (.callF f fr e es) = false := Eq.trans rfl rfl
theorem fe_callF (f : Str) (fr : Bool) (e : CE) (es : CL) : freshE (.callF f fr e es) = fr := Eq.trans rfl rfl
theorem vr_srt (f : Str) (e : CE) : isVr (.srt f e) = false := Eq.trans rfl rfl
theorem fe_srt (f : Str) (e : CE) : freshE (.srt f e) = true := Eq.trans rfl rfl
theorem vr_bi (f : String) (es : CL) : isVr (.bi f es) = false := Eq.trans rfl rfl
theorem fe_bi (f : String) (es : CL) : freshE (.bi f es) = true := Eq.trans rfl rfl
theorem vr_isi (a : CE) (t : String) : isVr (.isi a t) = false := Eq.trans rfl rfl
theorem fe_isi (a : CE) (t : String) : freshE (.isi a t) = false := Eq.trans rfl rfl
theorem vr_rev (a : CE) : isVr (.rev a) = false := Eq.trans rfl rfl
theorem fe_rev (a : CE) : freshE (.rev a) = true := Eq.trans rfl rfl
theorem vr_joi (a b : CE) : isVr (.joi a b) = false := Eq.trans rfl rfl
theorem fe_joi (a b : CE) : freshE (.joi a b) = false := Eq.trans rfl rfl
theorem vr_mget (a : CE) (es : CL) : isVr (.mget a es) = false := Eq.trans rfl rfl
theorem fe_mget (a : CE) (es : CL) : freshE (.mget a es) = false := Eq.trans rfl rfl
theorem vr_ix (a b : CE) : isVr (.ix a b) = false := Eq.trans rfl rfl
theorem fe_ix (a b : CE) : freshE (.ix a b) = false := Eq.trans rfl rfl
theorem vr_slc (a : CE) (lo hi : CO) : isVr (.slc a lo hi) = false := Eq.trans rfl rfl
theorem fe_slc (a : CE) (lo hi : CO) : freshE (.slc a lo hi) = true := Eq.trans rfl rfl
theorem vr_lc (own tg : List Nat) (isT : Bool) (it : CI) (ifs : CO) (elt : CE) : isVr (.lc own tg isT it ifs elt) = false := Eq.trans rfl rfl
theorem fe_lc (own tg : List Nat) (isT : Bool) (it : CI) (ifs : CO) (elt : CE) : freshE (.lc own tg isT it ifs elt) = true := Eq.trans rfl rfl
theorem vr_pop0 (i : Nat) : isVr (.pop0 i) = false := Eq.trans rfl rfl
theorem fe_pop0 (i : Nat) : freshE (.pop0 i) = false := Eq.trans rfl rfl
theorem vr_pop1 (i : Nat) (e : CE) : isVr (.pop1 i e) = false := Eq.trans rfl rfl
theorem fe_pop1 (i : Nat) (e : CE) : freshE (.pop1 i e) = false := Eq.trans rfl rfl
theorem vr_setd (i : Nat) (a b : CE) : isVr (.setd i a b) = false := Eq.trans rfl rfl
theorem fe_setd (i : Nat) (a b : CE) : freshE (.setd i a b) = false := Eq.trans rfl rfl
theorem x_retF (e : CE) (ρ : Rho) (h : isVr e = false) : exec cf true (.ret e) ρ = kRf (freshE e) (evalE cf false e ρ) := by
  cases e <;> first | rfl | cases h
theorem kRf_tt (d : D) (ρ : Rho) : kRf true (.ok d ρ) = .ret d ρ := by unfold kRf; simp
theorem kRf_int (b : Bool) (i : Int) (ρ : Rho) : kRf b (.ok (.int i) ρ) = .ret (.int i) ρ := Eq.trans rfl rfl
theorem kRf_bool (b : Bool) (i : Bool) (ρ : Rho) : kRf b (.ok (.bool i) ρ) = .ret (.bool i) ρ := Eq.trans rfl rfl
theorem kRf_none (b : Bool) (ρ : Rho) : kRf b (.ok .none ρ) = .ret .none ρ := Eq.trans rfl rfl
theorem kRf_tup (b : Bool) (ds : List D) (ρ : Rho) : kRf b (.ok (.tuple ds) ρ) = .ret (.tuple ds) ρ := Eq.trans rfl rfl
theorem kRf_str (b : Bool) (x : Str) (ρ : Rho) : kRf b (.ok (.str x) ρ) = .ret (.str x) ρ := Eq.trans rfl rfl
theorem kRf_exc (b : Bool) (c : Str) (p : List D) (ρ : Rho) : kRf b (.exc c p ρ) = .exc c p ρ := Eq.trans rfl rfl
/-- a name told -/
def kRv (o : Option Sl) (i : Nat) (ρ : Rho) : SO := match o with
  | some (.ow d) => .ret d ρ
  | some (.sh d) => if isBox d = true then .bad else .ret d ρ
  | some (.od _) => exec cf true (.ret (.var i)) ρ
  | some (.bo _ _) => exec cf true (.ret (.var i)) ρ
  | _ => .bad
theorem x_retV (i : Nat) (ρ : Rho) : exec cf true (.ret (.var i)) ρ = kRv cf ρ[i]? i ρ := by
  cases e : ρ[i]? with
  | none => simp only [exec, retV, prep, if_true, e, kRv]
  | some sl => cases sl <;> first | rfl | (simp only [exec, retV, prep, if_true, e, kRv]; done)
theorem kRv_ow (d : D) (i : Nat) (ρ : Rho) : kRv cf (some (.ow d)) i ρ = .ret d ρ := Eq.trans rfl rfl
theorem kRv_tup (ds : List D) (i : Nat) (ρ : Rho) : kRv cf (some (.sh (.tuple ds))) i ρ = .ret (.tuple ds) ρ := Eq.trans rfl rfl
theorem kRv_int (n : Int) (i : Nat) (ρ : Rho) : kRv cf (some (.sh (.int n))) i ρ = .ret (.int n) ρ := Eq.trans rfl rfl
theorem kRv_str (n : Str) (i : Nat) (ρ : Rho) : kRv cf (some (.sh (.str n))) i ρ = .ret (.str n) ρ := Eq.trans rfl rfl
theorem kRv_bool (n : Bool) (i : Nat) (ρ : Rho) : kRv cf (some (.sh (.bool n))) i ρ = .ret (.bool n) ρ := Eq.trans rfl rfl
theorem kRv_none (i : Nat) (ρ : Rho) : kRv cf (some (.sh .none)) i ρ = .ret .none ρ := Eq.trans rfl rfl
theorem x_retN (ρ : Rho) : exec cf fr .retN ρ = .ret .none ρ := Eq.trans rfl rfl
theorem x_iff (c : CE) (a b : CSs) (ρ : Rho) : exec cf fr (.iff c a b) ρ = kIf cf fr a b (kTst (evalE cf false c ρ)) := Eq.trans rfl rfl
theorem kTst_ok (b : Bool) (ρ : Rho) : kTst (.ok (.bool b) ρ) = .ok b ρ := Eq.trans rfl rfl
theorem kTst_exc (c : Str) (p : List D) (ρ : Rho) : kTst (.exc c p ρ) = .exc c p ρ := Eq.trans rfl rfl
theorem kIf_tt (a b : CSs) (ρ : Rho) : kIf cf fr a b (.ok true ρ) = execs cf fr a ρ := Eq.trans rfl rfl
theorem kIf_ff (a b : CSs) (ρ : Rho) : kIf cf fr a b (.ok false ρ) = execs cf fr b ρ := Eq.trans rfl rfl
theorem x_for (tg : List Nat) (isT : Bool) (it : CI) (b : CSs) (ρ : Rho) : exec cf fr (.for_ tg isT it b) ρ = kFor cf fr tg isT b (evalI cf false it ρ) := Eq.trans rfl rfl
theorem kFor_ok (tg : List Nat) (isT : Bool) (b : CSs) (ds : List D) (ρ : Rho) : kFor cf fr tg isT b (.ok ds ρ) = forS (setTg tg isT) (execs cf fr b) ds ρ := Eq.trans rfl rfl
/-! for x in name -/
def kFi (set : D → Rho → Option Rho) (f : Rho → SO) (ρ : Rho) (o : Option (List D)) : SO := match o with
  | some ds => forS set f ds ρ
  | none => .bad
def kFV (o : Option Sl) (set : D → Rho → Option Rho) (f : Rho → SO) (i : Nat) (ρ : Rho) : SO := match o with
  | some (.sh d) => kFi set f ρ (itemsD d)
  | some (.pk d) => kFi set f ρ (itemsD d)
  | some (.lk d) => kFi set f ρ (itemsD d)
  | some (.ow d) => (kFi set f (ρ.set i (.lk d)) (itemsD d)).unl i false
  | some (.io d) => (kFi set f (ρ.set i (.lk d)) (itemsD d)).unl i true
  | _ => forVS set f i (prep i ρ)
theorem x_forV (tg : List Nat) (isT : Bool) (i : Nat) (b : CSs) (ρ : Rho) : exec cf fr (.forV tg isT i b) ρ = kFV ρ[i]? (setTg tg isT) (execs cf fr b) i ρ := by
  simp only [exec]
  cases e : ρ[i]? with
  | none => rfl
  | some sl =>
    cases sl <;> first
      | rfl
      | (simp only [prep, e, forVS, kFV, kFi]; done)
      | (rename_i d; simp only [prep, e, forVS, kFV]; cases itemsD d <;> rfl)
theorem kFV_sh (d : D) (set : D → Rho → Option Rho) (f : Rho → SO) (i : Nat) (ρ : Rho) : kFV (some (.sh d)) set f i ρ = kFi set f ρ (itemsD d) := Eq.trans rfl rfl
theorem kFV_pk (d : D) (set : D → Rho → Option Rho) (f : Rho → SO) (i : Nat) (ρ : Rho) : kFV (some (.pk d)) set f i ρ = kFi set f ρ (itemsD d) := Eq.trans rfl rfl
theorem kFV_lk (d : D) (set : D → Rho → Option Rho) (f : Rho → SO) (i : Nat) (ρ : Rho) : kFV (some (.lk d)) set f i ρ = kFi set f ρ (itemsD d) := Eq.trans rfl rfl
theorem kFV_ow (d : D) (set : D → Rho → Option Rho) (f : Rho → SO) (i : Nat) (ρ : Rho) : kFV (some (.ow d)) set f i ρ = (kFi set f (ρ.set i (.lk d)) (itemsD d)).unl i false := Eq.trans rfl rfl
theorem kFV_io (d : D) (set : D → Rho → Option Rho) (f : Rho → SO) (i : Nat) (ρ : Rho) : kFV (some (.io d)) set f i ρ = (kFi set f (ρ.set i (.lk d)) (itemsD d)).unl i true := Eq.trans rfl rfl
theorem kFi_some (set : D → Rho → Option Rho) (f : Rho → SO) (ρ : Rho) (ds : List D) : kFi set f ρ (some ds) = forS set f ds ρ := Eq.trans rfl rfl
def kUl (o : Option Sl) (i : Nat) (b : Bool) (ρ : Rho) : Rho := match o with
  | some (.lk d) => ρ.set i (if b = true then .io d else .ow d)
  | _ => ρ
theorem unlk_k (i : Nat) (b : Bool) (ρ : Rho) : unlk i b ρ = kUl ρ[i]? i b ρ := Eq.trans rfl rfl
theorem kUl_ow (d : D) (i : Nat) (ρ : Rho) : kUl (some (.lk d)) i false ρ = ρ.set i (.ow d) := Eq.trans rfl rfl
theorem kUl_io (d : D) (i : Nat) (ρ : Rho) : kUl (some (.lk d)) i true ρ = ρ.set i (.io d) := Eq.trans rfl rfl
theorem unl_next (i : Nat) (b : Bool) (ρ : Rho) : SO.unl i b (.next ρ) = .next (unlk i b ρ) := Eq.trans rfl rfl
theorem unl_ret (i : Nat) (b : Bool) (d : D) (ρ : Rho) : SO.unl i b (.ret d ρ) = .ret d (unlk i b ρ) := Eq.trans rfl rfl
theorem unl_exc (i : Nat) (b : Bool) (c : Str) (p : List D) (ρ : Rho) : SO.unl i b (.exc c p ρ) = .exc c p (unlk i b ρ) := Eq.trans rfl rfl
theorem x_pass (ρ : Rho) : exec cf fr .pass ρ = .next ρ := Eq.trans rfl rfl
theorem x_brk (ρ : Rho) : exec cf fr .brk ρ = .brk ρ := Eq.trans rfl rfl
theorem x_cont (ρ : Rho) : exec cf fr .cont ρ = .cont ρ := Eq.trans rfl rfl
theorem x_whl (n : Nat) (c : CE) (b : CSs) (ρ : Rho) : exec cf fr (.whl n c b) ρ = whS (fun ρ => kTst (evalE cf false c ρ)) (execs cf fr b) n ρ := Eq.trans rfl rfl
def kPar1 (i j : Nat) (b : CE) (o : EO D) : SO := o.toS fun d ρ1 => (evalE cf false b ρ1).toS fun d' ρ2 => nxO ((setS i (.sh d) ρ2).bind (setS j (.sh d')))
def kPar2 (i j : Nat) (d : D) (o : EO D) : SO := o.toS fun d' ρ2 => nxO ((setS i (.sh d) ρ2).bind (setS j (.sh d')))
def kPar3 (j : Nat) (d' : D) (o : Option Rho) : SO := nxO (o.bind (setS j (.sh d')))
theorem x_par (i j : Nat) (a b : CE) (ρ : Rho) : exec cf fr (.par i j a b) ρ = kPar1 cf i j b (evalE cf false a ρ) := Eq.trans rfl rfl
theorem kPar1_ok (i j : Nat) (b : CE) (d : D) (ρ : Rho) : kPar1 cf i j b (.ok d ρ) = kPar2 i j d (evalE cf false b ρ) := Eq.trans rfl rfl
theorem kPar2_ok (i j : Nat) (d d' : D) (ρ : Rho) : kPar2 i j d (.ok d' ρ) = kPar3 j d' (setS i (.sh d) ρ) := Eq.trans rfl rfl
theorem kPar3_ok (j : Nat) (d' : D) (ρ : Rho) : kPar3 j d' (some ρ) = nxO (setS j (.sh d') ρ) := Eq.trans rfl rfl
def kPut1 (i : Nat) (b : CE) (o : EO D) : SO := o.toS fun d ρ1 => if (owD ρ1[i]?).isSome = true then (evalE cf false b ρ1).toS fun kd ρ2 => putDV i kd d ρ2 else if (owL ρ1[i]?).isSome = true then (evalE cf false b ρ1).toS fun kd ρ2 => setLV i kd d ρ2 else .bad
def kPutM (i : Nat) (d : D) (o : EO D) : SO := o.toS fun kd ρ2 => setLV i kd d ρ2
def kPutL (i : Nat) (b : CE) (d : D) (ρ : Rho) (c : Bool) : SO := if c = true then kPutM i d (evalE cf false b ρ) else .bad
def kPutC (i : Nat) (b : CE) (d : D) (ρ : Rho) (c : Bool) : SO := if c = true then (evalE cf false b ρ).toS fun kd ρ2 => putDV i kd d ρ2 else kPutL cf i b d ρ (owL ρ[i]?).isSome
def kSl (o : Option (List D)) (i : Nat) (j : Int) (d : D) (ρ : Rho) : SO := match o with
  | some ds => (match ixN ds.length j with
      | some n => .next (ρ.set i (withD ρ[i]? (.list (ds.set n d))))
      | none => .bad)
  | none => .bad
theorem kPutC_ff (i : Nat) (b : CE) (d : D) (ρ : Rho) : kPutC cf i b d ρ false = kPutL cf i b d ρ (owL ρ[i]?).isSome := Eq.trans rfl rfl
theorem kPutL_tt (i : Nat) (b : CE) (d : D) (ρ : Rho) : kPutL cf i b d ρ true = kPutM i d (evalE cf false b ρ) := Eq.trans rfl rfl
theorem kPutM_ok (i : Nat) (d : D) (j : Int) (ρ : Rho) : kPutM i d (.ok (.int j) ρ) = kSl (owL ρ[i]?) i j d ρ := Eq.trans rfl rfl
theorem kSl_ok (ds : List D) (i : Nat) (j : Int) (n : Nat) (d : D) (ρ : Rho) (h : ixN ds.length j = some n) : kSl (some ds) i j d ρ = .next (ρ.set i (withD ρ[i]? (.list (ds.set n d)))) := by simp only [kSl, h]
theorem owD_owl (ds : List D) : owD (some (.ow (.list ds))) = none := Eq.trans rfl rfl
theorem owD_iol (ds : List D) : owD (some (.io (.list ds))) = none := Eq.trans rfl rfl
def kPut2 (i : Nat) (d : D) (o : EO D) : SO := o.toS fun kd ρ2 => putDV i kd d ρ2
def kPv (o : Option (List (D × D))) (i : Nat) (kd d : D) (ρ : Rho) : SO := match o with
  | some kvs => if (keyFit kvs kd && dOk (putN kvs kd d)) = true then .next (ρ.set i (withD ρ[i]? (.dict (putN kvs kd d)))) else .bad
  | none => .bad
theorem x_put (i : Nat) (a b : CE) (ρ : Rho) : exec cf fr (.put i a b) ρ = kPut1 cf i b (evalE cf false a ρ) := Eq.trans rfl rfl
theorem kPut1_ok (i : Nat) (b : CE) (d : D) (ρ : Rho) : kPut1 cf i b (.ok d ρ) = kPutC cf i b d ρ (owD ρ[i]?).isSome := Eq.trans rfl rfl
theorem kPutC_tt (i : Nat) (b : CE) (d : D) (ρ : Rho) : kPutC cf i b d ρ true = kPut2 i d (evalE cf false b ρ) := Eq.trans rfl rfl
theorem kPut2_ok (i : Nat) (d kd : D) (ρ : Rho) : kPut2 i d (.ok kd ρ) = kPv (owD ρ[i]?) i kd d ρ := Eq.trans rfl rfl
theorem kPv_ok (kvs : List (D × D)) (i : Nat) (kd d : D) (ρ : Rho) (h1 : keyFit kvs kd = true) (h2 : dOk (putN kvs kd d) = true) : kPv (some kvs) i kd d ρ = .next (ρ.set i (withD ρ[i]? (.dict (putN kvs kd d)))) := by simp only [kPv, h1, h2, Bool.and_self, if_true]
/-! owned dicts of owned ones -/
theorem boOf_bo (j : Nat) (k : D) : boOf (some (.bo j k)) = some (j, k) := Eq.trans rfl rfl
theorem odOf_od (kvs : List (D × D)) : odOf (some (.od kvs)) = some kvs := Eq.trans rfl rfl
theorem lsOf_l (ds : List D) : lsOf (some (.list ds)) = some ds := Eq.trans rfl rfl
theorem dcOf_d (ds : List (D × D)) : dcOf (some (.dict ds)) = some ds := Eq.trans rfl rfl
theorem shOf_sh (d : D) : shOf (some (.sh d)) = some d := Eq.trans rfl rfl
theorem deepOf_od (kvs : List (D × D)) : deepOf (some (.od kvs)) = some kvs := Eq.trans rfl rfl
theorem deepOf_0 : deepOf (some (.ow (.dict []))) = some [] := Eq.trans rfl rfl
theorem owL_bo (j : Nat) (k : D) : owL (some (.bo j k)) = none := Eq.trans rfl rfl
theorem isSome_none {α : Type} : (none : Option α).isSome = false := Eq.trans rfl rfl
theorem emptyB_t : emptyB true = .list [] := Eq.trans rfl rfl
theorem emptyB_f : emptyB false = .dict [] := Eq.trans rfl rfl
theorem boL_ok {i j : Nat} {k : D} {kvs : List (D × D)} {ds : List D} {ρ : Rho} (h1 : ρ[i]? = some (.bo j k)) (h2 : ρ[j]? = some (.od kvs)) (h3 : getN kvs (nkOf k) = some (.list ds)) : boL i ρ = some ds := by
  unfold boL
  rw [h1, boOf_bo]
  simp only [Option.bind_some]
  rw [h2, odOf_od]
  simp only [Option.bind_some]
  rw [h3]
  rfl
theorem appB_ok {i j : Nat} {k d : D} {kvs : List (D × D)} {ds : List D} {ρ : Rho} (h1 : ρ[i]? = some (.bo j k)) (h2 : ρ[j]? = some (.od kvs)) (h3 : getN kvs (nkOf k) = some (.list ds)) (hl : ds.length < 16777216) : appB i d ρ = .next (ρ.set j (.od (putN kvs k (.list (ds ++ [d]))))) := by
  unfold appB
  rw [h1, boOf_bo]
  dsimp only
  rw [h2, odOf_od]
  dsimp only
  rw [h3, lsOf_l]
  dsimp only
  rw [if_pos hl]
def kDv (j : Nat) (isL : Bool) (kd : D) (ρ : Rho) (o : Option (List (D × D))) : Option Rho := match o with
  | some kvs => if keyFit kvs kd = true then (match getN kvs (nkOf kd) with
      | some d => if boxIs isL d = true then some (ρ.set j (.od kvs)) else none
      | none => if dOk (kvs ++ [(kd, emptyB isL)]) = true then some (ρ.set j (.od (kvs ++ [(kd, emptyB isL)]))) else none) else none
  | none => none
theorem deepV_k (j : Nat) (isL : Bool) (kd : D) (ρ : Rho) : deepV j isL kd ρ = kDv j isL kd ρ (deepOf ρ[j]?) := Eq.trans rfl rfl
theorem kDv_old {j : Nat} {isL : Bool} {kd d : D} {kvs : List (D × D)} (ρ : Rho) (h : keyFit kvs kd = true) (hg : getN kvs (nkOf kd) = some d) (hb : boxIs isL d = true) : kDv j isL kd ρ (some kvs) = some (ρ.set j (.od kvs)) := by simp only [kDv, h, hg, hb, if_true]
theorem kDv_new {j : Nat} {isL : Bool} {kd : D} {kvs : List (D × D)} (ρ : Rho) (h : keyFit kvs kd = true) (hg : getN kvs (nkOf kd) = none) (hb : dOk (kvs ++ [(kd, emptyB isL)]) = true) : kDv j isL kd ρ (some kvs) = some (ρ.set j (.od (kvs ++ [(kd, emptyB isL)]))) := by simp only [kDv, h, hg, hb, if_true]
def kBoC (i j : Nat) (k : CE) (isL : Bool) (ρ : Rho) (b : Bool) : SO := if b = true then (evalE cf false k ρ).toS fun kd ρ1 => (nxO (deepV j isL kd ρ1)).bind fun ρ2 => borV i j kd ρ2 else .bad
def kBo1 (i j : Nat) (isL : Bool) (o : EO D) : SO := o.toS fun kd ρ1 => (nxO (deepV j isL kd ρ1)).bind fun ρ2 => borV i j kd ρ2
def kBo2 (i j : Nat) (kd : D) (o : Option Rho) : SO := (nxO o).bind fun ρ2 => borV i j kd ρ2
theorem x_bor (i j : Nat) (k : CE) (isL : Bool) (ρ : Rho) : exec cf fr (.bor i j k isL) ρ = kBoC cf i j k isL ρ (deepOf ρ[j]?).isSome := Eq.trans rfl rfl
theorem kBoC_tt (i j : Nat) (k : CE) (isL : Bool) (ρ : Rho) : kBoC cf i j k isL ρ true = kBo1 i j isL (evalE cf false k ρ) := Eq.trans rfl rfl
theorem kBo1_ok (i j : Nat) (isL : Bool) (kd : D) (ρ : Rho) : kBo1 i j isL (.ok kd ρ) = kBo2 i j kd (deepV j isL kd ρ) := Eq.trans rfl rfl
theorem kBo2_ok (i j : Nat) (kd : D) (ρ : Rho) : kBo2 i j kd (some ρ) = borV i j kd ρ := Eq.trans rfl rfl
theorem borV_ne {i j : Nat} (kd : D) (ρ : Rho) (h : i ≠ j) : borV i j kd ρ = nxO (setS i (.bo j kd) ρ) := by unfold borV; rw [if_neg h]
def kB0C (j : Nat) (k : CE) (isL : Bool) (ρ : Rho) (b : Bool) : SO := if b = true then (evalE cf false k ρ).toS fun kd ρ1 => (nxO (deepV j isL kd ρ1)).bind fun ρ2 => .next ρ2 else .bad
def kB01 (j : Nat) (isL : Bool) (o : EO D) : SO := o.toS fun kd ρ1 => (nxO (deepV j isL kd ρ1)).bind fun ρ2 => .next ρ2
theorem x_bo0 (j : Nat) (k : CE) (isL : Bool) (ρ : Rho) : exec cf fr (.bo0 j k isL) ρ = kB0C cf j k isL ρ (deepOf ρ[j]?).isSome := Eq.trans rfl rfl
theorem kB0C_tt (j : Nat) (k : CE) (isL : Bool) (ρ : Rho) : kB0C cf j k isL ρ true = kB01 j isL (evalE cf false k ρ) := Eq.trans rfl rfl
theorem kB01_ok (j : Nat) (isL : Bool) (kd : D) (ρ : Rho) : kB01 j isL (.ok kd ρ) = nxO (deepV j isL kd ρ) := by
  show (nxO (deepV j isL kd ρ)).bind (fun ρ2 => .next ρ2) = _
  cases deepV j isL kd ρ <;> rfl
def kBP0 (j : Nat) (k : CE) (i2 : Nat) (o : EO D) : SO := o.toS fun d ρ1 => if (deepOf ρ1[j]?).isSome = true then (evalE cf false k ρ1).toS fun kd ρ2 => (nxO (deepV j false kd ρ2)).bind fun ρ3 => (match shOf ρ3[i2]? with
    | some kd2 => putBo j kd kd2 d ρ3
    | none => .bad) else .bad
def kBP1 (j : Nat) (k : CE) (i2 : Nat) (d : D) (ρ1 : Rho) (b : Bool) : SO := if b = true then (evalE cf false k ρ1).toS fun kd ρ2 => (nxO (deepV j false kd ρ2)).bind fun ρ3 => (match shOf ρ3[i2]? with
    | some kd2 => putBo j kd kd2 d ρ3
    | none => .bad) else .bad
def kBP2 (j i2 : Nat) (d : D) (o : EO D) : SO := o.toS fun kd ρ2 => (nxO (deepV j false kd ρ2)).bind fun ρ3 => (match shOf ρ3[i2]? with
    | some kd2 => putBo j kd kd2 d ρ3
    | none => .bad)
def kBP3 (j i2 : Nat) (kd d : D) (o : Option Rho) : SO := (nxO o).bind fun ρ3 => (match shOf ρ3[i2]? with
    | some kd2 => putBo j kd kd2 d ρ3
    | none => .bad)
def kBP4 (j : Nat) (kd d : D) (ρ : Rho) (o : Option D) : SO := match o with
    | some kd2 => putBo j kd kd2 d ρ
    | none => .bad
theorem x_boP (j i2 : Nat) (k v : CE) (ρ : Rho) : exec cf fr (.boP j k i2 v) ρ = kBP0 cf j k i2 (evalE cf false v ρ) := Eq.trans rfl rfl
theorem kBP0_ok (j i2 : Nat) (k : CE) (d : D) (ρ : Rho) : kBP0 cf j k i2 (.ok d ρ) = kBP1 cf j k i2 d ρ (deepOf ρ[j]?).isSome := Eq.trans rfl rfl
theorem kBP1_tt (j i2 : Nat) (k : CE) (d : D) (ρ : Rho) : kBP1 cf j k i2 d ρ true = kBP2 j i2 d (evalE cf false k ρ) := Eq.trans rfl rfl
theorem kBP2_ok (j i2 : Nat) (d kd : D) (ρ : Rho) : kBP2 j i2 d (.ok kd ρ) = kBP3 j i2 kd d (deepV j false kd ρ) := Eq.trans rfl rfl
theorem kBP3_ok (j i2 : Nat) (kd d : D) (ρ : Rho) : kBP3 j i2 kd d (some ρ) = kBP4 j kd d ρ (shOf ρ[i2]?) := Eq.trans rfl rfl
theorem kBP4_ok (j : Nat) (kd d kd2 : D) (ρ : Rho) : kBP4 j kd d ρ (some kd2) = putBo j kd kd2 d ρ := Eq.trans rfl rfl
def kPb (j : Nat) (kd kd2 d : D) (ρ : Rho) (o : Option (List (D × D))) : SO := match o with
  | some kvs => (match dcOf (getN kvs (nkOf kd)) with
    | some w => if (keyFit w kd2 && dOk (putN w kd2 d)) = true then .next (ρ.set j (.od (putN kvs kd (.dict (putN w kd2 d))))) else .bad
    | none => .bad)
  | none => .bad
theorem putBo_k (j : Nat) (kd kd2 d : D) (ρ : Rho) : putBo j kd kd2 d ρ = kPb j kd kd2 d ρ (odOf ρ[j]?) := Eq.trans rfl rfl
theorem kPb_ok {j : Nat} {kd kd2 d : D} {kvs w : List (D × D)} (ρ : Rho) (hg : getN kvs (nkOf kd) = some (.dict w)) (h1 : keyFit w kd2 = true) (h2 : dOk (putN w kd2 d) = true) : kPb j kd kd2 d ρ (some kvs) = .next (ρ.set j (.od (putN kvs kd (.dict (putN w kd2 d))))) := by
  simp only [kPb, hg, dcOf_d, h1, h2, Bool.and_self, if_true]
def ubS (i : Nat) (kvs : List (D × D)) (sl : Sl) : Sl := match sl with
  | .bo j k => if j = i then .sh ((getN kvs (nkOf k)).getD .none) else .bo j k
  | sl => sl
theorem unbo_nil (i : Nat) (kvs : List (D × D)) : unbo i kvs [] = [] := Eq.trans rfl rfl
theorem unbo_cons (i : Nat) (kvs : List (D × D)) (sl : Sl) (ρ : Rho) : unbo i kvs (sl :: ρ) = ubS i kvs sl :: unbo i kvs ρ := Eq.trans rfl rfl
theorem ubS_un (i : Nat) (kvs : List (D × D)) : ubS i kvs .un = .un := Eq.trans rfl rfl
theorem ubS_sh (i : Nat) (kvs : List (D × D)) (d : D) : ubS i kvs (.sh d) = .sh d := Eq.trans rfl rfl
theorem ubS_ow (i : Nat) (kvs : List (D × D)) (d : D) : ubS i kvs (.ow d) = .ow d := Eq.trans rfl rfl
theorem ubS_io (i : Nat) (kvs : List (D × D)) (d : D) : ubS i kvs (.io d) = .io d := Eq.trans rfl rfl
theorem ubS_pk (i : Nat) (kvs : List (D × D)) (d : D) : ubS i kvs (.pk d) = .pk d := Eq.trans rfl rfl
theorem ubS_lk (i : Nat) (kvs : List (D × D)) (d : D) : ubS i kvs (.lk d) = .lk d := Eq.trans rfl rfl
theorem ubS_od (i : Nat) (kvs kvs' : List (D × D)) : ubS i kvs (.od kvs') = .od kvs' := Eq.trans rfl rfl
theorem ubS_bo (i : Nat) (kvs : List (D × D)) (k : D) : ubS i kvs (.bo i k) = .sh ((getN kvs (nkOf k)).getD .none) := by unfold ubS; dsimp only; rw [if_pos rfl]
theorem ubS_pl (i : Nat) (kvs : List (D × D)) (l : Sl) (h : setB l = true) : ubS i kvs l = l := by cases l <;> first | rfl | cases h
theorem thaw_od {i : Nat} {kvs : List (D × D)} {ρ : Rho} (h : ρ[i]? = some (.od kvs)) : thaw i ρ = (unbo i kvs ρ).set i (.ow (.dict kvs)) := by unfold thaw; rw [h]
theorem thaw_get {i : Nat} {kvs : List (D × D)} {ρ : Rho} (h : ρ[i]? = some (.od kvs)) : (thaw i ρ)[i]? = some (.ow (.dict kvs)) := by
  rw [thaw_od h]
  exact List.getElem?_set_self (by rw [unbo_len]; exact (List.getElem?_eq_some_iff.mp h).1)
theorem kRv_od {i : Nat} {kvs : List (D × D)} {ρ : Rho} (h : ρ[i]? = some (.od kvs)) : kRv cf (some (.od kvs)) i ρ = .ret (.dict kvs) ((unbo i kvs ρ).set i (.ow (.dict kvs))) := by
  have e : prep i ρ = thaw i ρ := by unfold prep; rw [h]
  show exec cf true (.ret (.var i)) ρ = _
  simp only [exec, retV, if_true, e, thaw_get h]
  rw [thaw_od h]
theorem kLk_od {i : Nat} {pk : Bool} {kvs : List (D × D)} {ρ : Rho} (h : ρ[i]? = some (.od kvs)) : kLk (some (.od kvs)) pk i ρ = kLk (some (.ow (.dict kvs))) pk i ((unbo i kvs ρ).set i (.ow (.dict kvs))) := by
  have e : prep i ρ = thaw i ρ := by unfold prep; rw [h]
  show look pk i ρ = _
  unfold look look0
  rw [e, thaw_get h, thaw_od h]
  rfl
/-! expressions -/
theorem e_cst (pk : Bool) (d : D) (ρ : Rho) : evalE cf pk (.cst d) ρ = .ok d ρ := Eq.trans rfl rfl
theorem e_glo (pk : Bool) (d : D) (ρ : Rho) : evalE cf pk (.gl d) ρ = .ok d ρ := Eq.trans rfl rfl
theorem ev_var (pk : Bool) (i : Nat) (ρ : Rho) : evalE cf pk (.var i) ρ = kLk ρ[i]? pk i ρ := by cases pk <;> exact look_k _ i ρ
def kTup (o : EO (List D)) : EO D := o.bind fun ds ρ => eob (guardP (szOk ds.length) (some (.tuple ds))) ρ
def kLst (o : EO (List D)) : EO D := o.bind fun ds ρ => eob (guardP (szOk ds.length) (some (.list ds))) ρ
theorem ev_tup (pk : Bool) (es : CL) (ρ : Rho) : evalE cf pk (.tup es) ρ = kTup (evalL cf es ρ) := by cases pk <;> exact Eq.trans rfl rfl
theorem ev_lst (pk : Bool) (es : CL) (ρ : Rho) : evalE cf pk (.lst es) ρ = kLst (evalL cf es ρ) := by cases pk <;> exact Eq.trans rfl rfl
theorem kTup_ok (ds : List D) (ρ : Rho) : kTup (.ok ds ρ) = eob (guardP (szOk ds.length) (some (.tuple ds))) ρ := Eq.trans rfl rfl
theorem kLst_ok (ds : List D) (ρ : Rho) : kLst (.ok ds ρ) = eob (guardP (szOk ds.length) (some (.list ds))) ρ := Eq.trans rfl rfl
theorem ev_dic (pk : Bool) (ρ : Rho) : evalE cf pk .dic0 ρ = .ok (.dict []) ρ := by cases pk <;> exact Eq.trans rfl rfl
def kBin1 (op : Operator) (b : CE) (o : EO D) : EO D := o.bind fun x ρ => (evalE cf true b ρ).bind fun y ρ => eob (binD op x y) ρ
def kBin2 (op : Operator) (x : D) (o : EO D) : EO D := o.bind fun y ρ => eob (binD op x y) ρ
theorem ev_bin (pk : Bool) (op : Operator) (a b : CE) (ρ : Rho) : evalE cf pk (.bin op a b) ρ = kBin1 cf op b (evalE cf (pureE b) a ρ) := by cases pk <;> exact Eq.trans rfl rfl
theorem kBin1_ok (op : Operator) (b : CE) (x : D) (ρ : Rho) : kBin1 cf op b (.ok x ρ) = kBin2 op x (evalE cf true b ρ) := Eq.trans rfl rfl
theorem kBin2_ok (op : Operator) (x y : D) (ρ : Rho) : kBin2 op x (.ok y ρ) = eob (binD op x y) ρ := Eq.trans rfl rfl
def kNeg (o : EO D) : EO D := o.bind fun x ρ => (eob (asI x) ρ).bind fun i ρ => .ok (.int (-i)) ρ
theorem ev_neg (pk : Bool) (a : CE) (ρ : Rho) : evalE cf pk (.neg a) ρ = kNeg (evalE cf true a ρ) := by cases pk <;> exact Eq.trans rfl rfl
theorem kNeg_ok (i : Int) (ρ : Rho) : kNeg (.ok (.int i) ρ) = .ok (.int (-i)) ρ := Eq.trans rfl rfl
def kCmp1 (op : CmpOp) (b : CE) (o : EO D) : EO D := o.bind fun x ρ => (evalE cf true b ρ).bind fun y ρ => (eob (cmpD op x y) ρ).bind fun c ρ => .ok (.bool c) ρ
def kCmp2 (op : CmpOp) (x : D) (o : EO D) : EO D := o.bind fun y ρ => (eob (cmpD op x y) ρ).bind fun c ρ => .ok (.bool c) ρ
def kBl (o : Option Bool) (ρ : Rho) : EO D := (eob o ρ).bind fun c ρ => .ok (.bool c) ρ
theorem ev_cmp (pk : Bool) (op : CmpOp) (a b : CE) (ρ : Rho) : evalE cf pk (.cmp op a b) ρ = kCmp1 cf op b (evalE cf (pureE b) a ρ) := by cases pk <;> exact Eq.trans rfl rfl
theorem kCmp1_ok (op : CmpOp) (b : CE) (x : D) (ρ : Rho) : kCmp1 cf op b (.ok x ρ) = kCmp2 op x (evalE cf true b ρ) := Eq.trans rfl rfl
theorem kCmp2_ok (op : CmpOp) (x y : D) (ρ : Rho) : kCmp2 op x (.ok y ρ) = kBl (cmpD op x y) ρ := Eq.trans rfl rfl
theorem kBl_some (b : Bool) (ρ : Rho) : kBl (some b) ρ = .ok (.bool b) ρ := Eq.trans rfl rfl
def kCh1 (o1 o2 : CmpOp) (b c : CE) (o : EO D) : EO D := o.bind fun x ρ => (evalE cf (pureE c) b ρ).bind fun y ρ => (eob (cmpD o1 x y) ρ).bind fun k ρ => if k = true then (evalE cf true c ρ).bind fun z ρ => (eob (cmpD o2 y z) ρ).bind fun c ρ => .ok (.bool c) ρ else .ok (.bool false) ρ
def kCh2 (o1 o2 : CmpOp) (x : D) (c : CE) (o : EO D) : EO D := o.bind fun y ρ => (eob (cmpD o1 x y) ρ).bind fun k ρ => if k = true then (evalE cf true c ρ).bind fun z ρ => (eob (cmpD o2 y z) ρ).bind fun c ρ => .ok (.bool c) ρ else .ok (.bool false) ρ
def kCh3 (o2 : CmpOp) (y : D) (c : CE) (o : Option Bool) (ρ : Rho) : EO D := (eob o ρ).bind fun k ρ => if k = true then (evalE cf true c ρ).bind fun z ρ => (eob (cmpD o2 y z) ρ).bind fun c ρ => .ok (.bool c) ρ else .ok (.bool false) ρ
theorem ev_chn (pk : Bool) (o1 o2 : CmpOp) (a b c : CE) (ρ : Rho) : evalE cf pk (.chn o1 o2 a b c) ρ = kCh1 cf o1 o2 b c (evalE cf (pureE b) a ρ) := by cases pk <;> exact Eq.trans rfl rfl
theorem kCh1_ok (o1 o2 : CmpOp) (b c : CE) (x : D) (ρ : Rho) : kCh1 cf o1 o2 b c (.ok x ρ) = kCh2 cf o1 o2 x c (evalE cf (pureE c) b ρ) := Eq.trans rfl rfl
theorem kCh2_ok (o1 o2 : CmpOp) (x : D) (c : CE) (y : D) (ρ : Rho) : kCh2 cf o1 o2 x c (.ok y ρ) = kCh3 cf o2 y c (cmpD o1 x y) ρ := Eq.trans rfl rfl
theorem kCh3_tt (o2 : CmpOp) (y : D) (c : CE) (ρ : Rho) : kCh3 cf o2 y c (some true) ρ = kCmp2 o2 y (evalE cf true c ρ) := Eq.trans rfl rfl
theorem kCh3_ff (o2 : CmpOp) (y : D) (c : CE) (ρ : Rho) : kCh3 cf o2 y c (some false) ρ = .ok (.bool false) ρ := Eq.trans rfl rfl
def kAnd (b : CE) (o : EO Bool) : EO D := o.bind fun k ρ => if k = true then evalE cf false b ρ else .ok (.bool false) ρ
def kOr (b : CE) (o : EO Bool) : EO D := o.bind fun k ρ => if k = true then .ok (.bool true) ρ else evalE cf false b ρ
def kNot (o : EO Bool) : EO D := o.bind fun k ρ => .ok (.bool !k) ρ
def kIfe (a b : CE) (o : EO Bool) : EO D := o.bind fun k ρ => if k = true then evalE cf false a ρ else evalE cf false b ρ
theorem bind_tst {β : Type} (o : EO D) (f : Bool → Rho → EO β) : (o.bind fun x ρ => (eob (asB x) ρ).bind f) = (kTst o).bind f := by
  cases o <;> rfl
theorem ev_and (pk : Bool) (a b : CE) (ρ : Rho) : evalE cf pk (.and_ a b) ρ = kAnd cf b (kTst (evalE cf false a ρ)) := by cases pk <;> simp only [evalE, kAnd, bind_tst]
theorem ev_or (pk : Bool) (a b : CE) (ρ : Rho) : evalE cf pk (.or_ a b) ρ = kOr cf b (kTst (evalE cf false a ρ)) := by cases pk <;> simp only [evalE, kOr, bind_tst]
theorem ev_not (pk : Bool) (a : CE) (ρ : Rho) : evalE cf pk (.not_ a) ρ = kNot (kTst (evalE cf false a ρ)) := by cases pk <;> simp only [evalE, kNot, bind_tst]
theorem ev_ife (pk : Bool) (c a b : CE) (ρ : Rho) : evalE cf pk (.ife c a b) ρ = kIfe cf a b (kTst (evalE cf false c ρ)) := by cases pk <;> simp only [evalE, kIfe, bind_tst]
theorem kAnd_tt (b : CE) (ρ : Rho) : kAnd cf b (.ok true ρ) = evalE cf false b ρ := Eq.trans rfl rfl
theorem kAnd_ff (b : CE) (ρ : Rho) : kAnd cf b (.ok false ρ) = .ok (.bool false) ρ := Eq.trans rfl rfl
theorem kOr_tt (b : CE) (ρ : Rho) : kOr cf b (.ok true ρ) = .ok (.bool true) ρ := Eq.trans rfl rfl
theorem kOr_ff (b : CE) (ρ : Rho) : kOr cf b (.ok false ρ) = evalE cf false b ρ := Eq.trans rfl rfl
theorem kNot_ok (b : Bool) (ρ : Rho) : kNot (.ok b ρ) = .ok (.bool !b) ρ := Eq.trans rfl rfl
theorem kIfe_tt (a b : CE) (ρ : Rho) : kIfe cf a b (.ok true ρ) = evalE cf false a ρ := Eq.trans rfl rfl
theorem kIfe_ff (a b : CE) (ρ : Rho) : kIfe cf a b (.ok false ρ) = evalE cf false b ρ := Eq.trans rfl rfl
/-! calls -/
def slOk (is : List AK) : Bool := decide (slotsK is).Nodup && pkOff (slotsK is) is
def kCall (f : Str) (is : List AK) (o : EO (List D)) : EO D := o.bind fun ds ρ => callV f cf is ds ρ
def kCv2 (is : List AK) (ρ : Rho) (o : CR) : EO D := match o with
  | .ok d os => .ok d (putIo is os ρ)
  | .exc c p os => .exc c p (putIo is os ρ)
  | .bad => .bad
def kCv1 (f : Str) (is : List AK) (ρ : Rho) (b : Bool) (o : Option (List D)) : EO D := if b = true then (match o with
  | some es => kCv2 is ρ (cf f es)
  | none => .bad) else .bad
theorem ev_call (pk : Bool) (f : Str) (b : Bool) (es : CL) (ρ : Rho) : evalE cf pk (.call f b es) ρ = kCall cf f (ioOf es) (evalL cf es ρ) := by cases pk <;> exact Eq.trans rfl rfl
theorem kCall_ok (f : Str) (is : List AK) (ds : List D) (ρ : Rho) : kCall cf f is (.ok ds ρ) = kCv1 cf f is ρ (slOk is) (fillIo ρ is ds) := by
  show callV f cf is ds ρ = _
  unfold callV kCv1 slOk
  split
  · cases fillIo ρ is ds with
    | none => rfl
    | some es => dsimp only; unfold kCv2; cases cf f es <;> rfl
  · rfl
theorem kCall_exc (f : Str) (is : List AK) (c : Str) (p : List D) (ρ : Rho) : kCall cf f is (.exc c p ρ) = .exc c p ρ := Eq.trans rfl rfl
theorem kCv1_ok (f : Str) (is : List AK) (ρ : Rho) (es : List D) : kCv1 cf f is ρ true (some es) = kCv2 is ρ (cf f es) := Eq.trans rfl rfl
theorem kCv2_ok (is : List AK) (ρ : Rho) (d : D) (os : List D) : kCv2 is ρ (.ok d os) = .ok d (putIo is os ρ) := Eq.trans rfl rfl
theorem kCv2_exc (is : List AK) (ρ : Rho) (c : Str) (p : List D) (os : List D) : kCv2 is ρ (.exc c p os) = .exc c p (putIo is os ρ) := Eq.trans rfl rfl
def kCF1 (f : Str) (b : Bool) (es : CL) (o : EO D) : EO D := o.bind fun x ρ => if (b && isBox x) = true then (evalL cf es ρ).bind fun ds ρ => callVF f cf (ioOf es) x ds ρ else .bad
def kCF2 (f : Str) (is : List AK) (x : D) (o : EO (List D)) : EO D := o.bind fun ds ρ => callVF f cf is x ds ρ
def kCw2 (is : List AK) (ρ : Rho) (o : CR) : EO D := match o with
  | .ok d os => .ok d (putIo is os.tail ρ)
  | .exc c p os => .exc c p (putIo is os.tail ρ)
  | .bad => .bad
def kCw1 (f : Str) (is : List AK) (ρ : Rho) (x : D) (b : Bool) (o : Option (List D)) : EO D := if b = true then (match o with
  | some es => kCw2 is ρ (cf f (x :: es))
  | none => .bad) else .bad
theorem ev_callF (pk : Bool) (f : Str) (b : Bool) (e : CE) (es : CL) (ρ : Rho) : evalE cf pk (.callF f b e es) ρ = kCF1 cf f (freshE e) es (evalE cf false e ρ) := by cases pk <;> exact Eq.trans rfl rfl
theorem kCF1_l (f : Str) (es : CL) (ds : List D) (ρ : Rho) : kCF1 cf f true es (.ok (.list ds) ρ) = kCF2 cf f (ioOf es) (.list ds) (evalL cf es ρ) := Eq.trans rfl rfl
theorem kCF1_d (f : Str) (es : CL) (ds : List (D × D)) (ρ : Rho) : kCF1 cf f true es (.ok (.dict ds) ρ) = kCF2 cf f (ioOf es) (.dict ds) (evalL cf es ρ) := Eq.trans rfl rfl
theorem kCF2_ok (f : Str) (is : List AK) (x : D) (ds : List D) (ρ : Rho) : kCF2 cf f is x (.ok ds ρ) = kCw1 cf f is ρ x (slOk is) (fillIo ρ is ds) := by
  show callVF f cf is x ds ρ = _
  unfold callVF kCw1 slOk
  split
  · cases fillIo ρ is ds with
    | none => rfl
    | some es => dsimp only; unfold kCw2; cases cf f (x :: es) <;> rfl
  · rfl
theorem kCw1_ok (f : Str) (is : List AK) (ρ : Rho) (x : D) (es : List D) : kCw1 cf f is ρ x true (some es) = kCw2 is ρ (cf f (x :: es)) := Eq.trans rfl rfl
theorem kCw2_ok (is : List AK) (ρ : Rho) (d : D) (os : List D) : kCw2 is ρ (.ok d os) = .ok d (putIo is os.tail ρ) := Eq.trans rfl rfl
theorem kCw2_exc (is : List AK) (ρ : Rho) (c : Str) (p : List D) (os : List D) : kCw2 is ρ (.exc c p os) = .exc c p (putIo is os.tail ρ) := Eq.trans rfl rfl
theorem slOk_nil : slOk [] = true := Eq.trans rfl rfl
theorem slOk_a (is : List AK) : slOk (.a :: is) = slOk is := Eq.trans rfl rfl
theorem io_nil : ioOf .nil = [] := Eq.trans rfl rfl
theorem io_cons (e : CE) (es : CL) : ioOf (.cons e es) = .a :: ioOf es := Eq.trans rfl rfl
theorem io_io (i : Nat) (es : CL) : ioOf (.io i es) = .s i :: ioOf es := Eq.trans rfl rfl
theorem io_pk (i : Nat) (es : CL) : ioOf (.pk i es) = .p i :: ioOf es := Eq.trans rfl rfl
def kFl (d : D) (o : Option (List D)) : Option (List D) := o.map (d :: ·)
def kFs (is : List AK) (ds : List D) (ρ : Rho) (o : Option D) : Option (List D) := o.bind fun d => (fillIo ρ is ds).map (d :: ·)
theorem fill_nil (ρ : Rho) : fillIo ρ [] [] = some [] := Eq.trans rfl rfl
theorem fill_a (ρ : Rho) (is : List AK) (d : D) (ds : List D) : fillIo ρ (.a :: is) (d :: ds) = kFl d (fillIo ρ is ds) := Eq.trans rfl rfl
theorem fill_s (ρ : Rho) (i : Nat) (is : List AK) (d : D) (ds : List D) : fillIo ρ (.s i :: is) (d :: ds) = kFs is ds ρ (slotD ρ[i]?) := Eq.trans rfl rfl
theorem fill_p (ρ : Rho) (i : Nat) (is : List AK) (d : D) (ds : List D) : fillIo ρ (.p i :: is) (d :: ds) = kFs is ds ρ (slotP ρ[i]?) := Eq.trans rfl rfl
theorem kFl_ok (d : D) (ds : List D) : kFl d (some ds) = some (d :: ds) := Eq.trans rfl rfl
theorem kFs_ok (is : List AK) (ds : List D) (ρ : Rho) (d : D) : kFs is ds ρ (some d) = kFl d (fillIo ρ is ds) := Eq.trans rfl rfl
theorem put_nil (is : List AK) (ρ : Rho) : putIo is [] ρ = ρ := by
  cases is with
  | nil => rfl
  | cons k is => cases k <;> rfl
theorem put_a (is : List AK) (d : D) (ds : List D) (ρ : Rho) : putIo (.a :: is) (d :: ds) ρ = putIo is ds ρ := Eq.trans rfl rfl
theorem put_p (i : Nat) (is : List AK) (d : D) (ds : List D) (ρ : Rho) : putIo (.p i :: is) (d :: ds) ρ = putIo is ds ρ := Eq.trans rfl rfl
theorem put_s (i : Nat) (is : List AK) (d : D) (ds : List D) (ρ : Rho) : putIo (.s i :: is) (d :: ds) ρ = putIo is ds (ρ.set i (withD ρ[i]? d)) := Eq.trans rfl rfl
theorem put_00 (ρ : Rho) : putIo [] [] ρ = ρ := Eq.trans rfl rfl
def kBi (f : String) (o : EO (List D)) : EO D := o.bind fun ds ρ => eob (biD f ds) ρ
theorem ev_bi (pk : Bool) (f : String) (es : CL) (ρ : Rho) : evalE cf pk (.bi f es) ρ = kBi f (evalPL cf es ρ) := by cases pk <;> exact Eq.trans rfl rfl
theorem kBi_ok (f : String) (ds : List D) (ρ : Rho) : kBi f (.ok ds ρ) = eob (biD f ds) ρ := Eq.trans rfl rfl
def kIsi (t : String) (o : EO D) : EO D := o.bind fun x ρ => eob (isiD x t) ρ
theorem ev_isi (pk : Bool) (a : CE) (t : String) (ρ : Rho) : evalE cf pk (.isi a t) ρ = kIsi t (evalE cf true a ρ) := by cases pk <;> exact Eq.trans rfl rfl
theorem kIsi_ok (t : String) (d : D) (ρ : Rho) : kIsi t (.ok d ρ) = eob (isiD d t) ρ := Eq.trans rfl rfl
def kIx1 (b : CE) (o : EO D) : EO D := o.bind fun x ρ => (evalE cf true b ρ).bind fun y ρ => eob (ixD x y) ρ
def kIx2 (x : D) (o : EO D) : EO D := o.bind fun y ρ => eob (ixD x y) ρ
theorem ev_ix (pk : Bool) (a b : CE) (ρ : Rho) : evalE cf pk (.ix a b) ρ = kIx1 cf b (evalE cf (pureE b) a ρ) := by cases pk <;> exact Eq.trans rfl rfl
theorem kIx1_ok (b : CE) (x : D) (ρ : Rho) : kIx1 cf b (.ok x ρ) = kIx2 x (evalE cf true b ρ) := Eq.trans rfl rfl
theorem kIx2_ok (x y : D) (ρ : Rho) : kIx2 x (.ok y ρ) = eob (ixD x y) ρ := Eq.trans rfl rfl
def kSl1 (lo hi : CO) (o : EO D) : EO D := o.bind fun x ρ => (evalO cf lo ρ).bind fun l ρ => (evalO cf hi ρ).bind fun h ρ => eob (slcD x l h) ρ
def kSl2 (hi : CO) (x : D) (o : EO (Option Int)) : EO D := o.bind fun l ρ => (evalO cf hi ρ).bind fun h ρ => eob (slcD x l h) ρ
def kSl3 (x : D) (l : Option Int) (o : EO (Option Int)) : EO D := o.bind fun h ρ => eob (slcD x l h) ρ
theorem ev_slc (pk : Bool) (a : CE) (lo hi : CO) (ρ : Rho) : evalE cf pk (.slc a lo hi) ρ = kSl1 cf lo hi (evalE cf (pureO lo && pureO hi) a ρ) := by cases pk <;> exact Eq.trans rfl rfl
theorem kSl1_ok (lo hi : CO) (x : D) (ρ : Rho) : kSl1 cf lo hi (.ok x ρ) = kSl2 cf hi x (evalO cf lo ρ) := Eq.trans rfl rfl
theorem kSl2_ok (hi : CO) (x : D) (l : Option Int) (ρ : Rho) : kSl2 cf hi x (.ok l ρ) = kSl3 x l (evalO cf hi ρ) := Eq.trans rfl rfl
theorem kSl3_ok (x : D) (l h : Option Int) (ρ : Rho) : kSl3 x l (.ok h ρ) = eob (slcD x l h) ρ := Eq.trans rfl rfl
theorem eo_no (ρ : Rho) : evalO cf .no ρ = .ok none ρ := Eq.trans rfl rfl
def kOi (o : EO D) : EO (Option Int) := o.bind fun x ρ => (eob (asI x) ρ).bind fun i ρ => .ok (some i) ρ
theorem eo_so (e : CE) (ρ : Rho) : evalO cf (.so e) ρ = kOi (evalE cf false e ρ) := Eq.trans rfl rfl
theorem kOi_ok (i : Int) (ρ : Rho) : kOi (.ok (.int i) ρ) = .ok (some i) ρ := Eq.trans rfl rfl
theorem et_no (ρ : Rho) : evalT cf .no ρ = .ok true ρ := Eq.trans rfl rfl
theorem et_so (e : CE) (ρ : Rho) : evalT cf (.so e) ρ = kTst (evalE cf false e ρ) := Eq.trans rfl rfl
def kL1 (es : CL) (o : EO D) : EO (List D) := o.bind fun x ρ => (evalL cf es ρ).bind fun xs ρ => .ok (x :: xs) ρ
def kL2 (x : D) (o : EO (List D)) : EO (List D) := o.bind fun xs ρ => .ok (x :: xs) ρ
def kLc0 (es : CL) (ρ : Rho) (b : Bool) : EO (List D) := if b = true then kL2 .none (evalL cf es ρ) else .bad
theorem el_nil (ρ : Rho) : evalL cf .nil ρ = .ok [] ρ := Eq.trans rfl rfl
theorem el_cons (e : CE) (es : CL) (ρ : Rho) : evalL cf (.cons e es) ρ = kL1 cf es (evalE cf false e ρ) := Eq.trans rfl rfl
theorem el_io (i : Nat) (es : CL) (ρ : Rho) : evalL cf (.io i es) ρ = kLc0 cf es ρ (slotD ρ[i]?).isSome := Eq.trans rfl rfl
theorem el_pk (i : Nat) (es : CL) (ρ : Rho) : evalL cf (.pk i es) ρ = kLc0 cf es ρ (slotP ρ[i]?).isSome := Eq.trans rfl rfl
theorem kLc0_tt (es : CL) (ρ : Rho) : kLc0 cf es ρ true = kL2 .none (evalL cf es ρ) := Eq.trans rfl rfl
theorem kL1_ok (es : CL) (x : D) (ρ : Rho) : kL1 cf es (.ok x ρ) = kL2 x (evalL cf es ρ) := Eq.trans rfl rfl
theorem kL1_exc (es : CL) (c : Str) (p : List D) (ρ : Rho) : kL1 cf es (.exc c p ρ) = .exc c p ρ := Eq.trans rfl rfl
theorem kL2_ok (x : D) (xs : List D) (ρ : Rho) : kL2 x (.ok xs ρ) = .ok (x :: xs) ρ := Eq.trans rfl rfl
def kP1 (es : CL) (o : EO D) : EO (List D) := o.bind fun x ρ => (evalPL cf es ρ).bind fun xs ρ => .ok (x :: xs) ρ
theorem ep_nil (ρ : Rho) : evalPL cf .nil ρ = .ok [] ρ := Eq.trans rfl rfl
theorem ep_cons (e : CE) (es : CL) (ρ : Rho) : evalPL cf (.cons e es) ρ = kP1 cf es (evalE cf (pureL es) e ρ) := Eq.trans rfl rfl
theorem kP1_ok (es : CL) (x : D) (ρ : Rho) : kP1 cf es (.ok x ρ) = kL2 x (evalPL cf es ρ) := Eq.trans rfl rfl
def kRev (o : EO D) : EO D := o.bind fun x ρ => (eob (asSq x) ρ).bind fun xs ρ => .ok (.list xs.reverse) ρ
theorem ev_rev (pk : Bool) (a : CE) (ρ : Rho) : evalE cf pk (.rev a) ρ = kRev (evalE cf true a ρ) := by cases pk <;> exact Eq.trans rfl rfl
theorem kRev_ok (xs : List D) (ρ : Rho) : kRev (.ok (.list xs) ρ) = .ok (.list xs.reverse) ρ := Eq.trans rfl rfl
def kSr2 (xs : List D) (ρ : Rho) (o : Out (List D)) : EO D := match o with
  | .ok ks => eob (guardP (srtOk ks) (some (.list (srtK xs ks)))) ρ
  | _ => .bad
def kSrt (f : Str) (o : EO D) : EO D := o.bind fun x ρ => (eob (asSq x) ρ).bind fun xs ρ => kSr2 xs ρ (mapD (cf1 cf f) xs)
theorem ev_srt (pk : Bool) (f : Str) (a : CE) (ρ : Rho) : evalE cf pk (.srt f a) ρ = kSrt cf f (evalE cf true a ρ) := by
  have : evalE cf pk (.srt f a) ρ = evalE cf false (.srt f a) ρ := by cases pk <;> rfl
  rw [this]
  simp only [evalE, kSrt]
  cases evalE cf true a ρ with
  | ok x ρ1 =>
    simp only [ebind_ok]
    cases asSq x with
    | none => rfl
    | some xs => rfl
  | exc c p ρ1 => rfl
  | bad => rfl
theorem kSrt_ok (f : Str) (xs : List D) (ρ : Rho) : kSrt cf f (.ok (.list xs) ρ) = kSr2 xs ρ (mapD (cf1 cf f) xs) := Eq.trans rfl rfl
theorem kSr2_ok (xs ks : List D) (ρ : Rho) : kSr2 xs ρ (.ok ks) = eob (guardP (srtOk ks) (some (.list (srtK xs ks)))) ρ := Eq.trans rfl rfl
def kJo1 (b : CE) (o : EO D) : EO D := o.bind fun x ρ => (eob (asS x) ρ).bind fun s ρ => (evalE cf true b ρ).bind fun y ρ => eob (joiD s y) ρ
def kJo2 (s : Str) (o : EO D) : EO D := o.bind fun y ρ => eob (joiD s y) ρ
theorem ev_joi (pk : Bool) (a b : CE) (ρ : Rho) : evalE cf pk (.joi a b) ρ = kJo1 cf b (evalE cf true a ρ) := by cases pk <;> exact Eq.trans rfl rfl
theorem kJo1_ok (b : CE) (s : Str) (ρ : Rho) : kJo1 cf b (.ok (.str s) ρ) = kJo2 s (evalE cf true b ρ) := Eq.trans rfl rfl
theorem kJo2_ok (s : Str) (d : D) (ρ : Rho) : kJo2 s (.ok d ρ) = eob (joiD s d) ρ := Eq.trans rfl rfl
def kMg1 (es : CL) (o : EO D) : EO D := o.bind fun x ρ => (eob (asDc x) ρ).bind fun kvs ρ => (evalL cf es ρ).bind fun ds ρ => eob (getM kvs ds) ρ
def kMg2 (kvs : List (D × D)) (o : EO (List D)) : EO D := o.bind fun ds ρ => eob (getM kvs ds) ρ
theorem ev_mget (pk : Bool) (a : CE) (es : CL) (ρ : Rho) : evalE cf pk (.mget a es) ρ = kMg1 cf es (evalE cf (pureL es) a ρ) := by cases pk <;> exact Eq.trans rfl rfl
theorem kMg1_ok (es : CL) (kvs : List (D × D)) (ρ : Rho) : kMg1 cf es (.ok (.dict kvs) ρ) = kMg2 kvs (evalL cf es ρ) := Eq.trans rfl rfl
theorem kMg2_ok (kvs : List (D × D)) (ds : List D) (ρ : Rho) : kMg2 kvs (.ok ds ρ) = eob (getM kvs ds) ρ := Eq.trans rfl rfl
/-! pop, setdefault -/
def kPp (o : Option (List D)) (i : Nat) (j : Int) (ρ : Rho) : EO D := match o with
  | some ds => (match ixN ds.length j with
    | some n => (match ds[n]? with
      | some d => .ok d (ρ.set i (withD ρ[i]? (.list (ds.eraseIdx n))))
      | none => .bad)
    | none => .bad)
  | none => .bad
theorem ev_pop0 (pk : Bool) (i : Nat) (ρ : Rho) : evalE cf pk (.pop0 i) ρ = kPp (owL ρ[i]?) i (-1) ρ := by cases pk <;> exact Eq.trans rfl rfl
def kPoC (i : Nat) (e : CE) (ρ : Rho) (b : Bool) : EO D := if b = true then (evalE cf true e ρ).bind fun x ρ => (eob (asI x) ρ).bind fun j ρ => popV i j ρ else .bad
def kPo (i : Nat) (o : EO D) : EO D := o.bind fun x ρ => (eob (asI x) ρ).bind fun j ρ => popV i j ρ
theorem ev_pop1 (pk : Bool) (i : Nat) (e : CE) (ρ : Rho) : evalE cf pk (.pop1 i e) ρ = kPoC cf i e ρ (owL ρ[i]?).isSome := by cases pk <;> exact Eq.trans rfl rfl
theorem kPoC_tt (i : Nat) (e : CE) (ρ : Rho) : kPoC cf i e ρ true = kPo i (evalE cf true e ρ) := Eq.trans rfl rfl
theorem kPo_ok (i : Nat) (j : Int) (ρ : Rho) : kPo i (.ok (.int j) ρ) = kPp (owL ρ[i]?) i j ρ := Eq.trans rfl rfl
theorem kPp_0 (d : D) (ds : List D) (i : Nat) (ρ : Rho) : kPp (some (d :: ds)) i 0 ρ = .ok d (ρ.set i (withD ρ[i]? (.list ds))) := by
  have e : ixN (d :: ds).length 0 = some 0 := by
    unfold ixN
    rw [if_pos (Int.le_refl 0), if_pos (by rw [List.length_cons]; omega)]
    rfl
  simp only [kPp, e, List.getElem?_cons_zero, List.eraseIdx_cons_zero]
def kSdC (i : Nat) (a b : CE) (ρ : Rho) (c : Bool) : EO D := if c = true then (evalE cf false a ρ).bind fun x ρ => (evalE cf false b ρ).bind fun y ρ => setdV i x y ρ else .bad
def kSd1 (i : Nat) (b : CE) (o : EO D) : EO D := o.bind fun x ρ => (evalE cf false b ρ).bind fun y ρ => setdV i x y ρ
def kSd2 (i : Nat) (x : D) (o : EO D) : EO D := o.bind fun y ρ => setdV i x y ρ
def kSd3 (o : Option (List (D × D))) (i : Nat) (k v : D) (ρ : Rho) : EO D := match o with
  | some kvs => if keyFit kvs k = true then (match getN kvs (nkOf k) with
    | some x => .ok x ρ
    | none => if dOk (putN kvs k v) = true then .ok v (ρ.set i (withD ρ[i]? (.dict (putN kvs k v)))) else .bad) else .bad
  | none => .bad
theorem ev_setd (pk : Bool) (i : Nat) (a b : CE) (ρ : Rho) : evalE cf pk (.setd i a b) ρ = kSdC cf i a b ρ (owD ρ[i]?).isSome := by cases pk <;> exact Eq.trans rfl rfl
theorem kSdC_tt (i : Nat) (a b : CE) (ρ : Rho) : kSdC cf i a b ρ true = kSd1 cf i b (evalE cf false a ρ) := Eq.trans rfl rfl
theorem kSd1_ok (i : Nat) (b : CE) (x : D) (ρ : Rho) : kSd1 cf i b (.ok x ρ) = kSd2 i x (evalE cf false b ρ) := Eq.trans rfl rfl
theorem kSd2_ok (i : Nat) (x y : D) (ρ : Rho) : kSd2 i x (.ok y ρ) = kSd3 (owD ρ[i]?) i x y ρ := Eq.trans rfl rfl
theorem kSd3_old (kvs : List (D × D)) (i : Nat) (k v x : D) (ρ : Rho) (h : keyFit kvs k = true) (hg : getN kvs (nkOf k) = some x) : kSd3 (some kvs) i k v ρ = .ok x ρ := by simp only [kSd3, h, if_true, hg]
theorem kSd3_new (kvs : List (D × D)) (i : Nat) (k v : D) (ρ : Rho) (h : keyFit kvs k = true) (hg : getN kvs (nkOf k) = none) (ho : dOk (putN kvs k v) = true) : kSd3 (some kvs) i k v ρ = .ok v (ρ.set i (withD ρ[i]? (.dict (putN kvs k v)))) := by simp only [kSd3, h, if_true, hg, ho]
/-! what is walked -/
def kIt (o : EO D) : EO (List D) := o.bind fun x ρ => eob (itemsD x) ρ
theorem ei_val (pk : Bool) (e : CE) (ρ : Rho) : evalI cf pk (.val e) ρ = kIt (evalE cf pk e ρ) := Eq.trans rfl rfl
theorem kIt_ok (d : D) (ρ : Rho) : kIt (.ok d ρ) = eob (itemsD d) ρ := Eq.trans rfl rfl
def kR1 (o : EO D) : EO (List D) := o.bind fun x ρ => (eob (asI x) ρ).bind fun i ρ => eob (rngD 0 i) ρ
theorem ei_rng1 (pk : Bool) (e : CE) (ρ : Rho) : evalI cf pk (.rng1 e) ρ = kR1 (evalE cf false e ρ) := Eq.trans rfl rfl
theorem kR1_ok (i : Int) (ρ : Rho) : kR1 (.ok (.int i) ρ) = eob (rngD 0 i) ρ := Eq.trans rfl rfl
def kR2 (b : CE) (o : EO D) : EO (List D) := o.bind fun x ρ => (evalE cf false b ρ).bind fun y ρ => (eob (asI x) ρ).bind fun i ρ => (eob (asI y) ρ).bind fun j ρ => eob (rngD i j) ρ
def kR3 (i : Int) (o : EO D) : EO (List D) := o.bind fun y ρ => (eob (asI y) ρ).bind fun j ρ => eob (rngD i j) ρ
theorem ei_rng2 (pk : Bool) (a b : CE) (ρ : Rho) : evalI cf pk (.rng2 a b) ρ = kR2 cf b (evalE cf false a ρ) := Eq.trans rfl rfl
theorem kR2_ok (b : CE) (i : Int) (ρ : Rho) : kR2 cf b (.ok (.int i) ρ) = kR3 i (evalE cf false b ρ) := Eq.trans rfl rfl
theorem kR3_ok (i j : Int) (ρ : Rho) : kR3 i (.ok (.int j) ρ) = eob (rngD i j) ρ := Eq.trans rfl rfl
def kZ1 (b : CE) (o : EO D) : EO (List D) := o.bind fun x ρ => (evalE cf false b ρ).bind fun y ρ => eob (zipD x y) ρ
def kZ2 (x : D) (o : EO D) : EO (List D) := o.bind fun y ρ => eob (zipD x y) ρ
theorem ei_zip (pk : Bool) (a b : CE) (ρ : Rho) : evalI cf pk (.zip a b) ρ = kZ1 cf b (evalE cf false a ρ) := Eq.trans rfl rfl
theorem kZ1_ok (b : CE) (x : D) (ρ : Rho) : kZ1 cf b (.ok x ρ) = kZ2 x (evalE cf false b ρ) := Eq.trans rfl rfl
theorem kZ2_ok (x y : D) (ρ : Rho) : kZ2 x (.ok y ρ) = eob (zipD x y) ρ := Eq.trans rfl rfl
def kEn (o : EO D) : EO (List D) := o.bind fun x ρ => eob (enmD x) ρ
theorem ei_enm (pk : Bool) (a : CE) (ρ : Rho) : evalI cf pk (.enm a) ρ = kEn (evalE cf false a ρ) := Eq.trans rfl rfl
theorem kEn_ok (d : D) (ρ : Rho) : kEn (.ok d ρ) = eob (enmD d) ρ := Eq.trans rfl rfl
/-! comprehensions -/
def kLc3 (own : List Nat) (n : Nat) (ρ1 ρ2 : Rho) (r : List D) (b : Bool) : EO D := if b = true then eob (guardP (szOk n) (some (.list r))) (backR ρ1 ρ2 own) else .bad
def kLc2 (own : List Nat) (n : Nat) (ρ1 : Rho) (o : EO (List D)) : EO D := o.bind fun r ρ2 => if (own.all (notOw ρ1) && own.all (notOw ρ2)) = true then eob (guardP (szOk n) (some (.list r))) (backR ρ1 ρ2 own) else .bad
def kLc (own tg : List Nat) (isT : Bool) (ifs : CO) (elt : CE) (o : EO (List D)) : EO D := o.bind fun ds ρ1 => kLc2 own ds.length ρ1 (lcLoop (lcOne cf own tg isT ifs elt) ds ρ1)
theorem ev_lc (pk : Bool) (own tg : List Nat) (isT : Bool) (it : CI) (ifs : CO) (elt : CE) (ρ : Rho) : evalE cf pk (.lc own tg isT it ifs elt) ρ = kLc cf own tg isT ifs elt (evalI cf (pureO ifs && pureE elt) it ρ) := by cases pk <;> exact Eq.trans rfl rfl
theorem kLc_ok (own tg : List Nat) (isT : Bool) (ifs : CO) (elt : CE) (ds : List D) (ρ : Rho) : kLc cf own tg isT ifs elt (.ok ds ρ) = kLc2 own ds.length ρ (lcLoop (lcOne cf own tg isT ifs elt) ds ρ) := Eq.trans rfl rfl
theorem kLc2_ok (own : List Nat) (n : Nat) (ρ1 ρ2 : Rho) (r : List D) : kLc2 own n ρ1 (.ok r ρ2) = kLc3 own n ρ1 ρ2 r (own.all (notOw ρ1) && own.all (notOw ρ2)) := Eq.trans rfl rfl
theorem kLc3_tt (own : List Nat) (n : Nat) (ρ1 ρ2 : Rho) (r : List D) : kLc3 own n ρ1 ρ2 r true = eob (guardP (szOk n) (some (.list r))) (backR ρ1 ρ2 own) := Eq.trans rfl rfl
/-- a comprehension that changes nothing -/
theorem lc_st {own tg : List Nat} {isT : Bool} {ifs : CO} {elt : CE} {ρ : Rho} {ds : List D} (g : D → Option D) (hn : (own.all (notOw ρ)) = true)
    (h : ∀ d ∈ ds, ∀ ρ0, ∃ ρ', lcB cf tg isT ifs elt ρ0 d (wipeR ρ own) = .ok (g d) ρ' ∧ wipeR ρ' own = wipeR ρ own ∧ (own.all (notOw ρ')) = true) : kLc cf own tg isT ifs elt (.ok ds ρ) = eob (guardP (szOk ds.length) (some (.list (ds.filterMap g)))) ρ := by
  obtain ⟨ρ2, e1, e2, e3⟩ := lcLoop_st ds ρ rfl hn h
  rw [kLc_ok, e1, kLc2_ok, hn, e3, Bool.and_self, kLc3_tt, wipe_back e2]
def kB1 (ifs : CO) (elt : CE) (ρ0 : Rho) (o : Option Rho) : EO (Option D) := (eob o ρ0).bind fun ρ' _ => (evalT cf ifs ρ').bind fun k ρ' => if k = true then (evalE cf false elt ρ').bind fun x ρ' => .ok (some x) ρ' else .ok none ρ'
def kOne (elt : CE) (o : EO Bool) : EO (Option D) := o.bind fun k ρ' => if k = true then (evalE cf false elt ρ').bind fun x ρ' => .ok (some x) ρ' else .ok none ρ'
def kSm (o : EO D) : EO (Option D) := o.bind fun x ρ' => .ok (some x) ρ'
theorem lcB_k (tg : List Nat) (isT : Bool) (ifs : CO) (elt : CE) (ρ0 : Rho) (d : D) (ρw : Rho) : lcB cf tg isT ifs elt ρ0 d ρw = kB1 cf ifs elt ρ0 (setTg tg isT d ρw) := Eq.trans rfl rfl
theorem kB1_ok (ifs : CO) (elt : CE) (ρ0 ρ : Rho) : kB1 cf ifs elt ρ0 (some ρ) = kOne cf elt (evalT cf ifs ρ) := Eq.trans rfl rfl
theorem kOne_tt (elt : CE) (ρ : Rho) : kOne cf elt (.ok true ρ) = kSm (evalE cf false elt ρ) := Eq.trans rfl rfl
theorem kOne_ff (elt : CE) (ρ : Rho) : kOne cf elt (.ok false ρ) = .ok none ρ := Eq.trans rfl rfl
theorem kSm_ok (x : D) (ρ : Rho) : kSm (.ok x ρ) = .ok (some x) ρ := Eq.trans rfl rfl
end
/-! loops -/
def kF2 (set : D → Rho → Option Rho) (f : Rho → SO) (ds : List D) (o : SO) : SO := match o with
    | .next ρ2 => forS set f ds ρ2
    | .cont ρ2 => forS set f ds ρ2
    | .brk ρ2 => .next ρ2
    | o => o
def kF1 (set : D → Rho → Option Rho) (f : Rho → SO) (ds : List D) (o : Option Rho) : SO := match o with
  | some ρ1 => kF2 set f ds (f ρ1)
  | none => .bad
theorem forS_nil (set : D → Rho → Option Rho) (f : Rho → SO) (ρ : Rho) : forS set f [] ρ = .next ρ := Eq.trans rfl rfl
theorem forS_cons (set : D → Rho → Option Rho) (f : Rho → SO) (d : D) (ds : List D) (ρ : Rho) : forS set f (d :: ds) ρ = kF1 set f ds (set d ρ) := by
  simp only [forS, kF1]
  cases set d ρ with
  | none => rfl
  | some ρ1 => dsimp only; unfold kF2; cases f ρ1 <;> rfl
theorem kF1_ok (set : D → Rho → Option Rho) (f : Rho → SO) (ds : List D) (ρ : Rho) : kF1 set f ds (some ρ) = kF2 set f ds (f ρ) := Eq.trans rfl rfl
theorem kF2_next (set : D → Rho → Option Rho) (f : Rho → SO) (ds : List D) (ρ : Rho) : kF2 set f ds (.next ρ) = forS set f ds ρ := Eq.trans rfl rfl
theorem kF2_cont (set : D → Rho → Option Rho) (f : Rho → SO) (ds : List D) (ρ : Rho) : kF2 set f ds (.cont ρ) = forS set f ds ρ := Eq.trans rfl rfl
theorem kF2_brk (set : D → Rho → Option Rho) (f : Rho → SO) (ds : List D) (ρ : Rho) : kF2 set f ds (.brk ρ) = .next ρ := Eq.trans rfl rfl
theorem kF2_ret (set : D → Rho → Option Rho) (f : Rho → SO) (ds : List D) (d : D) (ρ : Rho) : kF2 set f ds (.ret d ρ) = .ret d ρ := Eq.trans rfl rfl
theorem kF2_exc (set : D → Rho → Option Rho) (f : Rho → SO) (ds : List D) (c : Str) (p : List D) (ρ : Rho) : kF2 set f ds (.exc c p ρ) = .exc c p ρ := Eq.trans rfl rfl
def kW2 (c : Rho → EO Bool) (f : Rho → SO) (n : Nat) (o : SO) : SO := match o with
      | .next ρ2 => whS c f n ρ2
      | .cont ρ2 => whS c f n ρ2
      | .brk ρ2 => .next ρ2
      | o => o
def kW1 (c : Rho → EO Bool) (f : Rho → SO) (n : Nat) (o : EO Bool) : SO := o.toS fun b ρ1 => if b = true then kW2 c f n (f ρ1) else .next ρ1
theorem whS_succ (c : Rho → EO Bool) (f : Rho → SO) (n : Nat) (ρ : Rho) : whS c f (n + 1) ρ = kW1 c f n (c ρ) := by
  simp only [whS, kW1]
  cases c ρ with
  | ok b ρ1 =>
    simp only [toS_ok]
    split
    · unfold kW2; cases f ρ1 <;> rfl
    · rfl
  | exc c p ρ1 => rfl
  | bad => rfl
theorem kW1_tt (c : Rho → EO Bool) (f : Rho → SO) (n : Nat) (ρ : Rho) : kW1 c f n (.ok true ρ) = kW2 c f n (f ρ) := Eq.trans rfl rfl
theorem kW1_ff (c : Rho → EO Bool) (f : Rho → SO) (n : Nat) (ρ : Rho) : kW1 c f n (.ok false ρ) = .next ρ := Eq.trans rfl rfl
theorem kW2_next (c : Rho → EO Bool) (f : Rho → SO) (n : Nat) (ρ : Rho) : kW2 c f n (.next ρ) = whS c f n ρ := Eq.trans rfl rfl
theorem kW2_cont (c : Rho → EO Bool) (f : Rho → SO) (n : Nat) (ρ : Rho) : kW2 c f n (.cont ρ) = whS c f n ρ := Eq.trans rfl rfl
theorem kW2_brk (c : Rho → EO Bool) (f : Rho → SO) (n : Nat) (ρ : Rho) : kW2 c f n (.brk ρ) = .next ρ := Eq.trans rfl rfl
theorem kW2_ret (c : Rho → EO Bool) (f : Rho → SO) (n : Nat) (d : D) (ρ : Rho) : kW2 c f n (.ret d ρ) = .ret d ρ := Eq.trans rfl rfl
/-! what is told at the end -/
theorem out_next (ks : List PKd) (ρ : Rho) : SO.out ks (.next ρ) = crO .none (outK ks ρ) := Eq.trans rfl rfl
theorem out_ret (ks : List PKd) (d : D) (ρ : Rho) : SO.out ks (.ret d ρ) = crO d (outK ks ρ) := Eq.trans rfl rfl
theorem out_exc (ks : List PKd) (c : Str) (p : List D) (ρ : Rho) : SO.out ks (.exc c p ρ) = crE c p (outK ks ρ) := Eq.trans rfl rfl
theorem crO_ok (d : D) (os : List D) : crO d (some os) = .ok d os := Eq.trans rfl rfl
theorem crE_ok (c : Str) (p : List D) (os : List D) : crE c p (some os) = .exc c p os := Eq.trans rfl rfl
theorem outK_no {ks : List PKd} (ρ : Rho) (h : ks.contains .s = false) : outK ks ρ = some [] := by unfold outK; rw [h]; rfl
theorem outK_s {ks : List PKd} (ρ : Rho) (h : ks.contains .s = true) : outK ks ρ = outsR ks 0 ρ := by unfold outK; rw [h]; rfl
def kOs (ks : List PKd) (i : Nat) (ρ : Rho) (o : Option D) : Option (List D) := o.bind fun d => (outsR ks (i + 1) ρ).map (d :: ·)
theorem outs_nil (i : Nat) (ρ : Rho) : outsR [] i ρ = some [] := Eq.trans rfl rfl
theorem outs_a (ks : List PKd) (i : Nat) (ρ : Rho) : outsR (.a :: ks) i ρ = kFl .none (outsR ks (i + 1) ρ) := Eq.trans rfl rfl
theorem outs_p (ks : List PKd) (i : Nat) (ρ : Rho) : outsR (.p :: ks) i ρ = kFl .none (outsR ks (i + 1) ρ) := Eq.trans rfl rfl
theorem outs_s (ks : List PKd) (i : Nat) (ρ : Rho) : outsR (.s :: ks) i ρ = kOs ks i ρ (slotD ρ[i]?) := Eq.trans rfl rfl
theorem kOs_ok (ks : List PKd) (i : Nat) (ρ : Rho) (d : D) : kOs ks i ρ (some d) = kFl d (outsR ks (i + 1) ρ) := Eq.trans rfl rfl
theorem cf1_ok {cf : Str → List D → CR} {f : Str} {ds : List D} {d : D} (h : cf f ds = .ok d []) : cf1 cf f ds = .ok d := by unfold cf1; rw [h]
/-! dicts -/
theorem ix_dict (kvs : List (D × D)) (k : D) : ixD (.dict kvs) k = guardP (keyFit kvs k) (getN kvs (nkOf k)) := by cases k <;> exact Eq.trans rfl rfl
theorem in_dict (kvs : List (D × D)) (x : D) : inD x (.dict kvs) = guardP (keyFit kvs x) (some (getN kvs (nkOf x)).isSome) := by cases x <;> exact Eq.trans rfl rfl
theorem dict_of (kvs : List (D × D)) : biD "dict" [.dict kvs] = guardP (kdS kvs) (some (.dict kvs)) := Eq.trans rfl rfl
theorem bq_tupl (xs : List D) : biD "tuple" [.list xs] = some (.tuple xs) := Eq.trans rfl rfl
theorem bq_tupt (xs : List D) : biD "tuple" [.tuple xs] = some (.tuple xs) := Eq.trans rfl rfl
theorem bq_lisl (xs : List D) : biD "list" [.list xs] = some (.list xs) := Eq.trans rfl rfl
theorem bq_list (xs : List D) : biD "list" [.tuple xs] = some (.list xs) := Eq.trans rfl rfl
theorem bq_inti (i : Int) : biD "int" [.int i] = some (.int i) := Eq.trans rfl rfl
theorem bq_min (i j : Int) : biD "min" [.int i, .int j] = some (.int (if j < i then j else i)) := Eq.trans rfl rfl
theorem bq_max (i j : Int) : biD "max" [.int i, .int j] = some (.int (if j > i then j else i)) := Eq.trans rfl rfl
theorem bq_sort (xs : List D) : biD "sorted" [.list xs] = guardP (srtOk xs) (some (.list (srtK xs xs))) := Eq.trans rfl rfl
theorem slc_list (xs : List D) (lo hi : Option Int) : slcD (.list xs) lo hi = some (.list (cutD xs lo hi)) := Eq.trans rfl rfl
theorem slc_tup (xs : List D) (lo hi : Option Int) : slcD (.tuple xs) lo hi = some (.tuple (cutD xs lo hi)) := Eq.trans rfl rfl
theorem get_2 (kvs : List (D × D)) (k x : D) : getM kvs [k, x] = guardP (keyFit kvs k) (some ((getN kvs (nkOf k)).getD x)) := Eq.trans rfl rfl
theorem get_1 (kvs : List (D × D)) (k : D) : getM kvs [k] = guardP (keyFit kvs k) (some ((getN kvs (nkOf k)).getD .none)) := Eq.trans rfl rfl
theorem zip_tup (xs ys : List D) : zipD (.tuple xs) (.tuple ys) = some (List.zipWith (fun x y => .tuple [x, y]) xs ys) := Eq.trans rfl rfl
theorem zip_list (xs ys : List D) : zipD (.list xs) (.list ys) = some (List.zipWith (fun x y => .tuple [x, y]) xs ys) := Eq.trans rfl rfl
theorem items_dict (kvs : List (D × D)) : itemsD (.dict kvs) = some (kvs.map Prod.fst) := Eq.trans rfl rfl
theorem cmp_eq_dct (a b : List (D × D)) : cmpD .Eq (.dict a) (.dict b) = guardP ((kdS a && kdS b) && ((a.all fun p => flat p.2) && (b.all fun p => flat p.2))) (some (eqDc a b)) := Eq.trans rfl rfl
theorem cmp_ne_dct (a b : List (D × D)) : cmpD .NotEq (.dict a) (.dict b) = (guardP ((kdS a && kdS b) && ((a.all fun p => flat p.2) && (b.all fun p => flat p.2))) (some (eqDc a b))).map (!·) := Eq.trans rfl rfl
end DI
set_option Elab.async false
set_option linter.all false
set_option maxRecDepth 100000
set_option maxHeartbeats 4000000
/-! plain facts: simple data, order, sorting -/
namespace DI
open PySem PySem.Spec PyProof.Rows L2
mutual
/-- texts, whole numbers, tuples and lists of these -/
def smp : D → Bool
  | .int _ => true
  | .str _ => true
  | .tuple ds => smps ds
  | .list ds => smps ds
  | _ => false
def smps : List D → Bool
  | [] => true
  | d :: ds => smp d && smps ds
end
mutual
theorem eqv_smp : ∀ (d e : D), smp d = true → smp e = true → PyData.eqv d e = true → d = e
  | .int i, .int j, _, _, h => by
    simp [PyData.eqv] at h
    rw [h]
  | .str x, .str y, _, _, h => by
    simp [PyData.eqv] at h
    rw [h]
  | .tuple ds, .tuple es, h1, h2, h => by
    rw [eqv_smps ds es (by simpa [smp] using h1) (by simpa [smp] using h2) (by simpa [PyData.eqv] using h)]
  | .list ds, .list es, h1, h2, h => by
    rw [eqv_smps ds es (by simpa [smp] using h1) (by simpa [smp] using h2) (by simpa [PyData.eqv] using h)]
  | .int _, .str _, _, _, h => by simp [PyData.eqv] at h
  | .int _, .tuple _, _, _, h => by simp [PyData.eqv] at h
  | .int _, .list _, _, _, h => by simp [PyData.eqv] at h
  | .str _, .int _, _, _, h => by simp [PyData.eqv] at h
  | .str _, .tuple _, _, _, h => by simp [PyData.eqv] at h
  | .str _, .list _, _, _, h => by simp [PyData.eqv] at h
  | .tuple _, .int _, _, _, h => by simp [PyData.eqv] at h
  | .tuple _, .str _, _, _, h => by simp [PyData.eqv] at h
  | .tuple _, .list _, _, _, h => by simp [PyData.eqv] at h
  | .list _, .int _, _, _, h => by simp [PyData.eqv] at h
  | .list _, .str _, _, _, h => by simp [PyData.eqv] at h
  | .list _, .tuple _, _, _, h => by simp [PyData.eqv] at h
  | .none, _, h1, _, _ => by simp [smp] at h1
  | .bool _, _, h1, _, _ => by simp [smp] at h1
  | .dict _, _, h1, _, _ => by simp [smp] at h1
  | _, .none, _, h2, _ => by simp [smp] at h2
  | _, .bool _, _, h2, _ => by simp [smp] at h2
  | _, .dict _, _, h2, _ => by simp [smp] at h2
theorem eqv_smps : ∀ (ds es : List D), smps ds = true → smps es = true → PyData.eqvAll ds es = true → ds = es
  | [], [], _, _, _ => rfl
  | d :: ds, e :: es, h1, h2, h => by
    simp only [smps, Bool.and_eq_true] at h1 h2
    simp only [PyData.eqvAll, Bool.and_eq_true] at h
    rw [eqv_smp d e h1.1 h2.1 h.1, eqv_smps ds es h1.2 h2.2 h.2]
  | [], _ :: _, _, _, h => by simp [PyData.eqvAll] at h
  | _ :: _, [], _, _, h => by simp [PyData.eqvAll] at h
end
mutual
theorem eqv_rfl : ∀ (d : D), smp d = true → PyData.eqv d d = true
  | .int i, _ => by simp [PyData.eqv]
  | .str x, _ => by simp [PyData.eqv]
  | .tuple ds, h => by simp only [PyData.eqv]; exact eqv_rfls ds (by simpa [smp] using h)
  | .list ds, h => by simp only [PyData.eqv]; exact eqv_rfls ds (by simpa [smp] using h)
  | .none, h => by simp [smp] at h
  | .bool _, h => by simp [smp] at h
  | .dict _, h => by simp [smp] at h
theorem eqv_rfls : ∀ (ds : List D), smps ds = true → PyData.eqvAll ds ds = true
  | [], _ => by simp [PyData.eqvAll]
  | d :: ds, h => by
    simp only [smps, Bool.and_eq_true] at h
    simp only [PyData.eqvAll, Bool.and_eq_true]
    exact ⟨eqv_rfl d h.1, eqv_rfls ds h.2⟩
end
theorem eqv_iff {d e : D} (h1 : smp d = true) (h2 : smp e = true) : PyData.eqv d e = true ↔ d = e := ⟨eqv_smp d e h1 h2, fun h => by subst h; exact eqv_rfl d h1⟩
mutual
theorem plain_smp : ∀ (d : D), smp d = true → d.plain = true
  | .int i, _ => rfl
  | .str x, _ => rfl
  | .tuple ds, h => by simp only [PyData.plain]; exact plain_smps ds (by simpa [smp] using h)
  | .list ds, h => by simp only [PyData.plain]; exact plain_smps ds (by simpa [smp] using h)
  | .none, h => by simp [smp] at h
  | .bool _, h => by simp [smp] at h
  | .dict _, h => by simp [smp] at h
theorem plain_smps : ∀ (ds : List D), smps ds = true → PyData.plainAll ds = true
  | [], _ => rfl
  | d :: ds, h => by
    simp only [smps, Bool.and_eq_true] at h
    simp only [PyData.plainAll, Bool.and_eq_true]
    exact ⟨plain_smp d h.1, plain_smps ds h.2⟩
end
theorem smps_all {ds : List D} : smps ds = true ↔ ∀ d ∈ ds, smp d = true := by
  induction ds with
  | nil => simp [smps]
  | cons d ds ih => simp [smps, ih]
theorem depth_all {ds : List D} {n : Nat} (h : ∀ d ∈ ds, d.depth ≤ n) : PyData.depthAll ds ≤ n := by
  induction ds with
  | nil => simp [PyData.depthAll]
  | cons d ds ih =>
    simp only [PyData.depthAll]
    exact Nat.max_le.mpr ⟨h d List.mem_cons_self, ih fun e he => h e (List.mem_cons_of_mem _ he)⟩
theorem shp_smp {d : D} (h : smp d = true) (hd : d.depth ≤ 60) : shp d = true := by
  unfold shp
  rw [plain_smp d h]
  simpa using hd
/-! order -/
theorem dlt_irr (x : D) : PySem.W.dataLt x x = false := PyProof.Rows.lex_irrefl _
theorem dlt_eqv {x y : D} (h : PySem.W.alike x y = true) (h1 : PySem.W.dataLt x y = false) (h2 : PySem.W.dataLt y x = false) : PyData.eqv x y = true := by
  have e := PyProof.Rows.lex_total _ _ h1 h2
  cases q : PyData.eqv x y with
  | true => rfl
  | false =>
    have z := (PySem.W.toks_eqv x y h).2 q [] [.inl 0]
    rw [e, PySem.W.lex_pre] at z
    have z2 := PyProof.Rows.lex_irrefl (O := PyProof.Rows.itemOrd) (PySem.W.keyToks y)
    rw [z2] at z
    cases z
theorem dlt_asy {x y : D} (h : PySem.W.dataLt x y = true) : PySem.W.dataLt y x = false := by
  cases q : PySem.W.dataLt y x with
  | false => rfl
  | true =>
    have := PyProof.Rows.lex_trans _ _ _ h q
    rw [PyProof.Rows.lex_irrefl] at this
    cases this
theorem srtK_map (xs : List D) (k : D → D) : srtK xs (xs.map k) = xs.mergeSort (PySem.W.dataLe false k) := by
  unfold srtK
  have e : xs.zip (xs.map k) = xs.map fun x => (x, k x) := by
    induction xs with
    | nil => rfl
    | cons x xs ih => simp [ih]
  rw [e, ← List.map_mergeSort (r := PySem.W.dataLe false k) (s := PySem.W.dataLe false Prod.snd) (f := fun x => (x, k x)) (fun a _ b _ => rfl), List.map_map]
  exact List.map_id _
theorem srt_perm (xs : List D) (k : D → D) : (srtK xs (xs.map k)).Perm xs := by rw [srtK_map]; exact List.mergeSort_perm _ _
theorem srt_pair (xs : List D) (k : D → D) : (srtK xs (xs.map k)).Pairwise fun a b => PySem.W.dataLt (k b) (k a) = false := by
  rw [srtK_map]
  have T := PySem.W.sortLe_total (PyProof.Rows.listOrd PyProof.Rows.itemOrd) false (fun b : D => PySem.W.keyToks (k b))
  have h := List.pairwise_mergeSort (le := PySem.W.dataLe false k) (fun a b c h1 h2 => T.trans a b c h1 h2) (fun a b => by rw [Bool.or_eq_true]; exact T.total a b) xs
  refine h.imp fun {a b} q => ?_
  have q' : (!PySem.W.dataLt (k b) (k a)) = true := q
  simpa using q'
/-- the sorted list is one, where no two items have the same key -/
theorem srt_one {xs ys : List D} (k : D → D) (p : xs.Perm ys) (inj : ∀ a ∈ xs, ∀ b ∈ xs, PySem.W.dataLt (k a) (k b) = false → PySem.W.dataLt (k b) (k a) = false → a = b) : srtK xs (xs.map k) = srtK ys (ys.map k) :=
  List.Perm.eq_of_pairwise (le := fun a b => PySem.W.dataLt (k b) (k a) = false) (fun a b ha hb h1 h2 => inj a ((srt_perm xs k).mem_iff.mp ha) b (p.mem_iff.mpr ((srt_perm ys k).mem_iff.mp hb)) h2 h1) (srt_pair xs k) (srt_pair ys k)
    (((srt_perm xs k).trans p).trans (srt_perm ys k).symm)
theorem mapD_map {f : List D → Out D} {g : D → D} : ∀ (ds : List D), (∀ d ∈ ds, f [d] = .ok (g d)) → mapD f ds = .ok (ds.map g)
  | [], _ => rfl
  | d :: ds, h => by
    simp only [mapD, h d List.mem_cons_self, mapD_map ds fun e he => h e (List.mem_cons_of_mem _ he), bind_ok, List.map_cons]
end DI
set_option Elab.async false
set_option linter.all false
set_option maxHeartbeats 4000000
/-! dicts, plainly -/
namespace DI
open PySem PySem.Spec PyProof.Rows L2
/-- a number or a text -/
def isAt : D → Bool
  | .int _ => true
  | .str _ => true
  | _ => false
theorem smp_at {d : D} (h : isAt d = true) : smp d = true := by cases d <;> first | rfl | cases h
theorem dep_at {d : D} (h : isAt d = true) : d.depth = 0 := by cases d <;> first | rfl | cases h
theorem flat_at {d : D} (h : isAt d = true) : flat d = true := by cases d <;> first | rfl | cases h
theorem key_at {d : D} (h : isAt d = true) : (keyS d).isSome = true := by cases d <;> first | rfl | cases h
theorem at_key {d : D} (h : (keyS d).isSome = true) : isAt d = true := by cases d <;> first | rfl | cases h
theorem shp_at {d : D} (h : isAt d = true) : shp d = true := shp_smp (smp_at h) (by rw [dep_at h]; decide)
theorem smps_at {ds : List D} (h : ∀ d ∈ ds, isAt d = true) : smps ds = true := smps_all.mpr fun d hd => smp_at (h d hd)
theorem shp_ats {ds : List D} (h : ∀ d ∈ ds, isAt d = true) : shp (.list ds) = true := shp_smp (d := .list ds) (smps_at h) (by
  have := depth_all (ds := ds) (n := 0) fun d hd => by rw [dep_at (h d hd)]; exact Nat.le_refl _
  show PyData.depthAll ds + 1 ≤ 60
  omega)
theorem shp_att {ds : List D} (h : ∀ d ∈ ds, isAt d = true) : shp (.tuple ds) = true := shp_smp (d := .tuple ds) (smps_at h) (by
  have := depth_all (ds := ds) (n := 0) fun d hd => by rw [dep_at (h d hd)]; exact Nat.le_refl _
  show PyData.depthAll ds + 1 ≤ 60
  omega)
theorem nk_at {x y : D} (hx : isAt x = true) (hy : isAt y = true) (h : nkOf x = nkOf y) : x = y := by
  cases x <;> first | cases hx | skip
  all_goals cases y <;> first | cases hy | skip
  all_goals simp only [nkOf] at h
  all_goals first | cases h | skip
  all_goals rfl
theorem eqv_at {x y : D} (hx : isAt x = true) (hy : isAt y = true) : PyData.eqv x y = true ↔ x = y := eqv_iff (smp_at hx) (smp_at hy)
theorem eqv_no {x y : D} (hx : isAt x = true) (hy : isAt y = true) (h : x ≠ y) : PyData.eqv x y = false := by
  cases e : PyData.eqv x y with
  | false => rfl
  | true => exact absurd ((eqv_at hx hy).mp e) h
theorem eqD_nd {x y : D} (h : ∀ kvs, x ≠ .dict kvs) (hx : shp x = true) (hy : shp y = true) : eqD x y = some (PyData.eqv x y) := by
  have g : (shp x && shp y) = true := by rw [hx, hy]; rfl
  unfold eqD
  split
  · rw [if_pos g]
  · exact absurd rfl (h _)
  · rw [g]; rfl
theorem at_nd {x : D} (h : isAt x = true) : ∀ kvs, x ≠ .dict kvs := fun kvs e => by rw [e] at h; cases h
theorem cmp_eq_at {x y : D} (hx : isAt x = true) (hy : isAt y = true) : cmpD .Eq x y = some (PyData.eqv x y) := by
  show eqD x y = _
  rw [eqD_nd (at_nd hx) (shp_at hx) (shp_at hy)]
theorem cmp_ne_at {x y : D} (hx : isAt x = true) (hy : isAt y = true) : cmpD .NotEq x y = some (!PyData.eqv x y) := by
  show (eqD x y).map _ = _
  rw [eqD_nd (at_nd hx) (shp_at hx) (shp_at hy)]
  rfl
theorem cmp_eq_smp {x y : D} (hx : smp x = true) (hy : smp y = true) (dx : x.depth ≤ 60) (dy : y.depth ≤ 60) : cmpD .Eq x y = some (PyData.eqv x y) := by
  show eqD x y = _
  rw [eqD_nd (fun kvs e => by rw [e] at hx; cases hx) (shp_smp hx dx) (shp_smp hy dy)]
theorem cmp_ne_smp {x y : D} (hx : smp x = true) (hy : smp y = true) (dx : x.depth ≤ 60) (dy : y.depth ≤ 60) : cmpD .NotEq x y = some (!PyData.eqv x y) := by
  show (eqD x y).map _ = _
  rw [eqD_nd (fun kvs e => by rw [e] at hx; cases hx) (shp_smp hx dx) (shp_smp hy dy)]
  rfl
/-! lookups -/
theorem getN_cons (p : D × D) (w : List (D × D)) (n : NestedKey) : getN (p :: w) n = if nkOf p.1 = n then some p.2 else getN w n := by
  unfold getN
  rw [List.find?_cons]
  by_cases h : nkOf p.1 = n <;> simp [h]
theorem getN_some {w : List (D × D)} {n : NestedKey} : (getN w n).isSome = true ↔ n ∈ nks w := by
  induction w with
  | nil => simp [getN, nks]
  | cons p w ih =>
    rw [getN_cons]
    by_cases h : nkOf p.1 = n
    · simp [h, nks]
    · rw [if_neg h, ih]
      simp only [nks, List.map_cons, List.mem_cons]
      constructor
      · exact .inr
      · rintro (e | e)
        · exact absurd e.symm h
        · exact e
theorem getN_none {w : List (D × D)} {n : NestedKey} (h : n ∉ nks w) : getN w n = none := by
  cases e : getN w n with
  | none => rfl
  | some v => exact absurd (getN_some.mp (by rw [e]; rfl)) h
theorem getN_mem {w : List (D × D)} {n : NestedKey} {v : D} (h : getN w n = some v) : ∃ p ∈ w, nkOf p.1 = n ∧ p.2 = v := by
  unfold getN at h
  obtain ⟨p, h1, h2⟩ := Option.map_eq_some_iff.mp h
  exact ⟨p, List.mem_of_find?_eq_some h1, by simpa using List.find?_some h1, h2⟩
theorem getN_app (w w' : List (D × D)) (n : NestedKey) : getN (w ++ w') n = (getN w n).or (getN w' n) := by
  unfold getN
  rw [List.find?_append]
  cases w.find? fun p => decide (nkOf p.1 = n) <;> rfl
theorem any_nks {w : List (D × D)} {k : D} : (w.any fun p => decide (nkOf p.1 = nkOf k)) = true ↔ nkOf k ∈ nks w := by
  simp [nks, List.any_eq_true]
theorem nks_map (w : List (D × D)) (k v : D) : nks (w.map fun p => if nkOf p.1 = nkOf k then (p.1, v) else p) = nks w := by
  unfold nks
  rw [List.map_map]
  refine List.map_congr_left fun p _ => ?_
  show nkOf (if nkOf p.1 = nkOf k then (p.1, v) else p).1 = _
  split <;> rfl
theorem nks_put (w : List (D × D)) (k v : D) : nks (putN w k v) = if nkOf k ∈ nks w then nks w else nks w ++ [nkOf k] := by
  unfold putN
  by_cases h : nkOf k ∈ nks w
  · rw [if_pos (any_nks.mpr h), if_pos h, nks_map]
  · rw [if_neg fun z => h (any_nks.mp z), if_neg h]
    simp [nks]
theorem getN_mapk (w : List (D × D)) (k v : D) (n : NestedKey) : getN (w.map fun p => if nkOf p.1 = nkOf k then (p.1, v) else p) n = if nkOf k = n ∧ n ∈ nks w then some v else getN w n := by
  induction w with
  | nil => simp [getN, nks]
  | cons p w ih =>
    rw [List.map_cons, getN_cons, ih, getN_cons]
    by_cases hp : nkOf p.1 = nkOf k
    · simp only [hp, if_true]
      by_cases hn : nkOf k = n
      · simp [hn, nks, hp]
      · simp [hn]
    · simp only [hp, if_false]
      by_cases hn : nkOf p.1 = n
      · have : nkOf k ≠ n := fun z => hp (by rw [hn, z])
        simp [hn, this]
      · rw [if_neg hn, if_neg hn]
        have : n ∈ nks (p :: w) ↔ n ∈ nks w := by
          simp only [nks, List.map_cons, List.mem_cons]
          constructor
          · rintro (e | e)
            · exact absurd e.symm hn
            · exact e
          · exact .inr
        simp only [this]
theorem getN_put (w : List (D × D)) (k v : D) (n : NestedKey) : getN (putN w k v) n = if nkOf k = n then some v else getN w n := by
  unfold putN
  by_cases h : nkOf k ∈ nks w
  · rw [if_pos (any_nks.mpr h), getN_mapk]
    by_cases hn : nkOf k = n
    · subst hn
      simp [h]
    · simp [hn]
  · rw [if_neg fun z => h (any_nks.mp z), getN_app, getN_cons]
    by_cases hn : nkOf k = n
    · subst hn
      rw [getN_none h]
      simp
    · simp only [hn, if_false]
      cases getN w n <;> rfl
theorem put_len (w : List (D × D)) (k v : D) : (putN w k v).length ≤ w.length + 1 := by
  unfold putN
  split <;> simp
theorem put_mem {w : List (D × D)} {k v : D} {p : D × D} (h : p ∈ putN w k v) : (∃ q ∈ w, p.1 = q.1 ∧ (p = q ∨ p.2 = v)) ∨ p = (k, v) := by
  unfold putN at h
  split at h
  · rw [List.mem_map] at h
    obtain ⟨q, hq, rfl⟩ := h
    refine .inl ⟨q, hq, ?_⟩
    split
    · exact ⟨rfl, .inr rfl⟩
    · exact ⟨rfl, .inl rfl⟩
  · rw [List.mem_append, List.mem_singleton] at h
    rcases h with h | h
    · exact .inl ⟨p, h, rfl, .inl rfl⟩
    · exact .inr h
/-- keys that are numbers or texts -/
structure SDc (w : List (D × D)) : Prop where
  key : kdS w = true
  nd : (nks w).Nodup
theorem SDc.nil : SDc [] := ⟨rfl, by simp [nks]⟩
theorem SDc.at {w : List (D × D)} (h : SDc w) : ∀ p ∈ w, isAt p.1 = true := fun p hp => by
  have := h.key
  unfold kdS at this
  rw [List.all_eq_true] at this
  exact at_key (this p hp)
theorem SDc.of {w : List (D × D)} (h : ∀ p ∈ w, isAt p.1 = true) (hn : (nks w).Nodup) : SDc w := ⟨by
  unfold kdS
  rw [List.all_eq_true]
  exact fun p hp => key_at (h p hp), hn⟩
theorem SDc.put {w : List (D × D)} (h : SDc w) {k v : D} (hk : isAt k = true) : SDc (putN w k v) := by
  refine .of (fun p hp => ?_) ?_
  · rcases put_mem hp with ⟨q, hq, e, _⟩ | rfl
    · rw [e]
      exact h.at q hq
    · exact hk
  · rw [nks_put]
    split
    · exact h.nd
    · rename_i hn
      rw [List.nodup_append]
      refine ⟨h.nd, by simp, fun a ha b hb => ?_⟩
      rw [List.mem_singleton] at hb
      subst hb
      exact fun e => hn (e ▸ ha)
theorem SDc.dOk {w : List (D × D)} (h : SDc w) (hl : w.length ≤ 1000) : dOk w = true := by
  unfold DI.dOk
  rw [h.key, Bool.true_or, Bool.true_and, decide_eq_true h.nd, decide_eq_true (show w.length ≤ 16777216 by omega)]
  rfl
theorem SDc.fit {w : List (D × D)} (h : SDc w) {k : D} (hk : isAt k = true) : keyFit w k = true := by
  unfold keyFit
  rw [key_at hk, h.key]
  rfl
theorem put_same {w : List (D × D)} (hn : (nks w).Nodup) {k v : D} (h : getN w (nkOf k) = some v) : putN w k v = w := by
  have hm : nkOf k ∈ nks w := getN_some.mp (by rw [h]; rfl)
  unfold putN
  rw [if_pos (any_nks.mpr hm)]
  refine (List.map_congr_left fun p hp => ?_).trans (List.map_id w)
  split
  · rename_i e
    obtain ⟨i, hi⟩ := List.getElem?_of_mem hp
    have := find_mapped hn (k := p.1) (d := p.2) hi e
    rw [h] at this
    cases this
    rfl
  · rfl
theorem eqDc_rfl {w : List (D × D)} (hn : (nks w).Nodup) (hv : ∀ p ∈ w, smp p.2 = true) : eqDc w w = true := by
  unfold eqDc
  rw [beq_self_eq_true, Bool.true_and, List.all_eq_true]
  intro p hp
  obtain ⟨i, hi⟩ := List.getElem?_of_mem hp
  rw [find_mapped hn (k := p.1) (d := p.2) hi rfl]
  exact eqv_rfl _ (hv p hp)
/-- `==` of two dicts of numbers and texts -/
theorem cmp_eq_sd {a b : List (D × D)} (ha : SDc a) (hb : SDc b) (va : ∀ p ∈ a, isAt p.2 = true) (vb : ∀ p ∈ b, isAt p.2 = true) : cmpD .Eq (.dict a) (.dict b) = some (eqDc a b) := by
  rw [cmp_eq_dct, ha.key, hb.key, List.all_eq_true.mpr fun p hp => flat_at (va p hp), List.all_eq_true.mpr fun p hp => flat_at (vb p hp)]
  rfl
theorem cmp_ne_sd {a b : List (D × D)} (ha : SDc a) (hb : SDc b) (va : ∀ p ∈ a, isAt p.2 = true) (vb : ∀ p ∈ b, isAt p.2 = true) : cmpD .NotEq (.dict a) (.dict b) = some (!eqDc a b) := by
  rw [cmp_ne_dct, ha.key, hb.key, List.all_eq_true.mpr fun p hp => flat_at (va p hp), List.all_eq_true.mpr fun p hp => flat_at (vb p hp)]
  rfl
/-! nested data -/
/-- texts, numbers, tuples and lists of these; lists of good ones; dicts of good ones -/
def gd : Nat → D → Prop
  | 0, d => smp d = true ∧ d.depth ≤ 60
  | n + 1, d => (smp d = true ∧ d.depth ≤ 60) ∨ (∃ xs, d = .list xs ∧ ∀ x ∈ xs, gd n x) ∨ ∃ w, d = .dict w ∧ SDc w ∧ ∀ p ∈ w, gd n p.2
theorem allO_all {l : List (Option Bool)} (h : ∀ x ∈ l, x = some true) : allO l = some true := by
  induction l with
  | nil => rfl
  | cons x l ih =>
    rw [h x List.mem_cons_self]
    simp only [allO]
    rw [ih fun y hy => h y (List.mem_cons_of_mem _ hy)]
    rfl
theorem shp_dict (w : List (D × D)) : shp (.dict w) = false := rfl
theorem zip_self {f : D → D → Option Bool} {xs : List D} (h : ∀ x ∈ xs, f x x = some true) : ∀ o ∈ List.zipWith f xs xs, o = some true := by
  intro o ho
  obtain ⟨i, hi⟩ := List.getElem?_of_mem ho
  rw [List.getElem?_zipWith] at hi
  cases hx : xs[i]? with
  | none => rw [hx] at hi; cases hi
  | some x =>
    rw [hx] at hi
    cases hi
    exact h x (List.mem_of_getElem? hx)
theorem eqN_rfl : ∀ (n : Nat) (d : D), gd n d → eqN n d d = some true
  | 0, d, ⟨h1, h2⟩ => by
    simp only [eqN]
    rw [shp_smp h1 h2, eqv_rfl d h1]
    rfl
  | n + 1, d, h => by
    simp only [eqN]
    by_cases hs : (shp d && shp d) = true
    · rw [if_pos hs]
      rw [Bool.and_self] at hs
      rw [PySem.SeqAt.eqv_refl_plain d (shp_plain hs)]
    · rw [if_neg hs]
      rcases h with ⟨h1, h2⟩ | ⟨xs, rfl, h⟩ | ⟨w, rfl, h, hv⟩
      · rw [shp_smp h1 h2] at hs; exact absurd rfl hs
      · dsimp only
        rw [if_pos rfl, allO_all (zip_self fun x hx => eqN_rfl n x (h x hx))]
      · dsimp only
        rw [h.key, Bool.and_self, if_pos rfl, allO_all, Option.map_some, beq_self_eq_true]
        · rfl
        · intro o ho
          obtain ⟨p, hp, rfl⟩ := List.mem_map.mp ho
          obtain ⟨i, hi⟩ := List.getElem?_of_mem hp
          rw [place_get h.nd (n := i) (k := p.1) (d := p.2) hi]
          exact eqN_rfl n p.2 (hv p hp)
theorem cmp_list_self {xs : List D} (h : ∀ x ∈ xs, gd 6 x) : cmpD .Eq (.list xs) (.list xs) = some true ∧ cmpD .NotEq (.list xs) (.list xs) = some false := by
  have e : eqD (.list xs) (.list xs) = some true := by
    unfold eqD
    dsimp only
    by_cases hs : (shp (.list xs) && shp (.list xs)) = true
    · rw [if_pos hs]
      rw [Bool.and_self] at hs
      rw [PySem.SeqAt.eqv_refl_plain _ (shp_plain hs)]
    · rw [if_neg hs, if_pos rfl, allO_all (zip_self fun x hx => eqN_rfl 6 x (h x hx))]
  exact ⟨e, by show (eqD _ _).map _ = _; rw [e]; rfl⟩
theorem ne_tup_self {ps : List D} (h : ∀ p ∈ ps, isAt p = true) : cmpD .NotEq (.tuple ps) (.tuple ps) = some false := by
  rw [cmp_ne_smp (x := .tuple ps) (y := .tuple ps) (smps_at h) (smps_at h) (shp_depth (shp_att h)) (shp_depth (shp_att h)), eqv_rfl (.tuple ps) (smps_at h)]
  rfl
end DI
set_option Elab.async false
set_option linter.all false
set_option maxRecDepth 100000
set_option maxHeartbeats 4000000
/-! the defs of the text, as the small language has them (printed by gen.py) -/
namespace DI
open PySem PySem.Spec PyProof.Rows L2
def topS (i : Nat) : Stmt := PySem.Challenge.pw_reason_k12_holds.main.body.getD i (.Pass ⟨0, 0, 0, 0⟩)
def GIv : GI := ⟨[], [(Str.ofString "replaced_by", false, [.a, .p]), (Str.ofString "index_of", false, [.a]), (Str.ofString "there_are", false, [.a, .a, .a]), (Str.ofString "stands_by", false, [.a, .a, .a]), (Str.ofString "holds_by", false, [.a, .a, .a]), (Str.ofString "_law_cell", false, [.a, .a]), (Str.ofString "_law_stream", true, [.a, .a]), (Str.ofString "_law_names", true, [.a, .a]), (Str.ofString "_law_constants", true, [.a, .a]), (Str.ofString "_law_variables", true, [.a]), (Str.ofString "_law_all", false, [.a, .a]), (Str.ofString "_law_facts", true, [.a, .a, .a, .a]), (Str.ofString "_law_term", false, [.a, .p, .a]), (Str.ofString "_law_literal", false, [.s, .a, .s]), (Str.ofString "_law_body", false, [.s, .a, .a]), (Str.ofString "_law_terms", false, [.a]), (Str.ofString "_law_stands", false, [.a, .a, .a]), (Str.ofString "_law_known", false, [.a, .a]), (Str.ofString "_law_binding", true, [.a, .a, .a, .a]), (Str.ofString "law", false, [.a])], ["len", "list", "tuple", "int", "min", "max", "bool", "dict", "isinstance", "range", "zip"]⟩
def ps_replaced_by : List Str := [Str.ofString "terms", Str.ofString "binding"]
def nn_replaced_by : List Str := [Str.ofString "terms", Str.ofString "binding", Str.ofString "term"]
def ps_index_of : List Str := [Str.ofString "facts"]
def nn_index_of : List Str := [Str.ofString "facts", Str.ofString "index", Str.ofString "predicate", Str.ofString "places"]
def ps_there_are : List Str := [Str.ofString "index", Str.ofString "predicate", Str.ofString "many"]
def nn_there_are : List Str := [Str.ofString "index", Str.ofString "predicate", Str.ofString "many"]
def ps_stands_by : List Str := [Str.ofString "literal", Str.ofString "binding", Str.ofString "index"]
def nn_stands_by : List Str := [Str.ofString "literal", Str.ofString "binding", Str.ofString "index", Str.ofString "there", Str.ofString "one", Str.ofString "other"]
def ps_holds_by : List Str := [Str.ofString "body", Str.ofString "binding", Str.ofString "facts"]
def nn_holds_by : List Str := [Str.ofString "body", Str.ofString "binding", Str.ofString "facts", Str.ofString "index", Str.ofString "literal"]
def ps__law_cell : List Str := [Str.ofString "_law_script", Str.ofString "_law_k"]
def nn__law_cell : List Str := [Str.ofString "_law_script", Str.ofString "_law_k", Str.ofString "_law_number"]
def ps__law_stream : List Str := [Str.ofString "_law_cell_here", Str.ofString "_law_many"]
def nn__law_stream : List Str := [Str.ofString "_law_cell_here", Str.ofString "_law_many", Str.ofString "_law_xs", Str.ofString "_law_number", Str.ofString "_law_k"]
def ps__law_names : List Str := [Str.ofString "_law_cell_here", Str.ofString "_law_many"]
def nn__law_names : List Str := [Str.ofString "_law_cell_here", Str.ofString "_law_many", Str.ofString "_law_some", Str.ofString "_law_size", Str.ofString "_law_at", Str.ofString "_law_base", Str.ofString "_law_x", Str.ofString "_law_names_here", Str.ofString "_law_k", Str.ofString "_law_name", Str.ofString "_law_j"]
def ps__law_constants : List Str := [Str.ofString "_law_cell_here", Str.ofString "_law_many"]
def nn__law_constants : List Str := [Str.ofString "_law_cell_here", Str.ofString "_law_many", Str.ofString "_law_names_here", Str.ofString "_law_some", Str.ofString "_law_k", Str.ofString "_law_way", Str.ofString "_law_one"]
def ps__law_variables : List Str := [Str.ofString "_law_cell_here"]
def nn__law_variables : List Str := [Str.ofString "_law_cell_here", Str.ofString "_law_great", Str.ofString "_law_some", Str.ofString "_law_size", Str.ofString "_law_at", Str.ofString "_law_xs", Str.ofString "_law_names_here", Str.ofString "_law_k", Str.ofString "_law_name", Str.ofString "_law_j"]
def ps__law_all : List Str := [Str.ofString "_law_constants_here", Str.ofString "_law_width"]
def nn__law_all : List Str := [Str.ofString "_law_constants_here", Str.ofString "_law_width", Str.ofString "_law_rows", Str.ofString "_law_k", Str.ofString "_law_wider", Str.ofString "_law_row", Str.ofString "_law_one"]
def ps__law_facts : List Str := [Str.ofString "_law_cell_here", Str.ofString "_law_predicates", Str.ofString "_law_widths", Str.ofString "_law_constants_here"]
def nn__law_facts : List Str := [Str.ofString "_law_cell_here", Str.ofString "_law_predicates", Str.ofString "_law_widths", Str.ofString "_law_constants_here", Str.ofString "_law_facts_here", Str.ofString "_law_number", Str.ofString "_law_k", Str.ofString "_law_places", Str.ofString "_law_bit"]
def ps__law_term : List Str := [Str.ofString "_law_x", Str.ofString "_law_some", Str.ofString "_law_constants_here"]
def nn__law_term : List Str := [Str.ofString "_law_x", Str.ofString "_law_some", Str.ofString "_law_constants_here"]
def ps__law_literal : List Str := [Str.ofString "_law_xs", Str.ofString "_law_known_here", Str.ofString "_law_bound"]
def nn__law_literal : List Str := [Str.ofString "_law_xs", Str.ofString "_law_known_here", Str.ofString "_law_bound", Str.ofString "_law_predicates", Str.ofString "_law_widths", Str.ofString "_law_constants_here", Str.ofString "_law_variables_here", Str.ofString "_law_x", Str.ofString "_law_at", Str.ofString "_law_terms_here", Str.ofString "_law_k", Str.ofString "_law_term_here", Str.ofString "_law_one"]
def ps__law_body : List Str := [Str.ofString "_law_xs", Str.ofString "_law_known_here", Str.ofString "_law_many"]
def nn__law_body : List Str := [Str.ofString "_law_xs", Str.ofString "_law_known_here", Str.ofString "_law_many", Str.ofString "_law_bound", Str.ofString "_law_body_here", Str.ofString "_law_k", Str.ofString "_law_more", Str.ofString "_law_literal_here", Str.ofString "_law_one"]
def ps__law_terms : List Str := [Str.ofString "_law_literal_here"]
def nn__law_terms : List Str := [Str.ofString "_law_literal_here"]
def ps__law_stands : List Str := [Str.ofString "_law_literal_here", Str.ofString "_law_binding_here", Str.ofString "_law_facts_here"]
def nn__law_stands : List Str := [Str.ofString "_law_literal_here", Str.ofString "_law_binding_here", Str.ofString "_law_facts_here", Str.ofString "_law_places", Str.ofString "_law_term_here"]
def ps__law_known : List Str := [Str.ofString "_law_script", Str.ofString "_law_most"]
def nn__law_known : List Str := [Str.ofString "_law_script", Str.ofString "_law_most", Str.ofString "_law_cell_here", Str.ofString "_law_constants_here", Str.ofString "_law_predicates", Str.ofString "_law_widths"]
def ps__law_binding : List Str := [Str.ofString "_law_xs", Str.ofString "_law_body_here", Str.ofString "_law_known_here", Str.ofString "_law_facts_here"]
def nn__law_binding : List Str := [Str.ofString "_law_xs", Str.ofString "_law_body_here", Str.ofString "_law_known_here", Str.ofString "_law_facts_here", Str.ofString "_law_binding_here", Str.ofString "_law_k", Str.ofString "_law_predicate", Str.ofString "_law_places", Str.ofString "_law_literal_here", Str.ofString "_law_term_here", Str.ofString "_law_place"]
def ps_law : List Str := [Str.ofString "_law_script"]
def nn_law : List Str := [Str.ofString "_law_script", Str.ofString "_law_known_here", Str.ofString "_law_body_here", Str.ofString "_law_bound", Str.ofString "_law_facts_here", Str.ofString "_law_k", Str.ofString "_law_binding_here", Str.ofString "_law_handed", Str.ofString "_law_told", Str.ofString "_law_due", Str.ofString "_law_literal_here"]
def x1_replaced_by : CE := (.mget (.var 1) (.cons (.var 2) (.cons (.var 2) .nil)))
theorem pu_x1_replaced_by : pureE x1_replaced_by = true := Eq.trans rfl rfl
def b_replaced_by : CSs := (.cons (.ret (.bi "tuple" (.cons (.lc [2] [2] false (.val (.var 0)) .no x1_replaced_by) .nil))) .nil)
def f_replaced_by : FD := ⟨Str.ofString "replaced_by", ps_replaced_by, nn_replaced_by, false, [.a, .p], b_replaced_by⟩
def l1_index_of : CSs := (.cons (.boP 1 (.tup (.cons (.var 2) (.cons (.bi "len" (.cons (.var 3) .nil)) .nil))) 3 (.cst (.bool true))) .nil)
def b_index_of : CSs := (.cons (.set 1 .dic0) (.cons (.forV [2, 3] true 0 l1_index_of) (.cons (.ret (.var 1)) .nil)))
def f_index_of : FD := ⟨Str.ofString "index_of", ps_index_of, nn_index_of, false, [.a], b_index_of⟩
def b_there_are : CSs := (.cons (.ret (.mget (.var 0) (.cons (.tup (.cons (.var 1) (.cons (.var 2) .nil))) (.cons .dic0 .nil)))) .nil)
def f_there_are : FD := ⟨Str.ofString "there_are", ps_there_are, nn_there_are, false, [.a, .a, .a], b_there_are⟩
def b_stands_by : CSs := (.cons (.iff (.cmp .In (.ix (.var 0) (.cst (.int (0)))) (.tup (.cons (.cst (.str (Str.ofString "yes"))) (.cons (.cst (.str (Str.ofString "not"))) .nil)))) (.cons (.set 3 (.cmp .In (.call (Str.ofString "replaced_by") false (.cons (.ix (.var 0) (.cst (.int (2)))) (.pk 1 .nil))) (.call (Str.ofString "there_are") false (.cons (.var 2) (.cons (.ix (.var 0) (.cst (.int (1)))) (.cons (.bi "len" (.cons (.ix (.var 0) (.cst (.int (2)))) .nil)) .nil)))))) (.cons (.ret (.cmp .Eq (.var 3) (.cmp .Eq (.ix (.var 0) (.cst (.int (0)))) (.cst (.str (Str.ofString "yes")))))) .nil)) .nil) (.cons (.setT [4, 5] (.call (Str.ofString "replaced_by") false (.cons (.slc (.var 0) (.so (.cst (.int (1)))) .no) (.pk 1 .nil)))) (.cons (.iff (.cmp .Eq (.ix (.var 0) (.cst (.int (0)))) (.cst (.str (Str.ofString "unlike")))) (.cons (.ret (.cmp .NotEq (.var 4) (.var 5))) .nil) .nil) (.cons (.ret (.and_ (.isi (.var 4) "int") (.and_ (.isi (.var 5) "int") (.cmp .Lt (.var 4) (.var 5))))) .nil))))
def f_stands_by : FD := ⟨Str.ofString "stands_by", ps_stands_by, nn_stands_by, false, [.a, .a, .a], b_stands_by⟩
def l1_holds_by : CSs := (.cons (.iff (.not_ (.call (Str.ofString "stands_by") false (.cons (.var 4) (.cons (.var 1) (.cons (.var 3) .nil))))) (.cons (.ret (.cst (.bool false))) .nil) .nil) .nil)
def b_holds_by : CSs := (.cons (.set 3 (.call (Str.ofString "index_of") false (.cons (.var 2) .nil))) (.cons (.forV [4] false 0 l1_holds_by) (.cons (.ret (.cst (.bool true))) .nil)))
def f_holds_by : FD := ⟨Str.ofString "holds_by", ps_holds_by, nn_holds_by, false, [.a, .a, .a], b_holds_by⟩
def b__law_cell : CSs := (.cons (.iff (.cmp .Lt (.var 1) (.bi "len" (.cons (.var 0) .nil))) (.cons (.ret (.ix (.var 0) (.var 1))) .nil) .nil) (.cons (.set 2 (.bin .Add (.bin .Mult (.var 1) (.cst (.int (7919)))) (.cst (.int (5))))) (.cons (.iff (.cmp .Gt (.bi "len" (.cons (.var 0) .nil)) (.cst (.int (0)))) (.cons (.set 2 (.bin .Mod (.bin .Add (.bin .Mult (.ix (.var 0) (.bin .Mod (.bin .Mult (.var 1) (.cst (.int (7)))) (.bi "len" (.cons (.var 0) .nil)))) (.cst (.int (48271)))) (.bin .Mult (.var 1) (.cst (.int (7919))))) (.cst (.int (2147483647))))) .nil) .nil) (.cons (.ret (.bin .Mod (.bin .Mult (.var 2) (.var 2)) (.cst (.int (2147483629))))) .nil))))
def f__law_cell : FD := ⟨Str.ofString "_law_cell", ps__law_cell, nn__law_cell, false, [.a, .a], b__law_cell⟩
def l1__law_stream : CSs := (.cons (.iff (.cmp .Eq (.bin .Mod (.var 0) (.cst (.int (2)))) (.cst (.int (1)))) (.cons (.app 2 (.bin .Mod (.var 3) (.bin .Pow (.cst (.int (10))) (.cst (.int (4)))))) (.cons (.set 3 (.bin .FloorDiv (.var 3) (.bin .Pow (.cst (.int (10))) (.cst (.int (4)))))) .nil)) (.cons (.set 3 (.bin .Mod (.bin .Add (.bin .Mult (.var 3) (.cst (.int (48271)))) (.cst (.int (12345)))) (.cst (.int (2147483647))))) (.cons (.app 2 (.bin .Mod (.bin .Mult (.var 3) (.cst (.int (69621)))) (.cst (.int (2147483629))))) .nil))) .nil)
def b__law_stream : CSs := (.cons (.set 2 (.lst .nil)) (.cons (.set 3 (.bin .FloorDiv (.var 0) (.cst (.int (2))))) (.cons (.for_ [4] false (.rng1 (.var 1)) l1__law_stream) (.cons (.ret (.var 2)) .nil))))
def f__law_stream : FD := ⟨Str.ofString "_law_stream", ps__law_stream, nn__law_stream, true, [.a, .a], b__law_stream⟩
def x1__law_names : CE := (.ix (.var 2) (.bin .Mod (.bin .Add (.ix (.var 5) (.var 10)) (.bin .Mult (.bin .Mult (.cst (.int (3))) (.var 8)) (.bi "int" (.cons (.cmp .Eq (.var 10) (.var 4)) .nil)))) (.cst (.int (26)))))
theorem pu_x1__law_names : pureE x1__law_names = true := Eq.trans rfl rfl
def l1__law_names : CSs := (.cons (.set 9 (.joi (.cst (.str (Str.ofString ""))) (.lc [10] [10] false (.rng1 (.var 3)) .no x1__law_names))) (.cons (.iff (.cmp .In (.var 9) (.tup (.cons (.cst (.str (Str.ofString "not"))) (.cons (.cst (.str (Str.ofString "if"))) (.cons (.cst (.str (Str.ofString "under"))) (.cons (.cst (.str (Str.ofString "unlike"))) (.cons (.cst (.str (Str.ofString "sum"))) (.cons (.cst (.str (Str.ofString "least"))) (.cons (.cst (.str (Str.ofString "count"))) .nil))))))))) (.cons (.set 9 (.bin .Add (.cst (.str (Str.ofString "x"))) (.var 9))) .nil) .nil) (.cons (.app 7 (.var 9)) .nil)))
def x2__law_names : CE := (.bin .Mod (.var 6) (.cst (.int (26))))
theorem pu_x2__law_names : pureE x2__law_names = true := Eq.trans rfl rfl
def b__law_names : CSs := (.cons (.set 2 (.cst (.str (Str.ofString "abcdefghijklmnopqrstuvwxyz")))) (.cons (.set 3 (.bin .Add (.cst (.int (1))) (.bin .Mod (.var 0) (.cst (.int (8)))))) (.cons (.set 4 (.bin .Mod (.bin .FloorDiv (.var 0) (.cst (.int (8)))) (.var 3))) (.cons (.set 5 (.lc [6] [6] false (.val (.call (Str.ofString "_law_stream") true (.cons (.bin .FloorDiv (.var 0) (.cst (.int (64)))) (.cons (.cst (.int (8))) .nil)))) .no x2__law_names)) (.cons (.set 7 (.lst .nil)) (.cons (.for_ [8] false (.rng1 (.var 1)) l1__law_names) (.cons (.ret (.var 7)) .nil)))))))
def f__law_names : FD := ⟨Str.ofString "_law_names", ps__law_names, nn__law_names, true, [.a, .a], b__law_names⟩
def l1__law_constants : CSs := (.cons (.set 5 (.bin .Mod (.ix (.lst (.cons (.var 0) (.cons (.bin .FloorDiv (.var 0) (.cst (.int (3)))) (.cons (.bin .FloorDiv (.var 0) (.cst (.int (9)))) (.cons (.bin .FloorDiv (.var 0) (.cst (.int (27)))) .nil))))) (.bin .Mod (.var 4) (.cst (.int (4))))) (.cst (.int (3))))) (.cons (.set 6 (.ix (.var 2) (.var 4))) (.cons (.iff (.cmp .Eq (.var 5) (.cst (.int (1)))) (.cons (.set 6 (.bin .Sub (.bin .Add (.var 4) (.bin .Mod (.bin .FloorDiv (.var 0) (.cst (.int (81)))) (.cst (.int (3))))) (.cst (.int (2))))) .nil) .nil) (.cons (.iff (.cmp .Eq (.var 5) (.cst (.int (2)))) (.cons (.set 6 (.bin .Sub (.bin .Sub (.bin .Mod (.bin .FloorDiv (.var 0) (.cst (.int (81)))) (.bin .Pow (.cst (.int (10))) (.cst (.int (29))))) (.bin .Mult (.var 4) (.var 4))) (.cst (.int (5))))) .nil) .nil) (.cons (.iff (.cmp .In (.var 6) (.var 3)) (.cons (.set 6 (.ix (.var 2) (.var 4))) .nil) .nil) (.cons (.app 3 (.var 6)) .nil))))))
def b__law_constants : CSs := (.cons (.set 2 (.call (Str.ofString "_law_names") true (.cons (.bin .FloorDiv (.var 0) (.cst (.int (81)))) (.cons (.var 1) .nil)))) (.cons (.set 3 (.lst .nil)) (.cons (.for_ [4] false (.rng1 (.var 1)) l1__law_constants) (.cons (.ret (.var 3)) .nil))))
def f__law_constants : FD := ⟨Str.ofString "_law_constants", ps__law_constants, nn__law_constants, true, [.a, .a], b__law_constants⟩
def l1__law_variables : CSs := (.cons (.set 8 (.bin .Add (.var 8) (.ix (.var 2) (.bin .Mod (.bin .Add (.ix (.var 5) (.var 9)) (.bin .Mult (.bin .Mult (.cst (.int (5))) (.var 7)) (.bi "int" (.cons (.cmp .Eq (.var 4) (.var 9)) .nil)))) (.cst (.int (62))))))) .nil)
def l2__law_variables : CSs := (.cons (.set 8 (.ix (.var 1) (.bin .Mod (.bin .Add (.ix (.var 5) (.cst (.int (0)))) (.bin .Mult (.bin .Mult (.cst (.int (5))) (.var 7)) (.bi "int" (.cons (.cmp .Eq (.var 4) (.cst (.int (0)))) .nil)))) (.cst (.int (26)))))) (.cons (.for_ [9] false (.rng2 (.cst (.int (1))) (.var 3)) l1__law_variables) (.cons (.app 6 (.var 8)) .nil)))
def b__law_variables : CSs := (.cons (.set 1 (.cst (.str (Str.ofString "ABCDEFGHIJKLMNOPQRSTUVWXYZ")))) (.cons (.set 2 (.cst (.str (Str.ofString "abcdefghijklmnopqrstuvwxyz0123456789ABCDEFGHIJKLMNOPQRSTUVWXYZ")))) (.cons (.set 3 (.bin .Add (.cst (.int (1))) (.bin .Mod (.var 0) (.cst (.int (8)))))) (.cons (.set 4 (.bin .Mod (.bin .FloorDiv (.var 0) (.cst (.int (8)))) (.var 3))) (.cons (.set 5 (.call (Str.ofString "_law_stream") true (.cons (.bin .FloorDiv (.var 0) (.cst (.int (64)))) (.cons (.cst (.int (8))) .nil)))) (.cons (.set 6 (.lst .nil)) (.cons (.for_ [7] false (.rng1 (.cst (.int (4)))) l2__law_variables) (.cons (.ret (.var 6)) .nil))))))))
def f__law_variables : FD := ⟨Str.ofString "_law_variables", ps__law_variables, nn__law_variables, true, [.a], b__law_variables⟩
def l1__law_all : CSs := (.cons (.app 4 (.bin .Add (.var 5) (.tup (.cons (.var 6) .nil)))) .nil)
def l2__law_all : CSs := (.cons (.forV [6] false 0 l1__law_all) .nil)
def l3__law_all : CSs := (.cons (.set 4 (.lst .nil)) (.cons (.forV [5] false 2 l2__law_all) (.cons (.set 2 (.var 4)) .nil)))
def b__law_all : CSs := (.cons (.set 2 (.lst (.cons (.tup .nil) .nil))) (.cons (.for_ [3] false (.rng1 (.var 1)) l3__law_all) (.cons (.ret (.var 2)) .nil)))
def f__law_all : FD := ⟨Str.ofString "_law_all", ps__law_all, nn__law_all, false, [.a, .a], b__law_all⟩
def l1__law_facts : CSs := (.cons (.iff (.cmp .Eq (.bin .Mod (.var 0) (.cst (.int (2)))) (.cst (.int (1)))) (.cons (.set 8 (.bin .Mod (.var 5) (.cst (.int (2))))) (.cons (.set 5 (.bin .FloorDiv (.var 5) (.cst (.int (2))))) .nil)) (.cons (.set 5 (.bin .Mod (.bin .Add (.bin .Mult (.var 5) (.cst (.int (48271)))) (.cst (.int (12345)))) (.cst (.int (2147483647))))) (.cons (.set 8 (.bin .FloorDiv (.bin .Mod (.bin .Mod (.bin .Mult (.var 5) (.cst (.int (69621)))) (.cst (.int (2147483629)))) (.cst (.int (5)))) (.cst (.int (3))))) .nil))) (.cons (.iff (.cmp .Eq (.var 8) (.cst (.int (1)))) (.cons (.app 4 (.tup (.cons (.ix (.var 1) (.var 6)) (.cons (.var 7) .nil)))) .nil) .nil) .nil))
def l2__law_facts : CSs := (.cons (.for_ [7] false (.val (.call (Str.ofString "_law_all") false (.cons (.var 3) (.cons (.ix (.var 2) (.var 6)) .nil)))) l1__law_facts) .nil)
def b__law_facts : CSs := (.cons (.set 4 (.lst .nil)) (.cons (.set 5 (.bin .FloorDiv (.var 0) (.cst (.int (2))))) (.cons (.for_ [6] false (.rng1 (.bi "len" (.cons (.var 1) .nil))) l2__law_facts) (.cons (.ret (.var 4)) .nil))))
def f__law_facts : FD := ⟨Str.ofString "_law_facts", ps__law_facts, nn__law_facts, true, [.a, .a, .a, .a], b__law_facts⟩
def b__law_term : CSs := (.cons (.iff (.and_ (.cmp .Lt (.bin .Mod (.var 0) (.cst (.int (4)))) (.cst (.int (3)))) (.cmp .NotEq (.var 1) (.lst .nil))) (.cons (.ret (.ix (.var 1) (.bin .Mod (.bin .FloorDiv (.var 0) (.cst (.int (4)))) (.bi "len" (.cons (.var 1) .nil))))) .nil) .nil) (.cons (.ret (.ix (.var 2) (.bin .Mod (.bin .FloorDiv (.var 0) (.cst (.int (4)))) (.bi "len" (.cons (.var 2) .nil))))) .nil))
def f__law_term : FD := ⟨Str.ofString "_law_term", ps__law_term, nn__law_term, false, [.a, .p, .a], b__law_term⟩
def x1__law_literal : CE := (.call (Str.ofString "_law_term") false (.cons (.pop1 0 (.cst (.int (0)))) (.pk 2 (.cons (.var 5) .nil))))
theorem pu_x1__law_literal : pureE x1__law_literal = false := Eq.trans rfl rfl
def q1__law_literal : CE := (.and_ (.cmp .In (.var 11) (.var 6)) (.cmp .NotIn (.var 11) (.var 2)))
theorem pu_q1__law_literal : pureE q1__law_literal = true := Eq.trans rfl rfl
def x2__law_literal : CE := (.var 11)
theorem pu_x2__law_literal : pureE x2__law_literal = true := Eq.trans rfl rfl
def x3__law_literal : CE := (.call (Str.ofString "_law_term") false (.cons (.pop1 0 (.cst (.int (0)))) (.pk 6 (.cons (.var 5) .nil))))
theorem pu_x3__law_literal : pureE x3__law_literal = false := Eq.trans rfl rfl
def b__law_literal : CSs := (.cons (.setT [3, 4, 5, 6] (.var 1)) (.cons (.set 7 (.pop1 0 (.cst (.int (0))))) (.cons (.set 8 (.bin .Mod (.bin .FloorDiv (.var 7) (.cst (.int (7)))) (.bi "len" (.cons (.var 3) .nil)))) (.cons (.iff (.or_ (.cmp .Lt (.bin .Mod (.var 7) (.cst (.int (7)))) (.cst (.int (4)))) (.and_ (.cmp .Eq (.var 2) (.lst .nil)) (.cmp .NotEq (.bin .Mod (.bin .FloorDiv (.var 7) (.cst (.int (7)))) (.cst (.int (8)))) (.cst (.int (1)))))) (.cons (.set 9 (.bi "tuple" (.cons (.lc [10] [10] false (.rng1 (.ix (.var 4) (.var 8))) .no x3__law_literal) .nil))) (.cons (.ext 2 (.lc [11] [11] false (.val (.var 9)) (.so q1__law_literal) x2__law_literal)) (.cons (.ret (.tup (.cons (.cst (.str (Str.ofString "yes"))) (.cons (.ix (.var 3) (.var 8)) (.cons (.var 9) .nil))))) .nil))) .nil) (.cons (.iff (.cmp .Eq (.bin .Mod (.var 7) (.cst (.int (7)))) (.cst (.int (4)))) (.cons (.ret (.tup (.cons (.cst (.str (Str.ofString "not"))) (.cons (.ix (.var 3) (.var 8)) (.cons (.bi "tuple" (.cons (.lc [10] [10] false (.rng1 (.ix (.var 4) (.var 8))) .no x1__law_literal) .nil)) .nil))))) .nil) .nil) (.cons (.set 12 (.call (Str.ofString "_law_term") false (.cons (.pop1 0 (.cst (.int (0)))) (.pk 2 (.cons (.var 5) .nil))))) (.cons (.ret (.tup (.cons (.ix (.lst (.cons (.cst (.str (Str.ofString "under"))) (.cons (.cst (.str (Str.ofString "unlike"))) .nil))) (.bin .Mod (.var 7) (.cst (.int (2))))) (.cons (.var 12) (.cons (.call (Str.ofString "_law_term") false (.cons (.pop1 0 (.cst (.int (0)))) (.pk 2 (.cons (.var 5) .nil)))) .nil))))) .nil)))))))
def f__law_literal : FD := ⟨Str.ofString "_law_literal", ps__law_literal, nn__law_literal, false, [.s, .a, .s], b__law_literal⟩
def q1__law_body : CE := (.cmp .Eq (.ix (.var 8) (.cst (.int (0)))) (.cst (.str (Str.ofString "yes"))))
theorem pu_q1__law_body : pureE q1__law_body = true := Eq.trans rfl rfl
def x1__law_body : CE := (.var 8)
theorem pu_x1__law_body : pureE x1__law_body = true := Eq.trans rfl rfl
def l1__law_body : CSs := (.cons (.set 6 (.bi "list" (.cons (.var 3) .nil))) (.cons (.set 7 (.call (Str.ofString "_law_literal") false (.io 0 (.cons (.var 1) (.io 6 .nil))))) (.cons (.iff (.or_ (.cmp .NotEq (.ix (.var 7) (.cst (.int (0)))) (.cst (.str (Str.ofString "yes")))) (.cmp .Lt (.bi "len" (.cons (.lc [8] [8] false (.val (.var 4)) (.so q1__law_body) x1__law_body) .nil)) (.cst (.int (4))))) (.cons (.set 4 (.bin .Add (.var 4) (.tup (.cons (.var 7) .nil)))) (.cons (.set 3 (.var 6)) .nil)) .nil) .nil)))
def b__law_body : CSs := (.cons (.set 3 (.lst .nil)) (.cons (.set 4 (.tup .nil)) (.cons (.for_ [5] false (.rng1 (.var 2)) l1__law_body) (.cons (.ret (.tup (.cons (.var 4) (.cons (.var 3) .nil)))) .nil))))
def f__law_body : FD := ⟨Str.ofString "_law_body", ps__law_body, nn__law_body, false, [.s, .a, .a], b__law_body⟩
def b__law_terms : CSs := (.cons (.iff (.cmp .In (.ix (.var 0) (.cst (.int (0)))) (.tup (.cons (.cst (.str (Str.ofString "yes"))) (.cons (.cst (.str (Str.ofString "not"))) .nil)))) (.cons (.ret (.ix (.var 0) (.cst (.int (2))))) .nil) .nil) (.cons (.ret (.slc (.var 0) (.so (.cst (.int (1)))) .no)) .nil))
def f__law_terms : FD := ⟨Str.ofString "_law_terms", ps__law_terms, nn__law_terms, false, [.a], b__law_terms⟩
def x1__law_stands : CE := (.mget (.var 1) (.cons (.var 4) (.cons (.var 4) .nil)))
theorem pu_x1__law_stands : pureE x1__law_stands = true := Eq.trans rfl rfl
def b__law_stands : CSs := (.cons (.set 3 (.bi "tuple" (.cons (.lc [4] [4] false (.val (.call (Str.ofString "_law_terms") false (.cons (.var 0) .nil))) .no x1__law_stands) .nil))) (.cons (.iff (.cmp .Eq (.ix (.var 0) (.cst (.int (0)))) (.cst (.str (Str.ofString "yes")))) (.cons (.ret (.cmp .In (.tup (.cons (.ix (.var 0) (.cst (.int (1)))) (.cons (.var 3) .nil))) (.var 2))) .nil) .nil) (.cons (.iff (.cmp .Eq (.ix (.var 0) (.cst (.int (0)))) (.cst (.str (Str.ofString "not")))) (.cons (.ret (.cmp .NotIn (.tup (.cons (.ix (.var 0) (.cst (.int (1)))) (.cons (.var 3) .nil))) (.var 2))) .nil) .nil) (.cons (.iff (.cmp .Eq (.ix (.var 0) (.cst (.int (0)))) (.cst (.str (Str.ofString "unlike")))) (.cons (.ret (.cmp .NotEq (.ix (.var 3) (.cst (.int (0)))) (.ix (.var 3) (.cst (.int (1)))))) .nil) .nil) (.cons (.ret (.and_ (.isi (.ix (.var 3) (.cst (.int (0)))) "int") (.and_ (.isi (.ix (.var 3) (.cst (.int (1)))) "int") (.cmp .Lt (.ix (.var 3) (.cst (.int (0)))) (.ix (.var 3) (.cst (.int (1)))))))) .nil)))))
def f__law_stands : FD := ⟨Str.ofString "_law_stands", ps__law_stands, nn__law_stands, false, [.a, .a, .a], b__law_stands⟩
def b__law_known : CSs := (.cons (.set 2 (.call (Str.ofString "_law_cell") false (.cons (.var 0) (.cons (.cst (.int (2))) .nil)))) (.cons (.set 3 (.call (Str.ofString "_law_constants") true (.cons (.call (Str.ofString "_law_cell") false (.cons (.var 0) (.cons (.cst (.int (0))) .nil))) (.cons (.bin .Add (.cst (.int (2))) (.bin .Mod (.var 2) (.var 1))) .nil)))) (.cons (.set 4 (.call (Str.ofString "_law_names") true (.cons (.call (Str.ofString "_law_cell") false (.cons (.var 0) (.cons (.cst (.int (1))) .nil))) (.cons (.cst (.int (3))) .nil)))) (.cons (.set 5 (.lst (.cons (.bin .Mod (.bin .FloorDiv (.var 2) (.cst (.int (4)))) (.cst (.int (3)))) (.cons (.bin .Add (.cst (.int (1))) (.bin .Mod (.bin .FloorDiv (.var 2) (.cst (.int (12)))) (.cst (.int (2))))) (.cons (.ix (.lst (.cons (.cst (.int (2))) (.cons (.cst (.int (1))) (.cons (.cst (.int (3))) (.cons (.cst (.int (0))) .nil))))) (.bin .Mod (.bin .FloorDiv (.var 2) (.cst (.int (24)))) (.cst (.int (4))))) .nil))))) (.cons (.iff (.cmp .Gt (.bi "len" (.cons (.var 3) .nil)) (.cst (.int (3)))) (.cons (.put 5 (.bi "min" (.cons (.cst (.int (2))) (.cons (.ix (.var 5) (.cst (.int (2)))) .nil))) (.cst (.int (2)))) .nil) .nil) (.cons (.ret (.tup (.cons (.var 4) (.cons (.var 5) (.cons (.var 3) (.cons (.slc (.call (Str.ofString "_law_variables") true (.cons (.call (Str.ofString "_law_cell") false (.cons (.var 0) (.cons (.cst (.int (3))) .nil))) .nil)) .no (.so (.bin .Add (.cst (.int (2))) (.bin .Mod (.bin .FloorDiv (.var 2) (.cst (.int (96)))) (.bin .Sub (.cst (.int (6))) (.bi "len" (.cons (.var 3) .nil))))))) .nil)))))) .nil))))))
def f__law_known : FD := ⟨Str.ofString "_law_known", ps__law_known, nn__law_known, false, [.a, .a], b__law_known⟩
def l1__law_binding : CSs := (.cons (.iff (.cmp .In (.var 9) (.var 4)) (.cons (.put 4 (.var 10) (.var 9)) .nil) .nil) .nil)
def l2__law_binding : CSs := (.cons (.iff (.and_ (.cmp .Eq (.ix (.var 8) (.cst (.int (0)))) (.cst (.str (Str.ofString "yes")))) (.cmp .Eq (.ix (.var 8) (.cst (.int (1)))) (.var 6))) (.cons (.for_ [9, 10] true (.zip (.ix (.var 8) (.cst (.int (2)))) (.var 7)) l1__law_binding) .nil) .nil) .nil)
def l3__law_binding : CSs := (.cons (.put 4 (.ix (.ix (.var 2) (.cst (.int (2)))) (.bin .Mod (.ix (.var 0) (.var 5)) (.bi "len" (.cons (.ix (.var 2) (.cst (.int (2)))) .nil)))) (.ix (.ix (.var 2) (.cst (.int (3)))) (.var 5))) .nil)
def b__law_binding : CSs := (.cons (.set 4 .dic0) (.cons (.for_ [5] false (.rng1 (.bi "len" (.cons (.ix (.var 2) (.cst (.int (3)))) .nil))) l3__law_binding) (.cons (.iff (.and_ (.cmp .Eq (.bin .Mod (.ix (.var 0) (.cst (.int (4)))) (.cst (.int (2)))) (.cst (.int (1)))) (.cmp .NotEq (.var 3) (.lst .nil))) (.cons (.setT [6, 7] (.ix (.var 3) (.bin .Mod (.ix (.var 0) (.cst (.int (5)))) (.bi "len" (.cons (.var 3) .nil))))) (.cons (.forV [8] false 1 l2__law_binding) .nil)) .nil) (.cons (.ret (.var 4)) .nil))))
def f__law_binding : FD := ⟨Str.ofString "_law_binding", ps__law_binding, nn__law_binding, true, [.a, .a, .a, .a], b__law_binding⟩
def q1_law : CE := (.not_ (.call (Str.ofString "_law_stands") false (.cons (.var 10) (.cons (.var 6) (.cons (.var 4) .nil)))))
theorem pu_q1_law : pureE q1_law = true := Eq.trans rfl rfl
def x1_law : CE := (.var 10)
theorem pu_x1_law : pureE x1_law = true := Eq.trans rfl rfl
def l1_law : CSs := (.cons (.set 6 (.call (Str.ofString "_law_binding") true (.cons (.call (Str.ofString "_law_stream") true (.cons (.call (Str.ofString "_law_cell") false (.cons (.var 0) (.cons (.var 5) .nil))) (.cons (.cst (.int (6))) .nil))) (.cons (.var 2) (.cons (.var 1) (.cons (.var 4) .nil)))))) (.cons (.set 7 (.lst (.cons (.bi "dict" (.cons (.var 6) .nil)) (.cons (.bi "list" (.cons (.var 4) .nil)) .nil)))) (.cons (.set 8 (.call (Str.ofString "holds_by") false (.cons (.var 2) (.cons (.ix (.var 7) (.cst (.int (0)))) (.cons (.ix (.var 7) (.cst (.int (1)))) .nil))))) (.cons (.set 9 (.cmp .Eq (.lc [10] [10] false (.val (.var 2)) (.so q1_law) x1_law) (.lst .nil))) (.cons (.iff (.or_ (.not_ (.isi (.var 8) "bool")) (.or_ (.cmp .NotEq (.var 8) (.var 9)) (.cmp .NotEq (.var 7) (.lst (.cons (.var 6) (.cons (.var 4) .nil)))))) (.cons (.ret (.cst (.bool false))) .nil) .nil) .nil)))))
def b_law : CSs := (.cons (.set 1 (.call (Str.ofString "_law_known") false (.cons (.var 0) (.cons (.cst (.int (4))) .nil)))) (.cons (.setT [2, 3] (.callF (Str.ofString "_law_body") false (.call (Str.ofString "_law_stream") true (.cons (.call (Str.ofString "_law_cell") false (.cons (.var 0) (.cons (.cst (.int (4))) .nil))) (.cons (.cst (.int (24))) .nil))) (.cons (.var 1) (.cons (.bin .Add (.cst (.int (1))) (.bin .Mod (.call (Str.ofString "_law_cell") false (.cons (.var 0) (.cons (.cst (.int (5))) .nil))) (.cst (.int (6))))) .nil)))) (.cons (.set 4 (.call (Str.ofString "_law_facts") true (.cons (.call (Str.ofString "_law_cell") false (.cons (.var 0) (.cons (.cst (.int (6))) .nil))) (.cons (.ix (.var 1) (.cst (.int (0)))) (.cons (.ix (.var 1) (.cst (.int (1)))) (.cons (.ix (.var 1) (.cst (.int (2)))) .nil)))))) (.cons (.for_ [5] false (.rng2 (.cst (.int (7))) (.bi "max" (.cons (.cst (.int (12))) (.cons (.bi "min" (.cons (.cst (.int (40))) (.cons (.bi "len" (.cons (.var 0) .nil)) .nil))) .nil)))) l1_law) (.cons (.ret (.cst (.bool true))) .nil)))))
def f_law : FD := ⟨Str.ofString "law", ps_law, nn_law, false, [.a], b_law⟩
def TB : List FD := [f_replaced_by, f_index_of, f_there_are, f_stands_by, f_holds_by, f__law_cell, f__law_stream, f__law_names, f__law_constants, f__law_variables, f__law_all, f__law_facts, f__law_term, f__law_literal, f__law_body, f__law_terms, f__law_stands, f__law_known, f__law_binding, f_law]
theorem fi_replaced_by : TB.find? (fun fd => fd.nm == Str.ofString "replaced_by") = some f_replaced_by := by kernel_rfl
theorem cl_replaced_by (k : Nat) (d0 d1 : D) : callF TB (k + 1) (Str.ofString "replaced_by") [d0, d1] = (execs (callF TB k) false b_replaced_by [.sh d0, .pk d1, .un]).out [.a, .p] := by
  simp only [callF, fi_replaced_by]
  rfl
theorem fi_index_of : TB.find? (fun fd => fd.nm == Str.ofString "index_of") = some f_index_of := by kernel_rfl
theorem cl_index_of (k : Nat) (d0 : D) : callF TB (k + 1) (Str.ofString "index_of") [d0] = (execs (callF TB k) false b_index_of [.sh d0, .un, .un, .un]).out [.a] := by
  simp only [callF, fi_index_of]
  rfl
theorem fi_there_are : TB.find? (fun fd => fd.nm == Str.ofString "there_are") = some f_there_are := by kernel_rfl
theorem cl_there_are (k : Nat) (d0 d1 d2 : D) : callF TB (k + 1) (Str.ofString "there_are") [d0, d1, d2] = (execs (callF TB k) false b_there_are [.sh d0, .sh d1, .sh d2]).out [.a, .a, .a] := by
  simp only [callF, fi_there_are]
  rfl
theorem fi_stands_by : TB.find? (fun fd => fd.nm == Str.ofString "stands_by") = some f_stands_by := by kernel_rfl
theorem cl_stands_by (k : Nat) (d0 d1 d2 : D) : callF TB (k + 1) (Str.ofString "stands_by") [d0, d1, d2] = (execs (callF TB k) false b_stands_by [.sh d0, .sh d1, .sh d2, .un, .un, .un]).out [.a, .a, .a] := by
  simp only [callF, fi_stands_by]
  rfl
theorem fi_holds_by : TB.find? (fun fd => fd.nm == Str.ofString "holds_by") = some f_holds_by := by kernel_rfl
theorem cl_holds_by (k : Nat) (d0 d1 d2 : D) : callF TB (k + 1) (Str.ofString "holds_by") [d0, d1, d2] = (execs (callF TB k) false b_holds_by [.sh d0, .sh d1, .sh d2, .un, .un]).out [.a, .a, .a] := by
  simp only [callF, fi_holds_by]
  rfl
theorem fi__law_cell : TB.find? (fun fd => fd.nm == Str.ofString "_law_cell") = some f__law_cell := by kernel_rfl
theorem cl__law_cell (k : Nat) (d0 d1 : D) : callF TB (k + 1) (Str.ofString "_law_cell") [d0, d1] = (execs (callF TB k) false b__law_cell [.sh d0, .sh d1, .un]).out [.a, .a] := by
  simp only [callF, fi__law_cell]
  rfl
theorem fi__law_stream : TB.find? (fun fd => fd.nm == Str.ofString "_law_stream") = some f__law_stream := by kernel_rfl
theorem cl__law_stream (k : Nat) (d0 d1 : D) : callF TB (k + 1) (Str.ofString "_law_stream") [d0, d1] = (execs (callF TB k) true b__law_stream [.sh d0, .sh d1, .un, .un, .un]).out [.a, .a] := by
  simp only [callF, fi__law_stream]
  rfl
theorem fi__law_names : TB.find? (fun fd => fd.nm == Str.ofString "_law_names") = some f__law_names := by kernel_rfl
theorem cl__law_names (k : Nat) (d0 d1 : D) : callF TB (k + 1) (Str.ofString "_law_names") [d0, d1] = (execs (callF TB k) true b__law_names [.sh d0, .sh d1, .un, .un, .un, .un, .un, .un, .un, .un, .un]).out [.a, .a] := by
  simp only [callF, fi__law_names]
  rfl
theorem fi__law_constants : TB.find? (fun fd => fd.nm == Str.ofString "_law_constants") = some f__law_constants := by kernel_rfl
theorem cl__law_constants (k : Nat) (d0 d1 : D) : callF TB (k + 1) (Str.ofString "_law_constants") [d0, d1] = (execs (callF TB k) true b__law_constants [.sh d0, .sh d1, .un, .un, .un, .un, .un]).out [.a, .a] := by
  simp only [callF, fi__law_constants]
  rfl
theorem fi__law_variables : TB.find? (fun fd => fd.nm == Str.ofString "_law_variables") = some f__law_variables := by kernel_rfl
theorem cl__law_variables (k : Nat) (d0 : D) : callF TB (k + 1) (Str.ofString "_law_variables") [d0] = (execs (callF TB k) true b__law_variables [.sh d0, .un, .un, .un, .un, .un, .un, .un, .un, .un]).out [.a] := by
  simp only [callF, fi__law_variables]
  rfl
theorem fi__law_all : TB.find? (fun fd => fd.nm == Str.ofString "_law_all") = some f__law_all := by kernel_rfl
theorem cl__law_all (k : Nat) (d0 d1 : D) : callF TB (k + 1) (Str.ofString "_law_all") [d0, d1] = (execs (callF TB k) false b__law_all [.sh d0, .sh d1, .un, .un, .un, .un, .un]).out [.a, .a] := by
  simp only [callF, fi__law_all]
  rfl
theorem fi__law_facts : TB.find? (fun fd => fd.nm == Str.ofString "_law_facts") = some f__law_facts := by kernel_rfl
theorem cl__law_facts (k : Nat) (d0 d1 d2 d3 : D) : callF TB (k + 1) (Str.ofString "_law_facts") [d0, d1, d2, d3] = (execs (callF TB k) true b__law_facts [.sh d0, .sh d1, .sh d2, .sh d3, .un, .un, .un, .un, .un]).out [.a, .a, .a, .a] := by
  simp only [callF, fi__law_facts]
  rfl
theorem fi__law_term : TB.find? (fun fd => fd.nm == Str.ofString "_law_term") = some f__law_term := by kernel_rfl
theorem cl__law_term (k : Nat) (d0 d1 d2 : D) : callF TB (k + 1) (Str.ofString "_law_term") [d0, d1, d2] = (execs (callF TB k) false b__law_term [.sh d0, .pk d1, .sh d2]).out [.a, .p, .a] := by
  simp only [callF, fi__law_term]
  rfl
theorem fi__law_literal : TB.find? (fun fd => fd.nm == Str.ofString "_law_literal") = some f__law_literal := by kernel_rfl
theorem cl__law_literal (k : Nat) (d0 d1 d2 : D) : callF TB (k + 1) (Str.ofString "_law_literal") [d0, d1, d2] = (execs (callF TB k) false b__law_literal [.io d0, .sh d1, .io d2, .un, .un, .un, .un, .un, .un, .un, .un, .un, .un]).out [.s, .a, .s] := by
  simp only [callF, fi__law_literal]
  rfl
theorem fi__law_body : TB.find? (fun fd => fd.nm == Str.ofString "_law_body") = some f__law_body := by kernel_rfl
theorem cl__law_body (k : Nat) (d0 d1 d2 : D) : callF TB (k + 1) (Str.ofString "_law_body") [d0, d1, d2] = (execs (callF TB k) false b__law_body [.io d0, .sh d1, .sh d2, .un, .un, .un, .un, .un, .un]).out [.s, .a, .a] := by
  simp only [callF, fi__law_body]
  rfl
theorem fi__law_terms : TB.find? (fun fd => fd.nm == Str.ofString "_law_terms") = some f__law_terms := by kernel_rfl
theorem cl__law_terms (k : Nat) (d0 : D) : callF TB (k + 1) (Str.ofString "_law_terms") [d0] = (execs (callF TB k) false b__law_terms [.sh d0]).out [.a] := by
  simp only [callF, fi__law_terms]
  rfl
theorem fi__law_stands : TB.find? (fun fd => fd.nm == Str.ofString "_law_stands") = some f__law_stands := by kernel_rfl
theorem cl__law_stands (k : Nat) (d0 d1 d2 : D) : callF TB (k + 1) (Str.ofString "_law_stands") [d0, d1, d2] = (execs (callF TB k) false b__law_stands [.sh d0, .sh d1, .sh d2, .un, .un]).out [.a, .a, .a] := by
  simp only [callF, fi__law_stands]
  rfl
theorem fi__law_known : TB.find? (fun fd => fd.nm == Str.ofString "_law_known") = some f__law_known := by kernel_rfl
theorem cl__law_known (k : Nat) (d0 d1 : D) : callF TB (k + 1) (Str.ofString "_law_known") [d0, d1] = (execs (callF TB k) false b__law_known [.sh d0, .sh d1, .un, .un, .un, .un]).out [.a, .a] := by
  simp only [callF, fi__law_known]
  rfl
theorem fi__law_binding : TB.find? (fun fd => fd.nm == Str.ofString "_law_binding") = some f__law_binding := by kernel_rfl
theorem cl__law_binding (k : Nat) (d0 d1 d2 d3 : D) : callF TB (k + 1) (Str.ofString "_law_binding") [d0, d1, d2, d3] = (execs (callF TB k) true b__law_binding [.sh d0, .sh d1, .sh d2, .sh d3, .un, .un, .un, .un, .un, .un, .un]).out [.a, .a, .a, .a] := by
  simp only [callF, fi__law_binding]
  rfl
theorem fi_law : TB.find? (fun fd => fd.nm == Str.ofString "law") = some f_law := by kernel_rfl
theorem cl_law (k : Nat) (d0 : D) : callF TB (k + 1) (Str.ofString "law") [d0] = (execs (callF TB k) false b_law [.sh d0, .un, .un, .un, .un, .un, .un, .un, .un, .un, .un]).out [.a] := by
  simp only [callF, fi_law]
  rfl
theorem so_0 : slOk [.p 1] = true := Eq.trans rfl rfl
theorem so_1 : slOk [.p 2, .a] = true := Eq.trans rfl rfl
theorem so_2 : slOk [.p 6, .a] = true := Eq.trans rfl rfl
theorem so_3 : slOk [.s 0, .a, .s 6] = true := Eq.trans rfl rfl
theorem oc_a (ρ : Rho) : outK [.a] ρ = some [] := outK_no ρ rfl
theorem oc_aa (ρ : Rho) : outK [.a, .a] ρ = some [] := outK_no ρ rfl
theorem oc_aaa (ρ : Rho) : outK [.a, .a, .a] ρ = some [] := outK_no ρ rfl
theorem oc_aaaa (ρ : Rho) : outK [.a, .a, .a, .a] ρ = some [] := outK_no ρ rfl
theorem oc_ap (ρ : Rho) : outK [.a, .p] ρ = some [] := outK_no ρ rfl
theorem oc_apa (ρ : Rho) : outK [.a, .p, .a] ρ = some [] := outK_no ρ rfl
theorem oc_saa (ρ : Rho) : outK [.s, .a, .a] ρ = outsR [.s, .a, .a] 0 ρ := outK_s ρ rfl
theorem oc_sas (ρ : Rho) : outK [.s, .a, .s] ρ = outsR [.s, .a, .s] 0 ρ := outK_s ρ rfl
end DI
set_option Elab.async false
set_option linter.all false
set_option maxRecDepth 100000
set_option maxHeartbeats 4000000
namespace DI
open PySem PySem.Spec PyProof.Rows L2
local macro_rules | `(tactic| dsimp?! [$es,*]) => `(tactic| simp only [isi_str, isi_tuple, isi_list, isi_bool, isi_int, isi_dict, asB_bool, asI_int, guard_tt, guard_ff, lenL, lenT, lenS, shp_int, shp_str, shp_bool, shp_none, cmp_eq_int, cmp_ne_int, cmp_eq_bool, cmp_ne_bool, cmp_eq_str, cmp_ne_str, cmp_lt_int, cmp_gt_int, cmp_le_int, cmp_ge_int, cmp_le_str, cmp_ge_str, cmp_gt_str, cmp_lt_str, cmp_in, cmp_nin, cmp_is, cmp_isn, isD_bool, isD_none, bin_add, bin_sub, bin_adds, bin_addl, bin_addt, ix_list, ix_tup, ix_str, items_list, items_tup, items_str, notOw_sh, notOw_un, notOw_succ, b_beq_false, szl0, szl1, szl2, szl3, szl4, szl5, szl6, szl7, szl8, szl9, szl10, szl11, szl12, szl13, szl14, szl15, szl16, eob_some, eob_none, nxO_some, newS_int, newS_str, newS_bool, newS_none, newS_tup, newS_lst, newS_dic, newS_ff, setS_k, kSS_un, kSS_sh, kSS_ow, kSS_bo, setB_sh, setB_un, setB_ow, kSS_pl, setTg_one, setTg_tup, setAll_nil, setAll_cons, kSA_some, kLk_sh, kLk_owt, kLk_owf, kLk_io, kLk_lk, kLk_pkt, kLk_pk_tup, kLk_pk_int, kLk_pk_str, notOw_0, plainS_sh, plainS_un, owL_ow, owL_io, owD_ow, owD_io, withD_ow, withD_io, slotD_ow, slotD_io, slotP_sh, slotP_ow, slotP_io, slotP_pk, slotP_lk, execs_nil, execs_cons, kSeq_next, kSeq_ret, kSeq_exc, kSeq_brk, kSeq_cont, x_set, kSet_ok, kSet_exc, x_setT, kSetT_ok, kSetT_exc, x_exp, kExp_ok, kExp_exc, x_app, kApC_ff, kApD_tt, kApB_ok, kApC_tt, kApp_ok, kAv_ok, x_ext, kExC_tt, kExt_ok, kExt_okt, kEv_ok, isSome_some, x_ret, kRet_ok, kRet_exc, vr_cst, fe_cst, vr_gl, fe_gl, fe_var, vr_tup, fe_tup, vr_lst, fe_lst, vr_dic0, fe_dic0, vr_bin, fe_bin, vr_neg, fe_neg, vr_cmp, fe_cmp, vr_chn, fe_chn, vr_and_, fe_and_, vr_or_, fe_or_, vr_not_, fe_not_, vr_ife, fe_ife, vr_call, fe_call, vr_callF, fe_callF, vr_srt, fe_srt, vr_bi, fe_bi, vr_isi, fe_isi, vr_rev, fe_rev, vr_joi, fe_joi, vr_mget, fe_mget, vr_ix, fe_ix, vr_slc, fe_slc, vr_lc, fe_lc, vr_pop0, fe_pop0, vr_pop1, fe_pop1, vr_setd, fe_setd, x_retF, kRf_int, kRf_bool, kRf_none, kRf_tup, kRf_str, kRf_exc, x_retV, kRv_ow, kRv_tup, kRv_int, kRv_str, kRv_bool, kRv_none, x_retN, x_iff, kTst_ok, kTst_exc, kIf_tt, kIf_ff, x_for, kFor_ok, x_forV, kFV_sh, kFV_pk, kFV_lk, kFV_ow, kFV_io, kFi_some, unlk_k, kUl_ow, kUl_io, unl_next, unl_ret, unl_exc, x_pass, x_brk, x_cont, x_whl, x_par, kPar1_ok, kPar2_ok, kPar3_ok, kPutC_ff, kPutL_tt, kPutM_ok, owD_owl, owD_iol, x_put, kPut1_ok, kPutC_tt, kPut2_ok, kPv_ok, boOf_bo, odOf_od, lsOf_l, dcOf_d, shOf_sh, deepOf_od, deepOf_0, owL_bo, isSome_none, emptyB_t, emptyB_f, deepV_k, x_bor, kBoC_tt, kBo1_ok, kBo2_ok, x_bo0, kB0C_tt, kB01_ok, x_boP, kBP0_ok, kBP1_tt, kBP2_ok, kBP3_ok, kBP4_ok, putBo_k, unbo_nil, unbo_cons, ubS_un, ubS_sh, ubS_ow, ubS_io, ubS_pk, ubS_lk, ubS_od, ubS_bo, e_cst, e_glo, ev_var, ev_tup, ev_lst, kTup_ok, kLst_ok, ev_dic, ev_bin, kBin1_ok, kBin2_ok, ev_neg, kNeg_ok, ev_cmp, kCmp1_ok, kCmp2_ok, kBl_some, ev_chn, kCh1_ok, kCh2_ok, kCh3_tt, kCh3_ff, ev_and, ev_or, ev_not, ev_ife, kAnd_tt, kAnd_ff, kOr_tt, kOr_ff, kNot_ok, kIfe_tt, kIfe_ff, ev_call, kCall_ok, kCall_exc, kCv1_ok, kCv2_ok, kCv2_exc, ev_callF, kCF1_l, kCF1_d, kCF2_ok, kCw1_ok, kCw2_ok, kCw2_exc, slOk_nil, slOk_a, io_nil, io_cons, io_io, io_pk, fill_nil, fill_a, fill_s, fill_p, kFl_ok, kFs_ok, put_nil, put_a, put_p, put_s, put_00, ev_bi, kBi_ok, ev_isi, kIsi_ok, ev_ix, kIx1_ok, kIx2_ok, ev_slc, kSl1_ok, kSl2_ok, kSl3_ok, eo_no, eo_so, kOi_ok, et_no, et_so, el_nil, el_cons, el_io, el_pk, kLc0_tt, kL1_ok, kL1_exc, kL2_ok, ep_nil, ep_cons, kP1_ok, ev_rev, kRev_ok, ev_srt, kSrt_ok, kSr2_ok, ev_joi, kJo1_ok, kJo2_ok, ev_mget, kMg1_ok, kMg2_ok, ev_pop0, ev_pop1, kPoC_tt, kPo_ok, ev_setd, kSdC_tt, kSd1_ok, kSd2_ok, ei_val, kIt_ok, ei_rng1, kR1_ok, ei_rng2, kR2_ok, kR3_ok, ei_zip, kZ1_ok, kZ2_ok, ei_enm, kEn_ok, ev_lc, lcB_k, kB1_ok, kOne_tt, kOne_ff, kSm_ok, kF1_ok, kF2_next, kF2_cont, kF2_brk, kF2_ret, kF2_exc, kW1_tt, kW1_ff, kW2_next, kW2_cont, kW2_brk, kW2_ret, out_next, out_ret, out_exc, crO_ok, outK_no, outK_s, outs_nil, outs_a, outs_p, outs_s, kOs_ok, ix_dict, in_dict, dict_of, bq_tupl, bq_tupt, bq_lisl, bq_list, bq_inti, bq_min, bq_max, bq_sort, slc_list, slc_tup, get_2, get_1, zip_tup, zip_list, items_dict, cmp_eq_dct, cmp_ne_dct, List.tail_cons, kRv_od, kLk_od, kRf_tt, forS_nil, forS_cons, b_beq_true, pureE, pureL, pureO, pureI, wipeR, backR, List.getElem?_cons_zero, List.getElem?_cons_succ, List.set_cons_zero, List.set_cons_succ, List.append_nil, List.nil_append, List.cons_append, reduceIte, Bool.false_eq_true, Option.map_some, Option.map_none, Bool.false_and, Bool.true_and, Bool.and_false, Bool.and_true, Bool.or_false, Bool.or_true, Bool.false_or, Bool.true_or, Bool.not_true, Bool.not_false, List.all_cons, List.all_nil, List.length_cons, List.length_nil, Nat.reduceAdd, beq_self_eq_true, pu_x1_replaced_by, pu_x1__law_names, pu_x2__law_names, pu_x1__law_literal, pu_q1__law_literal, pu_x2__law_literal, pu_x3__law_literal, pu_q1__law_body, pu_x1__law_body, pu_x1__law_stands, pu_q1_law, pu_x1_law, so_0, so_1, so_2, so_3, oc_a, oc_aa, oc_aaa, oc_aaaa, oc_ap, oc_apa, oc_saa, oc_sas, $es,*])
/-! cells and streams of a script -/
theorem mulOk_l (i j : Int) (h0 : -(2 ^ 64) < i) (h1 : i < 2 ^ 64) : mulOk i j = true := by
  unfold mulOk
  simp only [h0, h1, decide_true, Bool.and_self, Bool.true_or]
theorem mulOk_r (i j : Int) (h0 : -(2 ^ 64) < j) (h1 : j < 2 ^ 64) : mulOk i j = true := by
  unfold mulOk
  simp only [h0, h1, decide_true, Bool.and_self, Bool.true_or, Bool.or_true]
theorem bin_mul (i j : Int) (h : mulOk i j = true) : binD .Mult (.int i) (.int j) = some (.int (i * j)) := by simp only [binD, h, guard_tt]
theorem bin_mulr (i j : Int) (h0 : -(2 ^ 64) < j) (h1 : j < 2 ^ 64) : binD .Mult (.int i) (.int j) = some (.int (i * j)) := bin_mul i j (mulOk_r i j h0 h1)
theorem bin_mull (i j : Int) (h0 : -(2 ^ 64) < i) (h1 : i < 2 ^ 64) : binD .Mult (.int i) (.int j) = some (.int (i * j)) := bin_mul i j (mulOk_l i j h0 h1)
theorem szOk_of {n : Nat} (h : n ≤ 1000) : szOk n = true := by unfold szOk; simp; omega
theorem mt1 (a b : Int) : (a * 7919 : Int) = a * 7919 := rfl
theorem law_cell_ok (k : Nat) (ns : List Int) (i : Int) (h0 : 0 ≤ i) (h1 : i ≤ 1000) : ∃ c : Int, callF TB (k + 1) (Str.ofString "_law_cell") [.list (ns.map .int), .int i] = .ok (.int c) [] := by
  rw [cl__law_cell]
  have m1 := bin_mulr i 7919 (by decide) (by decide)
  have m2 := fun x : Int => bin_mod x 2147483647 (by decide)
  have m3 := fun x : Int => bin_mod x 2147483629 (by decide)
  have m4 := fun x : Int => bin_mulr x 48271 (by decide) (by decide)
  have m5 := bin_mulr i 7 (by decide) (by decide)
  by_cases h : i < ns.length
  · obtain ⟨d, e, g⟩ := atI_in (ns.map PyData.int) h0 (by rw [List.length_map]; exact h)
    rw [List.mem_map] at g
    obtain ⟨c, _, rfl⟩ := g
    refine ⟨c, ?_⟩
    dsimp?! [b__law_cell, List.length_map, h, decide_true, e]
  · by_cases hn : (0 : Int) < ns.length
    · obtain ⟨d, e, g⟩ := atI_mod (ns.map PyData.int) (n := (ns.length : Int)) (i * 7) (by rw [List.length_map]) hn
      rw [List.mem_map] at g
      obtain ⟨c, _, rfl⟩ := g
      have m6 := bin_mod (i * 7) ns.length hn
      have hz := Int.emod_nonneg (c * 48271 + i * 7919) (b := 2147483647) (by decide)
      have hy := Int.emod_lt_of_pos (c * 48271 + i * 7919) (b := 2147483647) (by decide)
      have m7 := bin_mull ((c * 48271 + i * 7919) % 2147483647) ((c * 48271 + i * 7919) % 2147483647) (by omega) (by omega)
      refine ⟨(c * 48271 + i * 7919) % 2147483647 * ((c * 48271 + i * 7919) % 2147483647) % 2147483629, ?_⟩
      dsimp?! [b__law_cell, List.length_map, h, hn, decide_true, decide_false, m1, m2, m3, m4, m5, m6, e, m7]
    · have m7 := bin_mull (i * 7919 + 5) (i * 7919 + 5) (by omega) (by omega)
      refine ⟨(i * 7919 + 5) * (i * 7919 + 5) % 2147483629, ?_⟩
      dsimp?! [b__law_cell, List.length_map, h, hn, decide_true, decide_false, m1, m3, m7]
theorem rng_small (i : Int) (h0 : 0 ≤ i) (h1 : i ≤ 1000) : rngD 0 i = some ((List.range i.toNat).map fun (k : Nat) => .int (0 + k)) := by
  unfold rngD
  rw [show (decide (-(2 ^ 62 : Int) ≤ 0) && decide ((0 : Int) < 2 ^ 62) && decide (-(2 ^ 62) ≤ i) && decide (i < 2 ^ 62)) = true by
    simp only [Bool.and_eq_true, decide_eq_true_eq]; omega, guard_tt, Int.sub_zero]
theorem rng_two (i j : Int) (h0 : 0 ≤ i) (h1 : i ≤ 1000) (h2 : 0 ≤ j) (h3 : j ≤ 1000) : rngD i j = some ((List.range (j - i).toNat).map fun (k : Nat) => .int (i + k)) := by
  unfold rngD
  rw [show (decide (-(2 ^ 62 : Int) ≤ i) && decide (i < 2 ^ 62) && decide (-(2 ^ 62) ≤ j) && decide (j < 2 ^ 62)) = true by
    simp only [Bool.and_eq_true, decide_eq_true_eq]; omega, guard_tt]
theorem stream_loop (cf : Str → List D → CR) (c m : Int) : ∀ (ds : List D) (xs : List Int) (q : Int) (l : Sl), (∀ x ∈ xs, 0 ≤ x) → xs.length + ds.length ≤ 1000 → setB l = true →
    ∃ (xs' : List Int) (q' : Int) (l' : Sl), forS (setTg [4] false) (execs cf true l1__law_stream) ds [.sh (.int c), .sh (.int m), .ow (.list (xs.map .int)), .sh (.int q), l] = .next [.sh (.int c), .sh (.int m), .ow (.list (xs'.map .int)), .sh (.int q'), l'] ∧ xs'.length = xs.length + ds.length ∧ ∀ x ∈ xs', 0 ≤ x
  | [], xs, q, l, h, _, _ => ⟨xs, q, l, by rw [forS_nil], rfl, h⟩
  | d :: ds, xs, q, l, h, hl, hb => by
    rw [List.length_cons] at hl
    have p1 : binD .Pow (.int 10) (.int 4) = some (.int 10000) := by kernel_rfl
    have f1 := bin_fdiv q 10000 (by decide) (by decide +kernel)
    have m1 := fun x => bin_mod x 10000 (by decide)
    have m2 := fun x => bin_mod x 2 (by decide)
    have m3 := fun x => bin_mod x 2147483647 (by decide)
    have m4 := fun x => bin_mod x 2147483629 (by decide)
    have t1 := fun x : Int => bin_mulr x 48271 (by decide) (by decide)
    have t2 := fun x : Int => bin_mulr x 69621 (by decide) (by decide)
    have hlen : (xs.map PyData.int).length < 16777216 := by rw [List.length_map]; omega
    have hs : setTg [4] false d [.sh (.int c), .sh (.int m), .ow (.list (xs.map .int)), .sh (.int q), l] = some [.sh (.int c), .sh (.int m), .ow (.list (xs.map .int)), .sh (.int q), .sh d] := by
      dsimp?! [hb]
    by_cases h2 : c % 2 = 1
    · obtain ⟨xs', q', l', e, e2, e3⟩ := stream_loop cf c m ds (xs ++ [q % 10000]) (q / 10000) (.sh d) (by
        intro x hx
        rw [List.mem_append, List.mem_singleton] at hx
        rcases hx with hx | rfl
        · exact h x hx
        · omega) (by rw [List.length_append]; simp; omega) rfl
      refine ⟨xs', q', l', ?_, by rw [e2, List.length_append, List.length_cons]; simp; omega, e3⟩
      have hb2 : execs cf true l1__law_stream [.sh (.int c), .sh (.int m), .ow (.list (xs.map .int)), .sh (.int q), .sh d] = .next [.sh (.int c), .sh (.int m), .ow (.list ((xs ++ [q % 10000]).map .int)), .sh (.int (q / 10000)), .sh d] := by
        dsimp?! [l1__law_stream, m2, h2, decide_true, p1, m1, f1, hlen, List.map_append, List.map_cons, List.map_nil]
      rw [forS_cons, hs, kF1_ok, hb2, kF2_next, e]
    · obtain ⟨xs', q', l', e, e2, e3⟩ := stream_loop cf c m ds (xs ++ [(q * 48271 + 12345) % 2147483647 * 69621 % 2147483629]) ((q * 48271 + 12345) % 2147483647) (.sh d) (by
        intro x hx
        rw [List.mem_append, List.mem_singleton] at hx
        rcases hx with hx | rfl
        · exact h x hx
        · omega) (by rw [List.length_append]; simp; omega) rfl
      refine ⟨xs', q', l', ?_, by rw [e2, List.length_append, List.length_cons]; simp; omega, e3⟩
      have hb2 : execs cf true l1__law_stream [.sh (.int c), .sh (.int m), .ow (.list (xs.map .int)), .sh (.int q), .sh d] = .next [.sh (.int c), .sh (.int m), .ow (.list ((xs ++ [(q * 48271 + 12345) % 2147483647 * 69621 % 2147483629]).map .int)), .sh (.int ((q * 48271 + 12345) % 2147483647)), .sh d] := by
        dsimp?! [l1__law_stream, m2, h2, decide_false, m3, m4, t1, t2, hlen, List.map_append, List.map_cons, List.map_nil]
      rw [forS_cons, hs, kF1_ok, hb2, kF2_next, e]
theorem law_stream_ok (k : Nat) (c : Int) (m : Int) (h0 : 0 ≤ m) (h1 : m ≤ 1000) : ∃ xs : List Int, callF TB (k + 1) (Str.ofString "_law_stream") [.int c, .int m] = .ok (.list (xs.map .int)) [] ∧ xs.length = m.toNat ∧ ∀ x ∈ xs, 0 ≤ x := by
  rw [cl__law_stream]
  have f1 := bin_fdiv c 2 (by decide) (by decide +kernel)
  obtain ⟨xs', q', l', e, e2, e3⟩ := stream_loop (callF TB k) c m ((List.range m.toNat).map fun (k : Nat) => .int (0 + k)) [] (c / 2) .un (fun x hx => (List.not_mem_nil hx).elim) (by simp; omega) rfl
  refine ⟨xs', ?_, by rw [e2]; simp, e3⟩
  simp only [List.map_nil] at e
  dsimp?! [b__law_stream, f1, rng_small m h0 h1, e]
theorem at_int {xs : List Int} (h : ∀ x ∈ xs, 0 ≤ x) {i : Int} (h0 : 0 ≤ i) (h1 : i < xs.length) : ∃ x : Int, atI (xs.map PyData.int) i = some (.int x) ∧ x ∈ xs ∧ 0 ≤ x := by
  obtain ⟨d, e, g⟩ := atI_in (xs.map PyData.int) h0 (by rw [List.length_map]; exact h1)
  rw [List.mem_map] at g
  obtain ⟨c, h2, rfl⟩ := g
  exact ⟨c, e, h2, h c h2⟩
end DI
set_option Elab.async false
set_option linter.all false
set_option maxRecDepth 100000
set_option maxHeartbeats 4000000
namespace DI
open PySem PySem.Spec PyProof.Rows L2
/-! names of a script -/
theorem of_all {α : Type} {f : α → D} {Q : α → Prop} : ∀ {rs : List D}, (∀ r ∈ rs, ∃ a, Q a ∧ r = f a) → ∃ as : List α, rs = as.map f ∧ ∀ a ∈ as, Q a
  | [], _ => ⟨[], rfl, fun a h => (List.not_mem_nil h).elim⟩
  | r :: rs, h => by
    obtain ⟨a, h1, rfl⟩ := h r List.mem_cons_self
    obtain ⟨as, rfl, h2⟩ := of_all (rs := rs) fun r hr => h r (List.mem_cons_of_mem _ hr)
    refine ⟨a :: as, rfl, fun b hb => ?_⟩
    rcases List.mem_cons.mp hb with rfl | hb
    · exact h1
    · exact h2 b hb
open Classical in
theorem lc_all {cf : Str → List D → CR} {own tg : List Nat} {isT : Bool} {ifs : CO} {elt : CE} {ρ : Rho} {ds : List D} (P : D → D → Prop) (hn : (own.all (notOw ρ)) = true)
    (h : ∀ d ∈ ds, ∃ x, P d x ∧ ∀ ρ0, ∃ ρ', lcB cf tg isT ifs elt ρ0 d (wipeR ρ own) = .ok (some x) ρ' ∧ wipeR ρ' own = wipeR ρ own ∧ (own.all (notOw ρ')) = true) :
    ∃ rs : List D, kLc cf own tg isT ifs elt (.ok ds ρ) = eob (guardP (szOk ds.length) (some (.list rs))) ρ ∧ rs.length = ds.length ∧ (∀ (i : Nat) (d : D), ds[i]? = some d → ∃ r, rs[i]? = some r ∧ P d r) ∧ ∀ r ∈ rs, ∃ d ∈ ds, P d r := by
  have hg : ∀ d : D, ∃ x : D, d ∈ ds → (P d x ∧ ∀ ρ0, ∃ ρ', lcB cf tg isT ifs elt ρ0 d (wipeR ρ own) = .ok (some x) ρ' ∧ wipeR ρ' own = wipeR ρ own ∧ (own.all (notOw ρ')) = true) := fun d => by
    by_cases hd : d ∈ ds
    · obtain ⟨x, hx⟩ := h d hd
      exact ⟨x, fun _ => hx⟩
    · exact ⟨.none, fun h => absurd h hd⟩
  obtain ⟨g, hg⟩ := Classical.skolem.mp hg
  have e := lc_st (cf := cf) (tg := tg) (isT := isT) (ifs := ifs) (elt := elt) (ds := ds) (fun d => some (g d)) hn fun d hd ρ0 => (hg d hd).2 ρ0
  refine ⟨ds.map g, ?_, by rw [List.length_map], fun i d hi => ⟨g d, ?_, (hg d (List.mem_of_getElem? hi)).1⟩, fun r hr => ?_⟩
  · rw [e]
    congr 4
    induction ds with
    | nil => rfl
    | cons d ds ih => simp
  · rw [List.getElem?_map, hi]
    rfl
  · rw [List.mem_map] at hr
    obtain ⟨d, hd, rfl⟩ := hr
    exact ⟨d, hd, (hg d hd).1⟩
theorem joinE_cps : ∀ ys : List Str, (Str.join ⟨#[]⟩ ys).cps.toList = ys.flatMap fun y => y.cps.toList
  | [] => rfl
  | [x] => by
    show x.cps.toList = _
    simp
  | x :: y :: r => by
    have e : Str.join ⟨#[]⟩ (x :: y :: r) = x ++ ⟨#[]⟩ ++ Str.join ⟨#[]⟩ (y :: r) := rfl
    have a : ∀ a b : Str, (a ++ b).cps.toList = a.cps.toList ++ b.cps.toList := fun a b => by
      show (a.cps ++ b.cps).toList = _
      simp
    rw [e, a, a, joinE_cps (y :: r), List.flatMap_cons]
    simp
def one (c : Nat) : D := .str ⟨#[c]⟩
theorem strsOf_ones : ∀ cs : List Nat, strsOf (cs.map one) = some (cs.map fun c => ⟨#[c]⟩)
  | [] => rfl
  | c :: cs => by
    show (strsOf (cs.map one)).map _ = _
    rw [strsOf_ones cs]
    rfl
theorem joi_ones (cs : List Nat) (h : cs.length ≤ 1000) : joiD (Str.ofString "") (.list (cs.map one)) = some (.str ⟨cs.toArray⟩) := by
  show joinS _ (strsOf (cs.map one)) = _
  rw [strsOf_ones]
  have e0 : Str.ofString "" = ⟨#[]⟩ := rfl
  have e1 : ((cs.map fun c => (⟨#[c]⟩ : Str)).map (·.length)).sum = cs.length := by
    clear h
    induction cs with
    | nil => rfl
    | cons c cs ih =>
      rw [List.map_cons, List.map_cons, List.sum_cons, ih, List.length_cons, Nat.add_comm]
      rfl
  have e2 : (Txt.join ⟨#[]⟩ (cs.map fun c => ⟨#[c]⟩)) = ⟨cs.toArray⟩ := by
    rw [TL.join_eq]
    have := joinE_cps (cs.map fun c => ⟨#[c]⟩)
    rw [show (cs.map fun c => (⟨#[c]⟩ : Str)).flatMap (fun y => y.cps.toList) = cs by
      clear h e1 this
      induction cs with
      | nil => rfl
      | cons c cs ih => rw [List.map_cons, List.flatMap_cons, ih]; rfl] at this
    generalize Str.join ⟨#[]⟩ (cs.map fun c => ⟨#[c]⟩) = z at this
    cases z with
    | mk q =>
      show (⟨q⟩ : Str) = _
      rw [← this]
  rw [e0]
  show guardP (decide (((cs.map fun c => (⟨#[c]⟩ : Str)).map (·.length)).sum + (cs.map fun c => (⟨#[c]⟩ : Str)).length * 0 ≤ 16777216)) (some (PyData.str (Txt.join ⟨#[]⟩ (cs.map fun c => ⟨#[c]⟩)))) = _
  rw [e1, e2, Nat.mul_zero, Nat.add_zero, show decide (cs.length ≤ 16777216) = true from decide_eq_true (by omega), guard_tt]
def LET : Str := Str.ofString "abcdefghijklmnopqrstuvwxyz"
def GRE : Str := Str.ofString "ABCDEFGHIJKLMNOPQRSTUVWXYZ"
def FIG : Str := Str.ofString "0123456789"
def WRD : List D := [(PyData.str (Str.ofString "not")), (.str (Str.ofString "if")), (.str (Str.ofString "under")), (.str (Str.ofString "unlike")), (.str (Str.ofString "sum")), (.str (Str.ofString "least")), (.str (Str.ofString "count"))]
def hasB (x y : Str) : Bool := x.cps.toList.all fun c => decide (c ∈ y.cps.toList)
def inW (x : Str) : Bool := WRD.any fun (z : D) => PyData.eqv z (.str x)
def lenB (x : Str) : Bool := decide ((1 : Int) ≤ x.length) && decide ((x.length : Int) ≤ 8)
def isName : D → Bool
  | .str x => lenB x && (hasB x LET && !inW x)
  | _ => false
theorem inW_ok (x : Str) : inD (.str x) (.tuple [(.str (Str.ofString "not")), (.str (Str.ofString "if")), (.str (Str.ofString "under")), (.str (Str.ofString "unlike")), (.str (Str.ofString "sum")), (.str (Str.ofString "least")), (.str (Str.ofString "count"))]) = some (inW x) := rfl
theorem bi_intb (b : Bool) : ∃ t : Int, biD "int" [.bool b] = some (.int t) ∧ 0 ≤ t ∧ t ≤ 1 := by
  cases b
  · exact ⟨0, rfl, by decide, by decide⟩
  · exact ⟨1, rfl, by decide, by decide⟩
theorem at_let (i : Int) : ∃ c, atI (Str.ofString "abcdefghijklmnopqrstuvwxyz").cps.toList (i % 26) = some c ∧ c ∈ LET.cps.toList := atI_mod _ (n := 26) i (by decide +kernel) (by decide)
theorem inW_mem {x : Str} (h : inW x = true) : x ∈ [Str.ofString "not", Str.ofString "if", Str.ofString "under", Str.ofString "unlike", Str.ofString "sum", Str.ofString "least", Str.ofString "count"] := by
  unfold inW WRD at h
  simp only [List.any_cons, List.any_nil, eqv_str, Bool.or_false, Bool.or_eq_true, beq_iff_eq] at h
  simp only [List.mem_cons, List.not_mem_nil, or_false]
  rcases h with h | h | h | h | h | h | h <;> subst h <;> simp
theorem name_of {cs : List Nat} (h0 : 1 ≤ cs.length) (h1 : cs.length ≤ 8) (h : ∀ c ∈ cs, c ∈ LET.cps.toList) : (if inW ⟨cs.toArray⟩ = true then isName (.str (Str.ofString "x" ++ ⟨cs.toArray⟩)) else isName (.str ⟨cs.toArray⟩)) = true := by
  by_cases hw : inW ⟨cs.toArray⟩ = true
  · rw [if_pos hw]
    have := inW_mem hw
    simp only [List.mem_cons, List.not_mem_nil, or_false] at this
    rcases this with e | e | e | e | e | e | e <;> rw [e] <;> decide +kernel
  · rw [if_neg hw]
    have e1 : (⟨cs.toArray⟩ : Str).length = cs.length := by simp [Str.length]
    simp only [isName, lenB, e1, hasB, Bool.and_eq_true, decide_eq_true_eq, List.all_eq_true]
    refine ⟨⟨by omega, by omega⟩, h, ?_⟩
    simpa using hw
end DI
set_option Elab.async false
set_option linter.all false
set_option maxRecDepth 100000
set_option maxHeartbeats 4000000
namespace DI
open PySem PySem.Spec PyProof.Rows L2
local macro_rules | `(tactic| dsimp?! [$es,*]) => `(tactic| simp only [isi_str, isi_tuple, isi_list, isi_bool, isi_int, isi_dict, asB_bool, asI_int, guard_tt, guard_ff, lenL, lenT, lenS, shp_int, shp_str, shp_bool, shp_none, cmp_eq_int, cmp_ne_int, cmp_eq_bool, cmp_ne_bool, cmp_eq_str, cmp_ne_str, cmp_lt_int, cmp_gt_int, cmp_le_int, cmp_ge_int, cmp_le_str, cmp_ge_str, cmp_gt_str, cmp_lt_str, cmp_in, cmp_nin, cmp_is, cmp_isn, isD_bool, isD_none, bin_add, bin_sub, bin_adds, bin_addl, bin_addt, ix_list, ix_tup, ix_str, items_list, items_tup, items_str, notOw_sh, notOw_un, notOw_succ, b_beq_false, szl0, szl1, szl2, szl3, szl4, szl5, szl6, szl7, szl8, szl9, szl10, szl11, szl12, szl13, szl14, szl15, szl16, eob_some, eob_none, nxO_some, newS_int, newS_str, newS_bool, newS_none, newS_tup, newS_lst, newS_dic, newS_ff, setS_k, kSS_un, kSS_sh, kSS_ow, kSS_bo, setB_sh, setB_un, setB_ow, kSS_pl, setTg_one, setTg_tup, setAll_nil, setAll_cons, kSA_some, kLk_sh, kLk_owt, kLk_owf, kLk_io, kLk_lk, kLk_pkt, kLk_pk_tup, kLk_pk_int, kLk_pk_str, notOw_0, plainS_sh, plainS_un, owL_ow, owL_io, owD_ow, owD_io, withD_ow, withD_io, slotD_ow, slotD_io, slotP_sh, slotP_ow, slotP_io, slotP_pk, slotP_lk, execs_nil, execs_cons, kSeq_next, kSeq_ret, kSeq_exc, kSeq_brk, kSeq_cont, x_set, kSet_ok, kSet_exc, x_setT, kSetT_ok, kSetT_exc, x_exp, kExp_ok, kExp_exc, x_app, kApC_ff, kApD_tt, kApB_ok, kApC_tt, kApp_ok, kAv_ok, x_ext, kExC_tt, kExt_ok, kExt_okt, kEv_ok, isSome_some, x_ret, kRet_ok, kRet_exc, vr_cst, fe_cst, vr_gl, fe_gl, fe_var, vr_tup, fe_tup, vr_lst, fe_lst, vr_dic0, fe_dic0, vr_bin, fe_bin, vr_neg, fe_neg, vr_cmp, fe_cmp, vr_chn, fe_chn, vr_and_, fe_and_, vr_or_, fe_or_, vr_not_, fe_not_, vr_ife, fe_ife, vr_call, fe_call, vr_callF, fe_callF, vr_srt, fe_srt, vr_bi, fe_bi, vr_isi, fe_isi, vr_rev, fe_rev, vr_joi, fe_joi, vr_mget, fe_mget, vr_ix, fe_ix, vr_slc, fe_slc, vr_lc, fe_lc, vr_pop0, fe_pop0, vr_pop1, fe_pop1, vr_setd, fe_setd, x_retF, kRf_int, kRf_bool, kRf_none, kRf_tup, kRf_str, kRf_exc, x_retV, kRv_ow, kRv_tup, kRv_int, kRv_str, kRv_bool, kRv_none, x_retN, x_iff, kTst_ok, kTst_exc, kIf_tt, kIf_ff, x_for, kFor_ok, x_forV, kFV_sh, kFV_pk, kFV_lk, kFV_ow, kFV_io, kFi_some, unlk_k, kUl_ow, kUl_io, unl_next, unl_ret, unl_exc, x_pass, x_brk, x_cont, x_whl, x_par, kPar1_ok, kPar2_ok, kPar3_ok, kPutC_ff, kPutL_tt, kPutM_ok, owD_owl, owD_iol, x_put, kPut1_ok, kPutC_tt, kPut2_ok, kPv_ok, boOf_bo, odOf_od, lsOf_l, dcOf_d, shOf_sh, deepOf_od, deepOf_0, owL_bo, isSome_none, emptyB_t, emptyB_f, deepV_k, x_bor, kBoC_tt, kBo1_ok, kBo2_ok, x_bo0, kB0C_tt, kB01_ok, x_boP, kBP0_ok, kBP1_tt, kBP2_ok, kBP3_ok, kBP4_ok, putBo_k, unbo_nil, unbo_cons, ubS_un, ubS_sh, ubS_ow, ubS_io, ubS_pk, ubS_lk, ubS_od, ubS_bo, e_cst, e_glo, ev_var, ev_tup, ev_lst, kTup_ok, kLst_ok, ev_dic, ev_bin, kBin1_ok, kBin2_ok, ev_neg, kNeg_ok, ev_cmp, kCmp1_ok, kCmp2_ok, kBl_some, ev_chn, kCh1_ok, kCh2_ok, kCh3_tt, kCh3_ff, ev_and, ev_or, ev_not, ev_ife, kAnd_tt, kAnd_ff, kOr_tt, kOr_ff, kNot_ok, kIfe_tt, kIfe_ff, ev_call, kCall_ok, kCall_exc, kCv1_ok, kCv2_ok, kCv2_exc, ev_callF, kCF1_l, kCF1_d, kCF2_ok, kCw1_ok, kCw2_ok, kCw2_exc, slOk_nil, slOk_a, io_nil, io_cons, io_io, io_pk, fill_nil, fill_a, fill_s, fill_p, kFl_ok, kFs_ok, put_nil, put_a, put_p, put_s, put_00, ev_bi, kBi_ok, ev_isi, kIsi_ok, ev_ix, kIx1_ok, kIx2_ok, ev_slc, kSl1_ok, kSl2_ok, kSl3_ok, eo_no, eo_so, kOi_ok, et_no, et_so, el_nil, el_cons, el_io, el_pk, kLc0_tt, kL1_ok, kL1_exc, kL2_ok, ep_nil, ep_cons, kP1_ok, ev_rev, kRev_ok, ev_srt, kSrt_ok, kSr2_ok, ev_joi, kJo1_ok, kJo2_ok, ev_mget, kMg1_ok, kMg2_ok, ev_pop0, ev_pop1, kPoC_tt, kPo_ok, ev_setd, kSdC_tt, kSd1_ok, kSd2_ok, ei_val, kIt_ok, ei_rng1, kR1_ok, ei_rng2, kR2_ok, kR3_ok, ei_zip, kZ1_ok, kZ2_ok, ei_enm, kEn_ok, ev_lc, lcB_k, kB1_ok, kOne_tt, kOne_ff, kSm_ok, kF1_ok, kF2_next, kF2_cont, kF2_brk, kF2_ret, kF2_exc, kW1_tt, kW1_ff, kW2_next, kW2_cont, kW2_brk, kW2_ret, out_next, out_ret, out_exc, crO_ok, outK_no, outK_s, outs_nil, outs_a, outs_p, outs_s, kOs_ok, ix_dict, in_dict, dict_of, bq_tupl, bq_tupt, bq_lisl, bq_list, bq_inti, bq_min, bq_max, bq_sort, slc_list, slc_tup, get_2, get_1, zip_tup, zip_list, items_dict, cmp_eq_dct, cmp_ne_dct, List.tail_cons, kRv_od, kLk_od, kRf_tt, forS_nil, forS_cons, b_beq_true, pureE, pureL, pureO, pureI, wipeR, backR, List.getElem?_cons_zero, List.getElem?_cons_succ, List.set_cons_zero, List.set_cons_succ, List.append_nil, List.nil_append, List.cons_append, reduceIte, Bool.false_eq_true, Option.map_some, Option.map_none, Bool.false_and, Bool.true_and, Bool.and_false, Bool.and_true, Bool.or_false, Bool.or_true, Bool.false_or, Bool.true_or, Bool.not_true, Bool.not_false, List.all_cons, List.all_nil, List.length_cons, List.length_nil, Nat.reduceAdd, beq_self_eq_true, pu_x1_replaced_by, pu_x1__law_names, pu_x2__law_names, pu_x1__law_literal, pu_q1__law_literal, pu_x2__law_literal, pu_x3__law_literal, pu_q1__law_body, pu_x1__law_body, pu_x1__law_stands, pu_q1_law, pu_x1_law, so_0, so_1, so_2, so_3, oc_a, oc_aa, oc_aaa, oc_aaaa, oc_ap, oc_apa, oc_saa, oc_sas, $es,*])
theorem ne_tt {b : Bool} (h : b = true) : b = true := h
theorem names_loop (k : Nat) (c m : D) (size at_ : Int) (base : List Int) (hs0 : 1 ≤ size) (hs1 : size ≤ 8) (hb : base.length = 8) : ∀ (ks : List Int), (∀ i ∈ ks, 0 ≤ i ∧ i ≤ 1000) → ∀ (nms : List Str) (s8 s9 : Sl), (∀ y ∈ nms, isName (.str y) = true) → nms.length + ks.length ≤ 1000 → setB s8 = true → setB s9 = true →
    ∃ (nms' : List Str) (s8' s9' : Sl), forS (setTg [8] false) (execs (callF TB k) true l1__law_names) (ks.map PyData.int)
      [.sh c, .sh m, .sh (.str (Str.ofString "abcdefghijklmnopqrstuvwxyz")), .sh (.int size), .sh (.int at_), .ow (.list (base.map .int)), .un, .ow (.list (nms.map .str)), s8, s9, .un] =
      .next [.sh c, .sh m, .sh (.str (Str.ofString "abcdefghijklmnopqrstuvwxyz")), .sh (.int size), .sh (.int at_), .ow (.list (base.map .int)), .un, .ow (.list (nms'.map .str)), s8', s9', .un] ∧
      nms'.length = nms.length + ks.length ∧ ∀ y ∈ nms', isName (.str y) = true
  | [], _, nms, s8, s9, h, _, _, _ => ⟨nms, s8, s9, by rw [List.map_nil, forS_nil], rfl, h⟩
  | i :: ks, hk, nms, s8, s9, h, hl, h8, h9 => by
    rw [List.length_cons] at hl
    obtain ⟨hi0, hi1⟩ := hk i List.mem_cons_self
    have hrng := rng_small size (by omega) (by omega)
    have t3 := bin_mull 3 i (by decide) (by decide)
    have m26 := fun x => bin_mod x 26 (by decide)
    have hlen : (nms.map PyData.str).length < 16777216 := by rw [List.length_map]; omega
    have hz : szOk ((List.range size.toNat).map fun (k : Nat) => PyData.int (0 + k)).length = true := szOk_of (by simp; omega)
    have hset : setTg [8] false (.int i) [.sh c, .sh m, .sh (.str (Str.ofString "abcdefghijklmnopqrstuvwxyz")), .sh (.int size), .sh (.int at_), .ow (.list (base.map .int)), .un, .ow (.list (nms.map .str)), s8, s9, .un] = some [.sh c, .sh m, .sh (.str (Str.ofString "abcdefghijklmnopqrstuvwxyz")), .sh (.int size), .sh (.int at_), .ow (.list (base.map .int)), .un, .ow (.list (nms.map .str)), .sh (.int i), s9, .un] := by
      dsimp?! [h8]
    obtain ⟨rs, e1, e2, _, e3⟩ := lc_all (cf := callF TB k) (own := [10]) (tg := [10]) (isT := false) (ifs := .no) (elt := x1__law_names) (ρ := [.sh c, .sh m, .sh (.str (Str.ofString "abcdefghijklmnopqrstuvwxyz")), .sh (.int size), .sh (.int at_), .ow (.list (base.map .int)), .un, .ow (.list (nms.map .str)), .sh (.int i), s9, .un])
      (ds := (List.range size.toNat).map fun (k : Nat) => PyData.int (0 + k)) (fun _ x => ∃ c, c ∈ LET.cps.toList ∧ x = one c) (by dsimp?! []) (by
        intro d hd
        rw [List.mem_map] at hd
        obtain ⟨j, hj, rfl⟩ := hd
        rw [List.mem_range] at hj
        obtain ⟨b, eb, gb⟩ := atI_in (base.map PyData.int) (i := 0 + (j : Int)) (by omega) (by rw [List.length_map]; omega)
        rw [List.mem_map] at gb
        obtain ⟨b, _, rfl⟩ := gb
        obtain ⟨t, et, ht0, ht1⟩ := bi_intb (decide ((0 + (j : Int)) = at_))
        have tt := bin_mulr (3 * i) t (by omega) (by omega)
        obtain ⟨c1, ec, hc⟩ := at_let (b + 3 * i * t)
        refine ⟨one c1, ⟨c1, hc, rfl⟩, fun ρ0 => ⟨[.sh c, .sh m, .sh (.str (Str.ofString "abcdefghijklmnopqrstuvwxyz")), .sh (.int size), .sh (.int at_), .ow (.list (base.map .int)), .un, .ow (.list (nms.map .str)), .sh (.int i), s9, .sh (.int (0 + j))], ?_, ?_, ?_⟩⟩
        · dsimp?! [x1__law_names, lcB_k, eb, et, t3, tt, m26, ec, show szOk (Str.ofString "abcdefghijklmnopqrstuvwxyz").length = true from by decide +kernel]
          rfl
        · dsimp?! []
        · dsimp?! [])
    obtain ⟨cs, rfl, hcs⟩ := of_all (f := one) (Q := fun c => c ∈ LET.cps.toList) (rs := rs) fun r hr => by
      obtain ⟨d, _, hd⟩ := e3 r hr
      exact hd
    rw [List.length_map] at e2
    have hcl : cs.length = size.toNat := by rw [e2]; simp
    have hj := joi_ones cs (by omega)
    have hn := name_of (cs := cs) (by omega) (by omega) hcs
    by_cases hw : inW ⟨cs.toArray⟩ = true
    · rw [if_pos hw] at hn
      have hxl : (⟨cs.toArray⟩ : Str).length = cs.length := by simp [Str.length]
      have hx0 : (Str.ofString "x").length = 1 := by decide +kernel
      have hx1 : szOk ((Str.ofString "x").length + (⟨cs.toArray⟩ : Str).length) = true := szOk_of (by rw [hxl, hx0]; omega)
      have hbody : execs (callF TB k) true l1__law_names [.sh c, .sh m, .sh (.str (Str.ofString "abcdefghijklmnopqrstuvwxyz")), .sh (.int size), .sh (.int at_), .ow (.list (base.map .int)), .un, .ow (.list (nms.map .str)), .sh (.int i), s9, .un] =
          .next [.sh c, .sh m, .sh (.str (Str.ofString "abcdefghijklmnopqrstuvwxyz")), .sh (.int size), .sh (.int at_), .ow (.list (base.map .int)), .un, .ow (.list ((nms ++ [Str.ofString "x" ++ ⟨cs.toArray⟩]).map .str)), .sh (.int i), .sh (.str (Str.ofString "x" ++ ⟨cs.toArray⟩)), .un] := by
        dsimp?! [l1__law_names, hrng, e1, hz, hj, h9, inW_ok, hw, hx1, hlen, List.map_append, List.map_cons, List.map_nil]
      obtain ⟨nms', s8', s9', f1, f2, f3⟩ := names_loop k c m size at_ base hs0 hs1 hb ks (fun i hi => hk i (List.mem_cons_of_mem _ hi)) (nms ++ [Str.ofString "x" ++ ⟨cs.toArray⟩]) (.sh (.int i)) (.sh (.str (Str.ofString "x" ++ ⟨cs.toArray⟩))) (by
        intro y hy
        rw [List.mem_append, List.mem_singleton] at hy
        rcases hy with hy | rfl
        · exact h y hy
        · exact hn) (by rw [List.length_append]; simp; omega) rfl rfl
      refine ⟨nms', s8', s9', ?_, by rw [f2, List.length_append, List.length_cons]; simp; omega, f3⟩
      rw [List.map_cons, forS_cons, hset, kF1_ok, hbody, kF2_next, f1]
    · rw [if_neg hw] at hn
      have hw' : inW ⟨cs.toArray⟩ = false := by simpa using hw
      have hbody : execs (callF TB k) true l1__law_names [.sh c, .sh m, .sh (.str (Str.ofString "abcdefghijklmnopqrstuvwxyz")), .sh (.int size), .sh (.int at_), .ow (.list (base.map .int)), .un, .ow (.list (nms.map .str)), .sh (.int i), s9, .un] =
          .next [.sh c, .sh m, .sh (.str (Str.ofString "abcdefghijklmnopqrstuvwxyz")), .sh (.int size), .sh (.int at_), .ow (.list (base.map .int)), .un, .ow (.list ((nms ++ [(⟨cs.toArray⟩ : Str)]).map .str)), .sh (.int i), .sh (.str ⟨cs.toArray⟩), .un] := by
        dsimp?! [l1__law_names, hrng, e1, hz, hj, h9, inW_ok, hw', hlen, List.map_append, List.map_cons, List.map_nil]
      obtain ⟨nms', s8', s9', f1, f2, f3⟩ := names_loop k c m size at_ base hs0 hs1 hb ks (fun i hi => hk i (List.mem_cons_of_mem _ hi)) (nms ++ [(⟨cs.toArray⟩ : Str)]) (.sh (.int i)) (.sh (.str ⟨cs.toArray⟩)) (by
        intro y hy
        rw [List.mem_append, List.mem_singleton] at hy
        rcases hy with hy | rfl
        · exact h y hy
        · exact hn) (by rw [List.length_append]; simp; omega) rfl rfl
      refine ⟨nms', s8', s9', ?_, by rw [f2, List.length_append, List.length_cons]; simp; omega, f3⟩
      rw [List.map_cons, forS_cons, hset, kF1_ok, hbody, kF2_next, f1]
theorem range_ints (i : Int) (n : Nat) : ((List.range n).map fun (k : Nat) => PyData.int (i + k)) = ((List.range n).map fun (k : Nat) => i + (k : Int)).map PyData.int := by
  rw [List.map_map]
  rfl
theorem range_bd {i : Int} {n : Nat} (h0 : 0 ≤ i) (h1 : i + n ≤ 1000) : ∀ x ∈ (List.range n).map fun (k : Nat) => i + (k : Int), 0 ≤ x ∧ x ≤ 1000 := by
  intro x hx
  rw [List.mem_map] at hx
  obtain ⟨k, hk, rfl⟩ := hx
  rw [List.mem_range] at hk
  omega
theorem law_names_ok (k : Nat) (c : Int) (m : Int) (h0 : 0 ≤ m) (h1 : m ≤ 100) : ∃ nms : List Str, callF TB (k + 2) (Str.ofString "_law_names") [.int c, .int m] = .ok (.list (nms.map .str)) [] ∧ nms.length = m.toNat ∧ ∀ y ∈ nms, isName (.str y) = true := by
  rw [cl__law_names]
  have m8 := bin_mod c 8 (by decide)
  have f8 := bin_fdiv c 8 (by decide) (by decide +kernel)
  have f64 := bin_fdiv c 64 (by decide) (by decide +kernel)
  have m26 := fun x => bin_mod x 26 (by decide)
  have hp := Int.emod_nonneg c (b := 8) (by decide)
  have hp2 := Int.emod_lt_of_pos c (b := 8) (by decide)
  have msz := bin_mod (c / 8) (1 + c % 8) (by omega)
  obtain ⟨xs, ex, hxl, hx0⟩ := law_stream_ok k (c / 64) 8 (by decide) (by decide)
  let ρ : Rho := [.sh (.int c), .sh (.int m), .sh (.str (Str.ofString "abcdefghijklmnopqrstuvwxyz")), .sh (.int (1 + c % 8)), .sh (.int (c / 8 % (1 + c % 8))), .un, .un, .un, .un, .un, .un]
  obtain ⟨rs, e1, e2, _, e3⟩ := lc_all (cf := callF TB (k + 1)) (own := [6]) (tg := [6]) (isT := false) (ifs := .no) (elt := x2__law_names) (ρ := ρ)
      (ds := xs.map PyData.int) (fun _ x => ∃ c : Int, True ∧ x = .int c) (by dsimp?! [ρ]) (by
        intro d hd
        rw [List.mem_map] at hd
        obtain ⟨j, hj, rfl⟩ := hd
        refine ⟨.int (j % 26), ⟨_, trivial, rfl⟩, fun ρ0 => ⟨ρ.set 6 (.sh (.int j)), ?_, ?_, ?_⟩⟩
        · dsimp?! [ρ, x2__law_names, lcB_k, m26]
        · dsimp?! [ρ]
        · dsimp?! [ρ])
  obtain ⟨bs, rfl, _⟩ := of_all (f := PyData.int) (Q := fun _ => True) (rs := rs) fun r hr => by
      obtain ⟨d, _, hd⟩ := e3 r hr
      exact hd
  rw [List.length_map, List.length_map, hxl] at e2
  obtain ⟨nms', s8', s9', f1, f2, f3⟩ := names_loop (k + 1) (.int c) (.int m) (1 + c % 8) (c / 8 % (1 + c % 8)) bs (by omega) (by omega) (by rw [e2]; rfl) ((List.range m.toNat).map fun (k : Nat) => 0 + (k : Int)) (range_bd (by decide) (by omega)) [] .un .un (fun y hy => (List.not_mem_nil hy).elim) (by simp; omega) rfl rfl
  refine ⟨nms', ?_, by rw [f2]; simp, f3⟩
  have hz : szOk (xs.map PyData.int).length = true := szOk_of (by rw [List.length_map, hxl]; decide)
  have hr := rng_small m h0 (by omega)
  rw [range_ints] at hr
  simp only [List.map_nil] at f1
  simp only [ρ] at e1
  dsimp?! [b__law_names, m8, f8, f64, msz, ex, e1, hz, hr, f1]
end DI
set_option Elab.async false
set_option linter.all false
set_option maxRecDepth 100000
set_option maxHeartbeats 4000000
namespace DI
open PySem PySem.Spec PyProof.Rows L2
local macro_rules | `(tactic| dsimp?! [$es,*]) => `(tactic| simp only [isi_str, isi_tuple, isi_list, isi_bool, isi_int, isi_dict, asB_bool, asI_int, guard_tt, guard_ff, lenL, lenT, lenS, shp_int, shp_str, shp_bool, shp_none, cmp_eq_int, cmp_ne_int, cmp_eq_bool, cmp_ne_bool, cmp_eq_str, cmp_ne_str, cmp_lt_int, cmp_gt_int, cmp_le_int, cmp_ge_int, cmp_le_str, cmp_ge_str, cmp_gt_str, cmp_lt_str, cmp_in, cmp_nin, cmp_is, cmp_isn, isD_bool, isD_none, bin_add, bin_sub, bin_adds, bin_addl, bin_addt, ix_list, ix_tup, ix_str, items_list, items_tup, items_str, notOw_sh, notOw_un, notOw_succ, b_beq_false, szl0, szl1, szl2, szl3, szl4, szl5, szl6, szl7, szl8, szl9, szl10, szl11, szl12, szl13, szl14, szl15, szl16, eob_some, eob_none, nxO_some, newS_int, newS_str, newS_bool, newS_none, newS_tup, newS_lst, newS_dic, newS_ff, setS_k, kSS_un, kSS_sh, kSS_ow, kSS_bo, setB_sh, setB_un, setB_ow, kSS_pl, setTg_one, setTg_tup, setAll_nil, setAll_cons, kSA_some, kLk_sh, kLk_owt, kLk_owf, kLk_io, kLk_lk, kLk_pkt, kLk_pk_tup, kLk_pk_int, kLk_pk_str, notOw_0, plainS_sh, plainS_un, owL_ow, owL_io, owD_ow, owD_io, withD_ow, withD_io, slotD_ow, slotD_io, slotP_sh, slotP_ow, slotP_io, slotP_pk, slotP_lk, execs_nil, execs_cons, kSeq_next, kSeq_ret, kSeq_exc, kSeq_brk, kSeq_cont, x_set, kSet_ok, kSet_exc, x_setT, kSetT_ok, kSetT_exc, x_exp, kExp_ok, kExp_exc, x_app, kApC_ff, kApD_tt, kApB_ok, kApC_tt, kApp_ok, kAv_ok, x_ext, kExC_tt, kExt_ok, kExt_okt, kEv_ok, isSome_some, x_ret, kRet_ok, kRet_exc, vr_cst, fe_cst, vr_gl, fe_gl, fe_var, vr_tup, fe_tup, vr_lst, fe_lst, vr_dic0, fe_dic0, vr_bin, fe_bin, vr_neg, fe_neg, vr_cmp, fe_cmp, vr_chn, fe_chn, vr_and_, fe_and_, vr_or_, fe_or_, vr_not_, fe_not_, vr_ife, fe_ife, vr_call, fe_call, vr_callF, fe_callF, vr_srt, fe_srt, vr_bi, fe_bi, vr_isi, fe_isi, vr_rev, fe_rev, vr_joi, fe_joi, vr_mget, fe_mget, vr_ix, fe_ix, vr_slc, fe_slc, vr_lc, fe_lc, vr_pop0, fe_pop0, vr_pop1, fe_pop1, vr_setd, fe_setd, x_retF, kRf_int, kRf_bool, kRf_none, kRf_tup, kRf_str, kRf_exc, x_retV, kRv_ow, kRv_tup, kRv_int, kRv_str, kRv_bool, kRv_none, x_retN, x_iff, kTst_ok, kTst_exc, kIf_tt, kIf_ff, x_for, kFor_ok, x_forV, kFV_sh, kFV_pk, kFV_lk, kFV_ow, kFV_io, kFi_some, unlk_k, kUl_ow, kUl_io, unl_next, unl_ret, unl_exc, x_pass, x_brk, x_cont, x_whl, x_par, kPar1_ok, kPar2_ok, kPar3_ok, kPutC_ff, kPutL_tt, kPutM_ok, owD_owl, owD_iol, x_put, kPut1_ok, kPutC_tt, kPut2_ok, kPv_ok, boOf_bo, odOf_od, lsOf_l, dcOf_d, shOf_sh, deepOf_od, deepOf_0, owL_bo, isSome_none, emptyB_t, emptyB_f, deepV_k, x_bor, kBoC_tt, kBo1_ok, kBo2_ok, x_bo0, kB0C_tt, kB01_ok, x_boP, kBP0_ok, kBP1_tt, kBP2_ok, kBP3_ok, kBP4_ok, putBo_k, unbo_nil, unbo_cons, ubS_un, ubS_sh, ubS_ow, ubS_io, ubS_pk, ubS_lk, ubS_od, ubS_bo, e_cst, e_glo, ev_var, ev_tup, ev_lst, kTup_ok, kLst_ok, ev_dic, ev_bin, kBin1_ok, kBin2_ok, ev_neg, kNeg_ok, ev_cmp, kCmp1_ok, kCmp2_ok, kBl_some, ev_chn, kCh1_ok, kCh2_ok, kCh3_tt, kCh3_ff, ev_and, ev_or, ev_not, ev_ife, kAnd_tt, kAnd_ff, kOr_tt, kOr_ff, kNot_ok, kIfe_tt, kIfe_ff, ev_call, kCall_ok, kCall_exc, kCv1_ok, kCv2_ok, kCv2_exc, ev_callF, kCF1_l, kCF1_d, kCF2_ok, kCw1_ok, kCw2_ok, kCw2_exc, slOk_nil, slOk_a, io_nil, io_cons, io_io, io_pk, fill_nil, fill_a, fill_s, fill_p, kFl_ok, kFs_ok, put_nil, put_a, put_p, put_s, put_00, ev_bi, kBi_ok, ev_isi, kIsi_ok, ev_ix, kIx1_ok, kIx2_ok, ev_slc, kSl1_ok, kSl2_ok, kSl3_ok, eo_no, eo_so, kOi_ok, et_no, et_so, el_nil, el_cons, el_io, el_pk, kLc0_tt, kL1_ok, kL1_exc, kL2_ok, ep_nil, ep_cons, kP1_ok, ev_rev, kRev_ok, ev_srt, kSrt_ok, kSr2_ok, ev_joi, kJo1_ok, kJo2_ok, ev_mget, kMg1_ok, kMg2_ok, ev_pop0, ev_pop1, kPoC_tt, kPo_ok, ev_setd, kSdC_tt, kSd1_ok, kSd2_ok, ei_val, kIt_ok, ei_rng1, kR1_ok, ei_rng2, kR2_ok, kR3_ok, ei_zip, kZ1_ok, kZ2_ok, ei_enm, kEn_ok, ev_lc, lcB_k, kB1_ok, kOne_tt, kOne_ff, kSm_ok, kF1_ok, kF2_next, kF2_cont, kF2_brk, kF2_ret, kF2_exc, kW1_tt, kW1_ff, kW2_next, kW2_cont, kW2_brk, kW2_ret, out_next, out_ret, out_exc, crO_ok, outK_no, outK_s, outs_nil, outs_a, outs_p, outs_s, kOs_ok, ix_dict, in_dict, dict_of, bq_tupl, bq_tupt, bq_lisl, bq_list, bq_inti, bq_min, bq_max, bq_sort, slc_list, slc_tup, get_2, get_1, zip_tup, zip_list, items_dict, cmp_eq_dct, cmp_ne_dct, List.tail_cons, kRv_od, kLk_od, kRf_tt, forS_nil, forS_cons, b_beq_true, pureE, pureL, pureO, pureI, wipeR, backR, List.getElem?_cons_zero, List.getElem?_cons_succ, List.set_cons_zero, List.set_cons_succ, List.append_nil, List.nil_append, List.cons_append, reduceIte, Bool.false_eq_true, Option.map_some, Option.map_none, Bool.false_and, Bool.true_and, Bool.and_false, Bool.and_true, Bool.or_false, Bool.or_true, Bool.false_or, Bool.true_or, Bool.not_true, Bool.not_false, List.all_cons, List.all_nil, List.length_cons, List.length_nil, Nat.reduceAdd, beq_self_eq_true, pu_x1_replaced_by, pu_x1__law_names, pu_x2__law_names, pu_x1__law_literal, pu_q1__law_literal, pu_x2__law_literal, pu_x3__law_literal, pu_q1__law_body, pu_x1__law_body, pu_x1__law_stands, pu_q1_law, pu_x1_law, so_0, so_1, so_2, so_3, oc_a, oc_aa, oc_aaa, oc_aaaa, oc_ap, oc_apa, oc_saa, oc_sas, $es,*])
/-! constants and variables of a script -/
def isConst (d : D) : Bool := isI d || isName d
theorem const_cases {d : D} (h : isConst d = true) : (∃ i, d = .int i) ∨ (∃ x, d = .str x ∧ isName d = true) := by
  cases d with
  | int i => exact .inl ⟨i, rfl⟩
  | str x => exact .inr ⟨x, rfl, h⟩
  | _ => cases h
theorem at_const {d : D} (h : isConst d = true) : isAt d = true := by
  rcases const_cases h with ⟨i, rfl⟩ | ⟨x, rfl, _⟩ <;> rfl
theorem constants_loop (k : Nat) (c : Int) (m : D) (nms : List Str) (hn : ∀ y ∈ nms, isName (.str y) = true) (hnl : nms.length ≤ 1000) : ∀ (ks : List Int), (∀ i ∈ ks, 0 ≤ i ∧ i < nms.length) → ∀ (cs : List D) (s4 s5 s6 : Sl), (∀ y ∈ cs, isConst y = true) → cs.length + ks.length ≤ 1000 → setB s4 = true → setB s5 = true → setB s6 = true →
    ∃ (cs' : List D) (s4' s5' s6' : Sl), forS (setTg [4] false) (execs (callF TB k) true l1__law_constants) (ks.map PyData.int)
      [.sh (.int c), .sh m, .ow (.list (nms.map .str)), .ow (.list cs), s4, s5, s6] = .next [.sh (.int c), .sh m, .ow (.list (nms.map .str)), .ow (.list cs'), s4', s5', s6'] ∧ cs'.length = cs.length + ks.length ∧ ∀ y ∈ cs', isConst y = true
  | [], _, cs, s4, s5, s6, h, _, _, _, _ => ⟨cs, s4, s5, s6, by rw [List.map_nil, forS_nil], rfl, h⟩
  | i :: ks, hk, cs, s4, s5, s6, h, hl, h4, h5, h6 => by
    rw [List.length_cons] at hl
    obtain ⟨hi0, hi1⟩ := hk i List.mem_cons_self
    have f3 := bin_fdiv c 3 (by decide) (by decide +kernel)
    have f9 := bin_fdiv c 9 (by decide) (by decide +kernel)
    have f27 := bin_fdiv c 27 (by decide) (by decide +kernel)
    have f81 := bin_fdiv c 81 (by decide) (by decide +kernel)
    have m3 := fun x => bin_mod x 3 (by decide)
    have m4 := bin_mod i 4 (by decide)
    have p1 : binD .Pow (.int 10) (.int 29) = some (.int (10 ^ 29)) := by kernel_rfl
    have mp := fun x => bin_mod x (10 ^ 29) (by decide)
    have hii := bin_mul i i (mulOk_l i i (by omega) (by omega))
    have hlen : cs.length < 16777216 := by omega
    obtain ⟨w, ew, gw⟩ := atI_mod [PyData.int c, .int (c / 3), .int (c / 9), .int (c / 27)] (n := 4) i rfl (by decide)
    obtain ⟨w, rfl⟩ : ∃ x : Int, w = .int x := by
      simp only [List.mem_cons, List.not_mem_nil, or_false] at gw
      rcases gw with rfl | rfl | rfl | rfl <;> exact ⟨_, rfl⟩
    obtain ⟨y, ey, gy⟩ := atI_in (nms.map PyData.str) hi0 (by rw [List.length_map]; exact hi1)
    rw [List.mem_map] at gy
    obtain ⟨y, hy, rfl⟩ := gy
    have hyc : isConst (.str y) = true := hn y hy
    have hset : setTg [4] false (.int i) [.sh (.int c), .sh m, .ow (.list (nms.map .str)), .ow (.list cs), s4, s5, s6] = some [.sh (.int c), .sh m, .ow (.list (nms.map .str)), .ow (.list cs), .sh (.int i), s5, s6] := by
      dsimp?! [h4]
    have hin : ∀ d : D, isConst d = true → inD d (.list cs) = some (cs.any fun z => PyData.eqv z d) := fun d hd => by
      show guardP (shp d && shp (.list cs)) _ = _
      rw [shp_at (at_const hd), shp_ats fun d hd => at_const (h d hd), Bool.and_self, guard_tt]
    have step : ∃ (d : D) (s5' : Sl), isConst d = true ∧ setB s5' = true ∧ execs (callF TB k) true l1__law_constants [.sh (.int c), .sh m, .ow (.list (nms.map .str)), .ow (.list cs), .sh (.int i), s5, s6] = .next [.sh (.int c), .sh m, .ow (.list (nms.map .str)), .ow (.list (cs ++ [d])), .sh (.int i), s5', .sh d] := by
      have fin : ∀ d : D, isConst d = true → (execs (callF TB k) true l1__law_constants [.sh (.int c), .sh m, .ow (.list (nms.map .str)), .ow (.list cs), .sh (.int i), s5, s6] = if (cs.any fun z => PyData.eqv z d) = true then .next [.sh (.int c), .sh m, .ow (.list (nms.map .str)), .ow (.list (cs ++ [.str y])), .sh (.int i), .sh (.int (w % 3)), .sh (.str y)] else .next [.sh (.int c), .sh m, .ow (.list (nms.map .str)), .ow (.list (cs ++ [d])), .sh (.int i), .sh (.int (w % 3)), .sh d]) →
          ∃ (d : D) (s5' : Sl), isConst d = true ∧ setB s5' = true ∧ execs (callF TB k) true l1__law_constants [.sh (.int c), .sh m, .ow (.list (nms.map .str)), .ow (.list cs), .sh (.int i), s5, s6] = .next [.sh (.int c), .sh m, .ow (.list (nms.map .str)), .ow (.list (cs ++ [d])), .sh (.int i), s5', .sh d] := fun d hd e => by
        by_cases hq : (cs.any fun z => PyData.eqv z d) = true
        · rw [if_pos hq] at e
          exact ⟨_, _, hyc, rfl, e⟩
        · rw [if_neg hq] at e
          exact ⟨_, _, hd, rfl, e⟩
      by_cases w1 : w % 3 = 1
      · refine fin (.int (i + c / 81 % 3 - 2)) rfl ?_
        have e1 := hin (.int (i + c / 81 % 3 - 2)) rfl
        dsimp?! [l1__law_constants, h5, h6, f3, f9, f27, f81, m3, m4, ew, ey, w1, decide_true, decide_false, e1, show ((1 : Int) = 2) = False from by decide]
        cases hq : (cs.any fun z => PyData.eqv z (.int (i + c / 81 % 3 - 2))) <;> dsimp?! [ey, hlen]
      · by_cases w2 : w % 3 = 2
        · refine fin (.int (c / 81 % 10 ^ 29 - i * i - 5)) rfl ?_
          have e1 := hin (.int (c / 81 % 10 ^ 29 - i * i - 5)) rfl
          dsimp?! [l1__law_constants, h5, h6, f3, f9, f27, f81, m3, m4, ew, ey, w2, decide_true, decide_false, e1, show ((2 : Int) = 1) = False from by decide, p1, mp, hii]
          cases hq : (cs.any fun z => PyData.eqv z (.int (c / 81 % 10 ^ 29 - i * i - 5))) <;> dsimp?! [ey, hlen]
        · refine fin (.str y) hyc ?_
          have e1 := hin (.str y) hyc
          dsimp?! [l1__law_constants, h5, h6, f3, f9, f27, f81, m3, m4, ew, ey, w1, w2, decide_true, decide_false, e1]
          cases hq : (cs.any fun z => PyData.eqv z (.str y)) <;> dsimp?! [ey, hlen]
    obtain ⟨d, s5', hd, hs5, hbody⟩ := step
    obtain ⟨cs', s4', s5'', s6', f1, f2, f3⟩ := constants_loop k c m nms hn hnl ks (fun i hi => hk i (List.mem_cons_of_mem _ hi)) (cs ++ [d]) (.sh (.int i)) s5' (.sh d) (by
      intro y hy
      rw [List.mem_append, List.mem_singleton] at hy
      rcases hy with hy | rfl
      · exact h y hy
      · exact hd) (by rw [List.length_append]; simp; omega) rfl hs5 rfl
    refine ⟨cs', s4', s5'', s6', ?_, by rw [f2, List.length_append, List.length_cons]; simp; omega, f3⟩
    rw [List.map_cons, forS_cons, hset, kF1_ok, hbody, kF2_next, f1]
theorem law_constants_ok (k : Nat) (c : Int) (m : Int) (h0 : 0 ≤ m) (h1 : m ≤ 100) : ∃ cs : List D, callF TB (k + 3) (Str.ofString "_law_constants") [.int c, .int m] = .ok (.list cs) [] ∧ cs.length = m.toNat ∧ ∀ y ∈ cs, isConst y = true := by
  rw [cl__law_constants]
  have f81 := bin_fdiv c 81 (by decide) (by decide +kernel)
  obtain ⟨nms, en, hnl, hn⟩ := law_names_ok k (c / 81) m h0 h1
  obtain ⟨cs, s4, s5, s6, f1, f2, f3⟩ := constants_loop (k + 2) c (.int m) nms hn (by omega) ((List.range m.toNat).map fun (k : Nat) => 0 + (k : Int)) (by
    intro x hx
    rw [List.mem_map] at hx
    obtain ⟨j, hj, rfl⟩ := hx
    rw [List.mem_range] at hj
    omega) [] .un .un .un (fun y hy => (List.not_mem_nil hy).elim) (by simp; omega) rfl rfl rfl
  refine ⟨cs, ?_, by rw [f2]; simp, f3⟩
  have hr := rng_small m h0 (by omega)
  rw [range_ints] at hr
  dsimp?! [b__law_constants, f81, en, hr, f1]
end DI
set_option Elab.async false
set_option linter.all false
set_option maxRecDepth 100000
set_option maxHeartbeats 4000000
namespace DI
open PySem PySem.Spec PyProof.Rows L2
local macro_rules | `(tactic| dsimp?! [$es,*]) => `(tactic| simp only [isi_str, isi_tuple, isi_list, isi_bool, isi_int, isi_dict, asB_bool, asI_int, guard_tt, guard_ff, lenL, lenT, lenS, shp_int, shp_str, shp_bool, shp_none, cmp_eq_int, cmp_ne_int, cmp_eq_bool, cmp_ne_bool, cmp_eq_str, cmp_ne_str, cmp_lt_int, cmp_gt_int, cmp_le_int, cmp_ge_int, cmp_le_str, cmp_ge_str, cmp_gt_str, cmp_lt_str, cmp_in, cmp_nin, cmp_is, cmp_isn, isD_bool, isD_none, bin_add, bin_sub, bin_adds, bin_addl, bin_addt, ix_list, ix_tup, ix_str, items_list, items_tup, items_str, notOw_sh, notOw_un, notOw_succ, b_beq_false, szl0, szl1, szl2, szl3, szl4, szl5, szl6, szl7, szl8, szl9, szl10, szl11, szl12, szl13, szl14, szl15, szl16, eob_some, eob_none, nxO_some, newS_int, newS_str, newS_bool, newS_none, newS_tup, newS_lst, newS_dic, newS_ff, setS_k, kSS_un, kSS_sh, kSS_ow, kSS_bo, setB_sh, setB_un, setB_ow, kSS_pl, setTg_one, setTg_tup, setAll_nil, setAll_cons, kSA_some, kLk_sh, kLk_owt, kLk_owf, kLk_io, kLk_lk, kLk_pkt, kLk_pk_tup, kLk_pk_int, kLk_pk_str, notOw_0, plainS_sh, plainS_un, owL_ow, owL_io, owD_ow, owD_io, withD_ow, withD_io, slotD_ow, slotD_io, slotP_sh, slotP_ow, slotP_io, slotP_pk, slotP_lk, execs_nil, execs_cons, kSeq_next, kSeq_ret, kSeq_exc, kSeq_brk, kSeq_cont, x_set, kSet_ok, kSet_exc, x_setT, kSetT_ok, kSetT_exc, x_exp, kExp_ok, kExp_exc, x_app, kApC_ff, kApD_tt, kApB_ok, kApC_tt, kApp_ok, kAv_ok, x_ext, kExC_tt, kExt_ok, kExt_okt, kEv_ok, isSome_some, x_ret, kRet_ok, kRet_exc, vr_cst, fe_cst, vr_gl, fe_gl, fe_var, vr_tup, fe_tup, vr_lst, fe_lst, vr_dic0, fe_dic0, vr_bin, fe_bin, vr_neg, fe_neg, vr_cmp, fe_cmp, vr_chn, fe_chn, vr_and_, fe_and_, vr_or_, fe_or_, vr_not_, fe_not_, vr_ife, fe_ife, vr_call, fe_call, vr_callF, fe_callF, vr_srt, fe_srt, vr_bi, fe_bi, vr_isi, fe_isi, vr_rev, fe_rev, vr_joi, fe_joi, vr_mget, fe_mget, vr_ix, fe_ix, vr_slc, fe_slc, vr_lc, fe_lc, vr_pop0, fe_pop0, vr_pop1, fe_pop1, vr_setd, fe_setd, x_retF, kRf_int, kRf_bool, kRf_none, kRf_tup, kRf_str, kRf_exc, x_retV, kRv_ow, kRv_tup, kRv_int, kRv_str, kRv_bool, kRv_none, x_retN, x_iff, kTst_ok, kTst_exc, kIf_tt, kIf_ff, x_for, kFor_ok, x_forV, kFV_sh, kFV_pk, kFV_lk, kFV_ow, kFV_io, kFi_some, unlk_k, kUl_ow, kUl_io, unl_next, unl_ret, unl_exc, x_pass, x_brk, x_cont, x_whl, x_par, kPar1_ok, kPar2_ok, kPar3_ok, kPutC_ff, kPutL_tt, kPutM_ok, owD_owl, owD_iol, x_put, kPut1_ok, kPutC_tt, kPut2_ok, kPv_ok, boOf_bo, odOf_od, lsOf_l, dcOf_d, shOf_sh, deepOf_od, deepOf_0, owL_bo, isSome_none, emptyB_t, emptyB_f, deepV_k, x_bor, kBoC_tt, kBo1_ok, kBo2_ok, x_bo0, kB0C_tt, kB01_ok, x_boP, kBP0_ok, kBP1_tt, kBP2_ok, kBP3_ok, kBP4_ok, putBo_k, unbo_nil, unbo_cons, ubS_un, ubS_sh, ubS_ow, ubS_io, ubS_pk, ubS_lk, ubS_od, ubS_bo, e_cst, e_glo, ev_var, ev_tup, ev_lst, kTup_ok, kLst_ok, ev_dic, ev_bin, kBin1_ok, kBin2_ok, ev_neg, kNeg_ok, ev_cmp, kCmp1_ok, kCmp2_ok, kBl_some, ev_chn, kCh1_ok, kCh2_ok, kCh3_tt, kCh3_ff, ev_and, ev_or, ev_not, ev_ife, kAnd_tt, kAnd_ff, kOr_tt, kOr_ff, kNot_ok, kIfe_tt, kIfe_ff, ev_call, kCall_ok, kCall_exc, kCv1_ok, kCv2_ok, kCv2_exc, ev_callF, kCF1_l, kCF1_d, kCF2_ok, kCw1_ok, kCw2_ok, kCw2_exc, slOk_nil, slOk_a, io_nil, io_cons, io_io, io_pk, fill_nil, fill_a, fill_s, fill_p, kFl_ok, kFs_ok, put_nil, put_a, put_p, put_s, put_00, ev_bi, kBi_ok, ev_isi, kIsi_ok, ev_ix, kIx1_ok, kIx2_ok, ev_slc, kSl1_ok, kSl2_ok, kSl3_ok, eo_no, eo_so, kOi_ok, et_no, et_so, el_nil, el_cons, el_io, el_pk, kLc0_tt, kL1_ok, kL1_exc, kL2_ok, ep_nil, ep_cons, kP1_ok, ev_rev, kRev_ok, ev_srt, kSrt_ok, kSr2_ok, ev_joi, kJo1_ok, kJo2_ok, ev_mget, kMg1_ok, kMg2_ok, ev_pop0, ev_pop1, kPoC_tt, kPo_ok, ev_setd, kSdC_tt, kSd1_ok, kSd2_ok, ei_val, kIt_ok, ei_rng1, kR1_ok, ei_rng2, kR2_ok, kR3_ok, ei_zip, kZ1_ok, kZ2_ok, ei_enm, kEn_ok, ev_lc, lcB_k, kB1_ok, kOne_tt, kOne_ff, kSm_ok, kF1_ok, kF2_next, kF2_cont, kF2_brk, kF2_ret, kF2_exc, kW1_tt, kW1_ff, kW2_next, kW2_cont, kW2_brk, kW2_ret, out_next, out_ret, out_exc, crO_ok, outK_no, outK_s, outs_nil, outs_a, outs_p, outs_s, kOs_ok, ix_dict, in_dict, dict_of, bq_tupl, bq_tupt, bq_lisl, bq_list, bq_inti, bq_min, bq_max, bq_sort, slc_list, slc_tup, get_2, get_1, zip_tup, zip_list, items_dict, cmp_eq_dct, cmp_ne_dct, List.tail_cons, kRv_od, kLk_od, kRf_tt, forS_nil, forS_cons, b_beq_true, pureE, pureL, pureO, pureI, wipeR, backR, List.getElem?_cons_zero, List.getElem?_cons_succ, List.set_cons_zero, List.set_cons_succ, List.append_nil, List.nil_append, List.cons_append, reduceIte, Bool.false_eq_true, Option.map_some, Option.map_none, Bool.false_and, Bool.true_and, Bool.and_false, Bool.and_true, Bool.or_false, Bool.or_true, Bool.false_or, Bool.true_or, Bool.not_true, Bool.not_false, List.all_cons, List.all_nil, List.length_cons, List.length_nil, Nat.reduceAdd, beq_self_eq_true, pu_x1_replaced_by, pu_x1__law_names, pu_x2__law_names, pu_x1__law_literal, pu_q1__law_literal, pu_x2__law_literal, pu_x3__law_literal, pu_q1__law_body, pu_x1__law_body, pu_x1__law_stands, pu_q1_law, pu_x1_law, so_0, so_1, so_2, so_3, oc_a, oc_aa, oc_aaa, oc_aaaa, oc_ap, oc_apa, oc_saa, oc_sas, $es,*])
/-! variables of a script -/
def SIG : Str := Str.ofString "abcdefghijklmnopqrstuvwxyz0123456789ABCDEFGHIJKLMNOPQRSTUVWXYZ"
def isVar : D → Bool
  | .str x => lenB x && ((match x.cps.toList with | c :: _ => decide (c ∈ GRE.cps.toList) | [] => false) && hasB x (LET ++ GRE ++ FIG))
  | _ => false
def mkS (cs : List Nat) : Str := ⟨cs.toArray⟩
theorem mkS_app (cs : List Nat) (c : Nat) : mkS cs ++ ⟨#[c]⟩ = mkS (cs ++ [c]) := by
  show (⟨cs.toArray ++ #[c]⟩ : Str) = _
  simp [mkS]
theorem mkS_len (cs : List Nat) : (mkS cs).length = cs.length := by simp [Str.length, mkS]
theorem sig_in : ∀ c ∈ SIG.cps.toList, c ∈ (LET ++ GRE ++ FIG).cps.toList := by decide +kernel
theorem gre_in : ∀ c ∈ GRE.cps.toList, c ∈ (LET ++ GRE ++ FIG).cps.toList := by decide +kernel
theorem var_of {c : Nat} {cs : List Nat} (hc : c ∈ GRE.cps.toList) (hs : ∀ d ∈ cs, d ∈ SIG.cps.toList) (hl : cs.length < 8) : isVar (.str (mkS (c :: cs))) = true := by
  simp only [isVar, lenB, mkS_len, hasB, Bool.and_eq_true, decide_eq_true_eq, List.all_eq_true, List.length_cons]
  refine ⟨⟨by omega, by omega⟩, by simpa [mkS] using hc, fun d hd => ?_⟩
  simp only [mkS, List.mem_cons] at hd
  rcases hd with rfl | hd
  · exact gre_in _ hc
  · exact sig_in _ (hs _ hd)
theorem at_gre (i : Int) : ∃ c, atI (Str.ofString "ABCDEFGHIJKLMNOPQRSTUVWXYZ").cps.toList (i % 26) = some c ∧ c ∈ GRE.cps.toList := atI_mod _ (n := 26) i (by decide +kernel) (by decide)
theorem at_sig (i : Int) : ∃ c, atI (Str.ofString "abcdefghijklmnopqrstuvwxyz0123456789ABCDEFGHIJKLMNOPQRSTUVWXYZ").cps.toList (i % 62) = some c ∧ c ∈ SIG.cps.toList := atI_mod _ (n := 62) i (by decide +kernel) (by decide)
theorem vari_loop (cf : Str → List D → CR) (cc : D) (size at_ : Int) (xs : List Int) (nms : List D) (i : Int) (hx : ∀ x ∈ xs, 0 ≤ x) (hxl : xs.length = 8) (hi0 : 0 ≤ i) (hi1 : i ≤ 1000) : ∀ (js : List Int), (∀ j ∈ js, 0 ≤ j ∧ j < 8) → ∀ (c : Nat) (cs : List Nat) (s9 : Sl), c ∈ GRE.cps.toList → (∀ d ∈ cs, d ∈ SIG.cps.toList) → cs.length + js.length ≤ 100 → setB s9 = true →
    ∃ (cs' : List Nat) (s9' : Sl), forS (setTg [9] false) (execs cf true l1__law_variables) (js.map PyData.int)
      [.sh cc, .sh (.str (Str.ofString "ABCDEFGHIJKLMNOPQRSTUVWXYZ")), .sh (.str (Str.ofString "abcdefghijklmnopqrstuvwxyz0123456789ABCDEFGHIJKLMNOPQRSTUVWXYZ")), .sh (.int size), .sh (.int at_), .ow (.list (xs.map .int)), .ow (.list nms), .sh (.int i), .sh (.str (mkS (c :: cs))), s9] =
      .next [.sh cc, .sh (.str (Str.ofString "ABCDEFGHIJKLMNOPQRSTUVWXYZ")), .sh (.str (Str.ofString "abcdefghijklmnopqrstuvwxyz0123456789ABCDEFGHIJKLMNOPQRSTUVWXYZ")), .sh (.int size), .sh (.int at_), .ow (.list (xs.map .int)), .ow (.list nms), .sh (.int i), .sh (.str (mkS (c :: cs'))), s9'] ∧
      cs'.length = cs.length + js.length ∧ (∀ d ∈ cs', d ∈ SIG.cps.toList) ∧ setB s9' = true
  | [], _, c, cs, s9, hc, h, _, h9 => ⟨cs, s9, by rw [List.map_nil, forS_nil], rfl, h, h9⟩
  | j :: js, hj, c, cs, s9, hc, h, hl, h9 => by
    rw [List.length_cons] at hl
    obtain ⟨hj0, hj1⟩ := hj j List.mem_cons_self
    obtain ⟨x, ex, _, hx0⟩ := at_int hx hj0 (by omega)
    obtain ⟨t, et, ht0, ht1⟩ := bi_intb (decide (at_ = j))
    have t5 := bin_mull 5 i (by decide) (by decide)
    have tt := bin_mulr (5 * i) t (by omega) (by omega)
    have m62 := fun x => bin_mod x 62 (by decide)
    obtain ⟨c1, ec, hc1⟩ := at_sig (x + 5 * i * t)
    have hsz : szOk (Str.ofString "abcdefghijklmnopqrstuvwxyz0123456789ABCDEFGHIJKLMNOPQRSTUVWXYZ").length = true := by decide +kernel
    have hsz2 : szOk ((mkS (c :: cs)).length + (⟨#[c1]⟩ : Str).length) = true := szOk_of (by
      rw [mkS_len, List.length_cons, show (⟨#[c1]⟩ : Str).length = 1 from rfl]; omega)
    obtain ⟨cs', s9', f1, f2, f3, f4⟩ := vari_loop cf cc size at_ xs nms i hx hxl hi0 hi1 js (fun j h => hj j (List.mem_cons_of_mem _ h)) c (cs ++ [c1]) (.sh (.int j)) hc (by
      intro d hd
      rw [List.mem_append, List.mem_singleton] at hd
      rcases hd with hd | rfl
      · exact h d hd
      · exact hc1) (by rw [List.length_append]; simp; omega) rfl
    refine ⟨cs', s9', ?_, by rw [f2, List.length_append, List.length_cons]; simp; omega, f3, f4⟩
    have hset : setTg [9] false (.int j) [.sh cc, .sh (.str (Str.ofString "ABCDEFGHIJKLMNOPQRSTUVWXYZ")), .sh (.str (Str.ofString "abcdefghijklmnopqrstuvwxyz0123456789ABCDEFGHIJKLMNOPQRSTUVWXYZ")), .sh (.int size), .sh (.int at_), .ow (.list (xs.map .int)), .ow (.list nms), .sh (.int i), .sh (.str (mkS (c :: cs))), s9] = some [.sh cc, .sh (.str (Str.ofString "ABCDEFGHIJKLMNOPQRSTUVWXYZ")), .sh (.str (Str.ofString "abcdefghijklmnopqrstuvwxyz0123456789ABCDEFGHIJKLMNOPQRSTUVWXYZ")), .sh (.int size), .sh (.int at_), .ow (.list (xs.map .int)), .ow (.list nms), .sh (.int i), .sh (.str (mkS (c :: cs))), .sh (.int j)] := by
      dsimp?! [h9]
    have hbody : execs cf true l1__law_variables [.sh cc, .sh (.str (Str.ofString "ABCDEFGHIJKLMNOPQRSTUVWXYZ")), .sh (.str (Str.ofString "abcdefghijklmnopqrstuvwxyz0123456789ABCDEFGHIJKLMNOPQRSTUVWXYZ")), .sh (.int size), .sh (.int at_), .ow (.list (xs.map .int)), .ow (.list nms), .sh (.int i), .sh (.str (mkS (c :: cs))), .sh (.int j)] =
        .next [.sh cc, .sh (.str (Str.ofString "ABCDEFGHIJKLMNOPQRSTUVWXYZ")), .sh (.str (Str.ofString "abcdefghijklmnopqrstuvwxyz0123456789ABCDEFGHIJKLMNOPQRSTUVWXYZ")), .sh (.int size), .sh (.int at_), .ow (.list (xs.map .int)), .ow (.list nms), .sh (.int i), .sh (.str (mkS (c :: (cs ++ [c1])))), .sh (.int j)] := by
      dsimp?! [l1__law_variables, ex, et, t5, tt, m62, ec, hsz, hsz2, mkS_app]
    rw [List.map_cons, forS_cons, hset, kF1_ok, hbody, kF2_next, f1]
theorem vars_loop (cf : Str → List D → CR) (cc : D) (size at_ : Int) (xs : List Int) (hs0 : 1 ≤ size) (hs1 : size ≤ 8) (hx : ∀ x ∈ xs, 0 ≤ x) (hxl : xs.length = 8) : ∀ (ks : List Int), (∀ i ∈ ks, 0 ≤ i ∧ i ≤ 1000) → ∀ (nms : List D) (s7 s8 s9 : Sl), (∀ y ∈ nms, isVar y = true) → nms.length + ks.length ≤ 1000 → setB s7 = true → setB s8 = true → setB s9 = true →
    ∃ (nms' : List D) (s7' s8' s9' : Sl), forS (setTg [7] false) (execs cf true l2__law_variables) (ks.map PyData.int)
      [.sh cc, .sh (.str (Str.ofString "ABCDEFGHIJKLMNOPQRSTUVWXYZ")), .sh (.str (Str.ofString "abcdefghijklmnopqrstuvwxyz0123456789ABCDEFGHIJKLMNOPQRSTUVWXYZ")), .sh (.int size), .sh (.int at_), .ow (.list (xs.map .int)), .ow (.list nms), s7, s8, s9] =
      .next [.sh cc, .sh (.str (Str.ofString "ABCDEFGHIJKLMNOPQRSTUVWXYZ")), .sh (.str (Str.ofString "abcdefghijklmnopqrstuvwxyz0123456789ABCDEFGHIJKLMNOPQRSTUVWXYZ")), .sh (.int size), .sh (.int at_), .ow (.list (xs.map .int)), .ow (.list nms'), s7', s8', s9'] ∧
      nms'.length = nms.length + ks.length ∧ ∀ y ∈ nms', isVar y = true
  | [], _, nms, s7, s8, s9, h, _, _, _, _ => ⟨nms, s7, s8, s9, by rw [List.map_nil, forS_nil], rfl, h⟩
  | i :: ks, hk, nms, s7, s8, s9, h, hl, h7, h8, h9 => by
    rw [List.length_cons] at hl
    obtain ⟨hi0, hi1⟩ := hk i List.mem_cons_self
    obtain ⟨x, ex, _, hx0⟩ := at_int hx (i := 0) (by decide) (by omega)
    obtain ⟨t, et, ht0, ht1⟩ := bi_intb (decide (at_ = 0))
    have t5 := bin_mull 5 i (by decide) (by decide)
    have tt := bin_mulr (5 * i) t (by omega) (by omega)
    have m26 := fun x => bin_mod x 26 (by decide)
    obtain ⟨c1, ec, hc1⟩ := at_gre (x + 5 * i * t)
    have hsz : szOk (Str.ofString "ABCDEFGHIJKLMNOPQRSTUVWXYZ").length = true := by decide +kernel
    have hrng := rng_two 1 size (by decide) (by decide) (by omega) (by omega)
    rw [range_ints] at hrng
    have hlen : nms.length < 16777216 := by omega
    obtain ⟨cs, s9', f1, f2, f3, f4⟩ := vari_loop cf cc size at_ xs nms i hx hxl hi0 hi1 ((List.range (size - 1).toNat).map fun (k : Nat) => 1 + (k : Int)) (by
      intro j hj
      rw [List.mem_map] at hj
      obtain ⟨q, hq, rfl⟩ := hj
      rw [List.mem_range] at hq
      omega) c1 [] s9 hc1 (fun d hd => (List.not_mem_nil hd).elim) (by simp; omega) h9
    have hcl : cs.length < 8 := by rw [f2]; simp; omega
    obtain ⟨nms', s7', s8', s9'', g1, g2, g3⟩ := vars_loop cf cc size at_ xs hs0 hs1 hx hxl ks (fun i hi => hk i (List.mem_cons_of_mem _ hi)) (nms ++ [.str (mkS (c1 :: cs))]) (.sh (.int i)) (.sh (.str (mkS (c1 :: cs)))) s9' (by
      intro y hy
      rw [List.mem_append, List.mem_singleton] at hy
      rcases hy with hy | rfl
      · exact h y hy
      · exact var_of hc1 f3 hcl) (by rw [List.length_append]; simp; omega) rfl rfl f4
    refine ⟨nms', s7', s8', s9'', ?_, by rw [g2, List.length_append, List.length_cons]; simp; omega, g3⟩
    have hset : setTg [7] false (.int i) [.sh cc, .sh (.str (Str.ofString "ABCDEFGHIJKLMNOPQRSTUVWXYZ")), .sh (.str (Str.ofString "abcdefghijklmnopqrstuvwxyz0123456789ABCDEFGHIJKLMNOPQRSTUVWXYZ")), .sh (.int size), .sh (.int at_), .ow (.list (xs.map .int)), .ow (.list nms), s7, s8, s9] = some [.sh cc, .sh (.str (Str.ofString "ABCDEFGHIJKLMNOPQRSTUVWXYZ")), .sh (.str (Str.ofString "abcdefghijklmnopqrstuvwxyz0123456789ABCDEFGHIJKLMNOPQRSTUVWXYZ")), .sh (.int size), .sh (.int at_), .ow (.list (xs.map .int)), .ow (.list nms), .sh (.int i), s8, s9] := by
      dsimp?! [h7]
    have f1' : forS (setTg [9] false) (execs cf true l1__law_variables) (((List.range (size - 1).toNat).map fun (k : Nat) => 1 + (k : Int)).map PyData.int)
      [.sh cc, .sh (.str (Str.ofString "ABCDEFGHIJKLMNOPQRSTUVWXYZ")), .sh (.str (Str.ofString "abcdefghijklmnopqrstuvwxyz0123456789ABCDEFGHIJKLMNOPQRSTUVWXYZ")), .sh (.int size), .sh (.int at_), .ow (.list (xs.map .int)), .ow (.list nms), .sh (.int i), .sh (.str ⟨#[c1]⟩), s9] = _ := f1
    have hbody : execs cf true l2__law_variables [.sh cc, .sh (.str (Str.ofString "ABCDEFGHIJKLMNOPQRSTUVWXYZ")), .sh (.str (Str.ofString "abcdefghijklmnopqrstuvwxyz0123456789ABCDEFGHIJKLMNOPQRSTUVWXYZ")), .sh (.int size), .sh (.int at_), .ow (.list (xs.map .int)), .ow (.list nms), .sh (.int i), s8, s9] =
        .next [.sh cc, .sh (.str (Str.ofString "ABCDEFGHIJKLMNOPQRSTUVWXYZ")), .sh (.str (Str.ofString "abcdefghijklmnopqrstuvwxyz0123456789ABCDEFGHIJKLMNOPQRSTUVWXYZ")), .sh (.int size), .sh (.int at_), .ow (.list (xs.map .int)), .ow (.list (nms ++ [.str (mkS (c1 :: cs))])), .sh (.int i), .sh (.str (mkS (c1 :: cs))), s9'] := by
      dsimp?! [l2__law_variables, h8, ex, et, t5, tt, m26, ec, hsz, hrng, f1', hlen]
    rw [List.map_cons, forS_cons, hset, kF1_ok, hbody, kF2_next, g1]
theorem law_variables_ok (k : Nat) (c : Int) : ∃ vs : List D, callF TB (k + 2) (Str.ofString "_law_variables") [.int c] = .ok (.list vs) [] ∧ vs.length = 4 ∧ ∀ y ∈ vs, isVar y = true := by
  rw [cl__law_variables]
  have m8 := bin_mod c 8 (by decide)
  have f8 := bin_fdiv c 8 (by decide) (by decide +kernel)
  have f64 := bin_fdiv c 64 (by decide) (by decide +kernel)
  have hp := Int.emod_nonneg c (b := 8) (by decide)
  have hp2 := Int.emod_lt_of_pos c (b := 8) (by decide)
  have msz := bin_mod (c / 8) (1 + c % 8) (by omega)
  obtain ⟨xs, ex, hxl, hx0⟩ := law_stream_ok k (c / 64) 8 (by decide) (by decide)
  obtain ⟨vs, s7, s8, s9, f1, f2, f3⟩ := vars_loop (callF TB (k + 1)) (.int c) (1 + c % 8) (c / 8 % (1 + c % 8)) xs (by omega) (by omega) hx0 (by rw [hxl]; rfl) ((List.range (4 : Int).toNat).map fun (k : Nat) => 0 + (k : Int)) (range_bd (by decide) (by decide)) [] .un .un .un (fun y hy => (List.not_mem_nil hy).elim) (by decide) rfl rfl rfl
  refine ⟨vs, ?_, by rw [f2]; rfl, f3⟩
  have hr := rng_small 4 (by decide) (by decide)
  rw [range_ints] at hr
  dsimp?! [b__law_variables, m8, f8, f64, msz, ex, hr, f1]
end DI
set_option Elab.async false
set_option linter.all false
set_option maxRecDepth 100000
set_option maxHeartbeats 4000000
namespace DI
open PySem PySem.Spec PyProof.Rows L2
local macro_rules | `(tactic| dsimp?! [$es,*]) => `(tactic| simp only [isi_str, isi_tuple, isi_list, isi_bool, isi_int, isi_dict, asB_bool, asI_int, guard_tt, guard_ff, lenL, lenT, lenS, shp_int, shp_str, shp_bool, shp_none, cmp_eq_int, cmp_ne_int, cmp_eq_bool, cmp_ne_bool, cmp_eq_str, cmp_ne_str, cmp_lt_int, cmp_gt_int, cmp_le_int, cmp_ge_int, cmp_le_str, cmp_ge_str, cmp_gt_str, cmp_lt_str, cmp_in, cmp_nin, cmp_is, cmp_isn, isD_bool, isD_none, bin_add, bin_sub, bin_adds, bin_addl, bin_addt, ix_list, ix_tup, ix_str, items_list, items_tup, items_str, notOw_sh, notOw_un, notOw_succ, b_beq_false, szl0, szl1, szl2, szl3, szl4, szl5, szl6, szl7, szl8, szl9, szl10, szl11, szl12, szl13, szl14, szl15, szl16, eob_some, eob_none, nxO_some, newS_int, newS_str, newS_bool, newS_none, newS_tup, newS_lst, newS_dic, newS_ff, setS_k, kSS_un, kSS_sh, kSS_ow, kSS_bo, setB_sh, setB_un, setB_ow, kSS_pl, setTg_one, setTg_tup, setAll_nil, setAll_cons, kSA_some, kLk_sh, kLk_owt, kLk_owf, kLk_io, kLk_lk, kLk_pkt, kLk_pk_tup, kLk_pk_int, kLk_pk_str, notOw_0, plainS_sh, plainS_un, owL_ow, owL_io, owD_ow, owD_io, withD_ow, withD_io, slotD_ow, slotD_io, slotP_sh, slotP_ow, slotP_io, slotP_pk, slotP_lk, execs_nil, execs_cons, kSeq_next, kSeq_ret, kSeq_exc, kSeq_brk, kSeq_cont, x_set, kSet_ok, kSet_exc, x_setT, kSetT_ok, kSetT_exc, x_exp, kExp_ok, kExp_exc, x_app, kApC_ff, kApD_tt, kApB_ok, kApC_tt, kApp_ok, kAv_ok, x_ext, kExC_tt, kExt_ok, kExt_okt, kEv_ok, isSome_some, x_ret, kRet_ok, kRet_exc, vr_cst, fe_cst, vr_gl, fe_gl, fe_var, vr_tup, fe_tup, vr_lst, fe_lst, vr_dic0, fe_dic0, vr_bin, fe_bin, vr_neg, fe_neg, vr_cmp, fe_cmp, vr_chn, fe_chn, vr_and_, fe_and_, vr_or_, fe_or_, vr_not_, fe_not_, vr_ife, fe_ife, vr_call, fe_call, vr_callF, fe_callF, vr_srt, fe_srt, vr_bi, fe_bi, vr_isi, fe_isi, vr_rev, fe_rev, vr_joi, fe_joi, vr_mget, fe_mget, vr_ix, fe_ix, vr_slc, fe_slc, vr_lc, fe_lc, vr_pop0, fe_pop0, vr_pop1, fe_pop1, vr_setd, fe_setd, x_retF, kRf_int, kRf_bool, kRf_none, kRf_tup, kRf_str, kRf_exc, x_retV, kRv_ow, kRv_tup, kRv_int, kRv_str, kRv_bool, kRv_none, x_retN, x_iff, kTst_ok, kTst_exc, kIf_tt, kIf_ff, x_for, kFor_ok, x_forV, kFV_sh, kFV_pk, kFV_lk, kFV_ow, kFV_io, kFi_some, unlk_k, kUl_ow, kUl_io, unl_next, unl_ret, unl_exc, x_pass, x_brk, x_cont, x_whl, x_par, kPar1_ok, kPar2_ok, kPar3_ok, kPutC_ff, kPutL_tt, kPutM_ok, owD_owl, owD_iol, x_put, kPut1_ok, kPutC_tt, kPut2_ok, kPv_ok, boOf_bo, odOf_od, lsOf_l, dcOf_d, shOf_sh, deepOf_od, deepOf_0, owL_bo, isSome_none, emptyB_t, emptyB_f, deepV_k, x_bor, kBoC_tt, kBo1_ok, kBo2_ok, x_bo0, kB0C_tt, kB01_ok, x_boP, kBP0_ok, kBP1_tt, kBP2_ok, kBP3_ok, kBP4_ok, putBo_k, unbo_nil, unbo_cons, ubS_un, ubS_sh, ubS_ow, ubS_io, ubS_pk, ubS_lk, ubS_od, ubS_bo, e_cst, e_glo, ev_var, ev_tup, ev_lst, kTup_ok, kLst_ok, ev_dic, ev_bin, kBin1_ok, kBin2_ok, ev_neg, kNeg_ok, ev_cmp, kCmp1_ok, kCmp2_ok, kBl_some, ev_chn, kCh1_ok, kCh2_ok, kCh3_tt, kCh3_ff, ev_and, ev_or, ev_not, ev_ife, kAnd_tt, kAnd_ff, kOr_tt, kOr_ff, kNot_ok, kIfe_tt, kIfe_ff, ev_call, kCall_ok, kCall_exc, kCv1_ok, kCv2_ok, kCv2_exc, ev_callF, kCF1_l, kCF1_d, kCF2_ok, kCw1_ok, kCw2_ok, kCw2_exc, slOk_nil, slOk_a, io_nil, io_cons, io_io, io_pk, fill_nil, fill_a, fill_s, fill_p, kFl_ok, kFs_ok, put_nil, put_a, put_p, put_s, put_00, ev_bi, kBi_ok, ev_isi, kIsi_ok, ev_ix, kIx1_ok, kIx2_ok, ev_slc, kSl1_ok, kSl2_ok, kSl3_ok, eo_no, eo_so, kOi_ok, et_no, et_so, el_nil, el_cons, el_io, el_pk, kLc0_tt, kL1_ok, kL1_exc, kL2_ok, ep_nil, ep_cons, kP1_ok, ev_rev, kRev_ok, ev_srt, kSrt_ok, kSr2_ok, ev_joi, kJo1_ok, kJo2_ok, ev_mget, kMg1_ok, kMg2_ok, ev_pop0, ev_pop1, kPoC_tt, kPo_ok, ev_setd, kSdC_tt, kSd1_ok, kSd2_ok, ei_val, kIt_ok, ei_rng1, kR1_ok, ei_rng2, kR2_ok, kR3_ok, ei_zip, kZ1_ok, kZ2_ok, ei_enm, kEn_ok, ev_lc, lcB_k, kB1_ok, kOne_tt, kOne_ff, kSm_ok, kF1_ok, kF2_next, kF2_cont, kF2_brk, kF2_ret, kF2_exc, kW1_tt, kW1_ff, kW2_next, kW2_cont, kW2_brk, kW2_ret, out_next, out_ret, out_exc, crO_ok, outK_no, outK_s, outs_nil, outs_a, outs_p, outs_s, kOs_ok, ix_dict, in_dict, dict_of, bq_tupl, bq_tupt, bq_lisl, bq_list, bq_inti, bq_min, bq_max, bq_sort, slc_list, slc_tup, get_2, get_1, zip_tup, zip_list, items_dict, cmp_eq_dct, cmp_ne_dct, List.tail_cons, kRv_od, kLk_od, kRf_tt, forS_nil, forS_cons, b_beq_true, pureE, pureL, pureO, pureI, wipeR, backR, List.getElem?_cons_zero, List.getElem?_cons_succ, List.set_cons_zero, List.set_cons_succ, List.append_nil, List.nil_append, List.cons_append, reduceIte, Bool.false_eq_true, Option.map_some, Option.map_none, Bool.false_and, Bool.true_and, Bool.and_false, Bool.and_true, Bool.or_false, Bool.or_true, Bool.false_or, Bool.true_or, Bool.not_true, Bool.not_false, List.all_cons, List.all_nil, List.length_cons, List.length_nil, Nat.reduceAdd, beq_self_eq_true, pu_x1_replaced_by, pu_x1__law_names, pu_x2__law_names, pu_x1__law_literal, pu_q1__law_literal, pu_x2__law_literal, pu_x3__law_literal, pu_q1__law_body, pu_x1__law_body, pu_x1__law_stands, pu_q1_law, pu_x1_law, so_0, so_1, so_2, so_3, oc_a, oc_aa, oc_aaa, oc_aaaa, oc_ap, oc_apa, oc_saa, oc_sas, $es,*])
/-! terms, bindings, plainly -/
/-- the first sign -/
theorem hd_ok (x : Str) (h1 : (1 : Int) ≤ x.length) : ∃ c cs, x.cps.toList = c :: cs ∧ atI x.cps.toList 0 = some c := by
  cases e : x.cps.toList with
  | nil =>
    have : x.length = 0 := by
      show x.cps.size = 0
      rw [← Array.length_toList, e]; rfl
    rw [this] at h1
    exact absurd h1 (by decide)
  | cons c cs =>
    refine ⟨c, cs, rfl, ?_⟩
    simp [atI, ixN]
/-- no text is too long -/
def sm : D → Prop
  | .str x => x.length ≤ 1000
  | _ => True
theorem sm_var {d : D} (h : isVar d = true) : sm d := by
  cases d with
  | str x =>
    simp only [isVar, lenB, Bool.and_eq_true, decide_eq_true_eq] at h
    show x.length ≤ 1000
    omega
  | _ => trivial
theorem sm_const {d : D} (h : isConst d = true) : sm d := by
  rcases const_cases h with ⟨i, rfl⟩ | ⟨x, rfl, h⟩
  · trivial
  · simp only [isName, lenB, Bool.and_eq_true, decide_eq_true_eq] at h
    show x.length ≤ 1000
    omega
theorem let_gre : ∀ c ∈ LET.cps.toList, c ∉ GRE.cps.toList := by decide +kernel
/-- what begins a text -/
theorem name_hd {x : Str} (h : isName (.str x) = true) : ∃ c cs, x.cps.toList = c :: cs ∧ atI x.cps.toList 0 = some c ∧ c ∈ LET.cps.toList := by
  simp only [isName, lenB, hasB, Bool.and_eq_true, decide_eq_true_eq, List.all_eq_true] at h
  obtain ⟨c, cs, e1, e2⟩ := hd_ok x h.1.1
  exact ⟨c, cs, e1, e2, h.2.1 c (by rw [e1]; exact List.mem_cons_self)⟩
theorem var_hd {x : Str} (h : isVar (.str x) = true) : ∃ c cs, x.cps.toList = c :: cs ∧ atI x.cps.toList 0 = some c ∧ c ∈ GRE.cps.toList := by
  simp only [isVar, lenB, Bool.and_eq_true, decide_eq_true_eq] at h
  obtain ⟨c, cs, e1, e2⟩ := hd_ok x h.1.1
  rw [e1] at h
  simp only [decide_eq_true_eq] at h
  exact ⟨c, cs, e1, e2, h.2.1⟩
theorem const_var {d : D} (h : isConst d = true) : isVar d = false := by
  rcases const_cases h with ⟨i, rfl⟩ | ⟨x, rfl, h⟩
  · rfl
  · cases hv : isVar (.str x) with
    | false => rfl
    | true =>
      obtain ⟨c, cs, e1, _, h1⟩ := name_hd h
      obtain ⟨c', cs', e2, _, h2⟩ := var_hd hv
      rw [e1] at e2
      cases e2
      exact absurd h2 (let_gre c h1)
theorem var_at {d : D} (h : isVar d = true) : isAt d = true := by cases d <;> first | rfl | cases h
def isTerm (d : D) : Bool := isVar d || isConst d
theorem at_term {d : D} (h : isTerm d = true) : isAt d = true := by
  unfold isTerm at h
  rw [Bool.or_eq_true] at h
  rcases h with h | h
  · exact var_at h
  · exact at_const h
theorem sm_term {d : D} (h : isTerm d = true) : sm d := by
  unfold isTerm at h
  rw [Bool.or_eq_true] at h
  rcases h with h | h
  · exact sm_var h
  · exact sm_const h
abbrev Dc := List (D × D)
/-- keys are variables, values numbers or texts -/
structure Bnd (n : Nat) (w : Dc) : Prop where
  sd : SDc w
  ks : ∀ p ∈ w, isVar p.1 = true
  vs : ∀ p ∈ w, isAt p.2 = true
  ln : w.length ≤ n
theorem Bnd.put {n : Nat} {w : Dc} (h : Bnd n w) {t p : D} (ht : isVar t = true) (hp : isAt p = true) : Bnd (n + 1) (putN w t p) := by
  refine ⟨h.sd.put (var_at ht), fun q hq => ?_, fun q hq => ?_, Nat.le_trans (put_len w t p) (Nat.succ_le_succ h.ln)⟩
  · rcases put_mem hq with ⟨q', hq', e, _⟩ | rfl
    · rw [e]; exact h.ks q' hq'
    · exact ht
  · rcases put_mem hq with ⟨q', hq', e, e2 | e2⟩ | rfl
    · rw [e2]; exact h.vs q' hq'
    · rw [e2]; exact hp
    · exact hp
theorem Bnd.more {n m : Nat} {w : Dc} (h : Bnd n w) (l : n ≤ m) : Bnd m w := ⟨h.sd, h.ks, h.vs, Nat.le_trans h.ln l⟩
theorem Bnd.get {n : Nat} {w : Dc} (h : Bnd n w) {k : NestedKey} {v : D} (e : getN w k = some v) : isAt v = true := by
  obtain ⟨p, hp, _, rfl⟩ := getN_mem e
  exact h.vs p hp
def rep (w : Dc) (t : D) : D := (getN w (nkOf t)).getD t
theorem Bnd.nil : Bnd 0 [] := ⟨SDc.nil, fun p h => (List.not_mem_nil h).elim, fun p h => (List.not_mem_nil h).elim, Nat.le_refl _⟩
theorem fm_map {g : D → D} (ds : List D) : ds.filterMap (fun d => some (g d)) = ds.map g := by
  induction ds with
  | nil => rfl
  | cons d ds ih => simp
theorem replaced_ok (k : Nat) (ts : List D) (w : Dc) (hs : SDc w) (ht : ∀ t ∈ ts, isAt t = true) (hl : ts.length ≤ 1000) : callF TB (k + 1) (Str.ofString "replaced_by") [.tuple ts, .dict w] = .ok (.tuple (ts.map (rep w))) [] := by
  rw [cl_replaced_by]
  have e := lc_st (cf := callF TB k) (own := [2]) (tg := [2]) (isT := false) (ifs := .no) (elt := x1_replaced_by) (ρ := [.sh (.tuple ts), .pk (.dict w), .un]) (ds := ts) (fun t => some (rep w t)) (by dsimp?! []) (fun t h ρ0 => ⟨[.sh (.tuple ts), .pk (.dict w), .sh t], by
      dsimp?! [x1_replaced_by, lcB_k, hs.fit (ht t h)]
      rfl, by dsimp?! [], by dsimp?! []⟩)
  rw [fm_map] at e
  dsimp?! [b_replaced_by, e, szOk_of hl]
theorem any_eqv {ds : List D} {d : D} (h : ∀ e ∈ ds, isAt e = true) (hd : isAt d = true) : (ds.any fun z => PyData.eqv z d) = true ↔ d ∈ ds := by
  rw [List.any_eq_true]
  constructor
  · rintro ⟨z, hz, e⟩
    rw [← (eqv_at (h z hz) hd).mp e]
    exact hz
  · intro hm
    exact ⟨d, hm, eqv_rfl _ (smp_at hd)⟩
theorem in_at {ds : List D} {d : D} (h : ∀ e ∈ ds, isAt e = true) (hd : isAt d = true) : inD d (.list ds) = some (ds.any fun z => PyData.eqv z d) := by
  show guardP (shp d && shp (.list ds)) _ = _
  rw [shp_at hd, shp_ats h]
  rfl
theorem at_nat (xs : List D) (i : Nat) : atI xs (i : Int) = xs[i]? := by
  unfold atI ixN
  by_cases h : i < xs.length
  · simp [h]
  · have h1 : ¬ ((i : Int) < xs.length) := by omega
    simp [h, h1]
theorem term_cases {t : D} (h : isTerm t = true) : (∃ x c, t = .str x ∧ isVar t = true ∧ atI x.cps.toList 0 = some c ∧ c ∈ GRE.cps.toList ∧ x.length ≤ 8) ∨ (∃ x c, t = .str x ∧ isVar t = false ∧ atI x.cps.toList 0 = some c ∧ c ∈ LET.cps.toList ∧ x.length ≤ 8) ∨ (∃ i, t = .int i ∧ isVar t = false) := by
  unfold isTerm at h
  rw [Bool.or_eq_true] at h
  rcases h with h | h
  · cases t with
    | str x =>
      obtain ⟨c, cs, _, e, hc⟩ := var_hd h
      refine .inl ⟨x, c, rfl, h, e, hc, ?_⟩
      simp only [isVar, lenB, Bool.and_eq_true, decide_eq_true_eq] at h
      omega
    | _ => cases h
  · have hv := const_var h
    rcases const_cases h with ⟨i, rfl⟩ | ⟨x, rfl, h⟩
    · exact .inr (.inr ⟨i, rfl, hv⟩)
    · obtain ⟨c, cs, _, e, hc⟩ := name_hd h
      refine .inr (.inl ⟨x, c, rfl, hv, e, hc, ?_⟩)
      simp only [isName, lenB, Bool.and_eq_true, decide_eq_true_eq] at h
      omega
def gFil (p : D → Bool) (d : D) : Option D := if p d = true then some d else none
theorem filterMap_fil (p : D → Bool) (ds : List D) : ds.filterMap (gFil p) = ds.filter p := by
  induction ds with
  | nil => rfl
  | cons d ds ih =>
    rw [List.filterMap_cons, List.filter_cons]
    unfold gFil at *
    by_cases h : p d = true
    · simp only [h, if_true, ih]
    · simp only [h, if_false, ih]
      simp
theorem cut_mem {xs : List D} {lo hi : Option Int} {d : D} (h : d ∈ cutD xs lo hi) : d ∈ xs := by
  unfold cutD at h
  exact List.mem_of_mem_drop (List.mem_of_mem_take h)
theorem cut_len (xs : List D) (lo hi : Option Int) : (cutD xs lo hi).length ≤ xs.length := by
  unfold cutD
  rw [List.length_take, List.length_drop]
  omega
theorem log2_small {j : Int} (h0 : 0 ≤ j) (h1 : j ≤ 1000) : j.natAbs.log2 < 9000 := Nat.lt_of_le_of_lt (Nat.log2_le_self _) (by omega)
/-- the i-th whole number of a stream -/
theorem xs_at {xs : List Int} (hx : ∀ x ∈ xs, 0 ≤ x) {n : Nat} (hxl : xs.length = n) (i : Int) (h0 : 0 ≤ i) (h1 : i < n) : ∃ x : Int, atI (xs.map PyData.int) i = some (.int x) ∧ 0 ≤ x := by
  obtain ⟨x, e, _, h⟩ := at_int hx h0 (by omega)
  exact ⟨x, e, h⟩
end DI
set_option Elab.async false
set_option linter.all false
set_option maxRecDepth 100000
set_option maxHeartbeats 4000000
namespace DI
open PySem PySem.Spec PyProof.Rows L2
local macro_rules | `(tactic| dsimp?! [$es,*]) => `(tactic| simp only [isi_str, isi_tuple, isi_list, isi_bool, isi_int, isi_dict, asB_bool, asI_int, guard_tt, guard_ff, lenL, lenT, lenS, shp_int, shp_str, shp_bool, shp_none, cmp_eq_int, cmp_ne_int, cmp_eq_bool, cmp_ne_bool, cmp_eq_str, cmp_ne_str, cmp_lt_int, cmp_gt_int, cmp_le_int, cmp_ge_int, cmp_le_str, cmp_ge_str, cmp_gt_str, cmp_lt_str, cmp_in, cmp_nin, cmp_is, cmp_isn, isD_bool, isD_none, bin_add, bin_sub, bin_adds, bin_addl, bin_addt, ix_list, ix_tup, ix_str, items_list, items_tup, items_str, notOw_sh, notOw_un, notOw_succ, b_beq_false, szl0, szl1, szl2, szl3, szl4, szl5, szl6, szl7, szl8, szl9, szl10, szl11, szl12, szl13, szl14, szl15, szl16, eob_some, eob_none, nxO_some, newS_int, newS_str, newS_bool, newS_none, newS_tup, newS_lst, newS_dic, newS_ff, setS_k, kSS_un, kSS_sh, kSS_ow, kSS_bo, setB_sh, setB_un, setB_ow, kSS_pl, setTg_one, setTg_tup, setAll_nil, setAll_cons, kSA_some, kLk_sh, kLk_owt, kLk_owf, kLk_io, kLk_lk, kLk_pkt, kLk_pk_tup, kLk_pk_int, kLk_pk_str, notOw_0, plainS_sh, plainS_un, owL_ow, owL_io, owD_ow, owD_io, withD_ow, withD_io, slotD_ow, slotD_io, slotP_sh, slotP_ow, slotP_io, slotP_pk, slotP_lk, execs_nil, execs_cons, kSeq_next, kSeq_ret, kSeq_exc, kSeq_brk, kSeq_cont, x_set, kSet_ok, kSet_exc, x_setT, kSetT_ok, kSetT_exc, x_exp, kExp_ok, kExp_exc, x_app, kApC_ff, kApD_tt, kApB_ok, kApC_tt, kApp_ok, kAv_ok, x_ext, kExC_tt, kExt_ok, kExt_okt, kEv_ok, isSome_some, x_ret, kRet_ok, kRet_exc, vr_cst, fe_cst, vr_gl, fe_gl, fe_var, vr_tup, fe_tup, vr_lst, fe_lst, vr_dic0, fe_dic0, vr_bin, fe_bin, vr_neg, fe_neg, vr_cmp, fe_cmp, vr_chn, fe_chn, vr_and_, fe_and_, vr_or_, fe_or_, vr_not_, fe_not_, vr_ife, fe_ife, vr_call, fe_call, vr_callF, fe_callF, vr_srt, fe_srt, vr_bi, fe_bi, vr_isi, fe_isi, vr_rev, fe_rev, vr_joi, fe_joi, vr_mget, fe_mget, vr_ix, fe_ix, vr_slc, fe_slc, vr_lc, fe_lc, vr_pop0, fe_pop0, vr_pop1, fe_pop1, vr_setd, fe_setd, x_retF, kRf_int, kRf_bool, kRf_none, kRf_tup, kRf_str, kRf_exc, x_retV, kRv_ow, kRv_tup, kRv_int, kRv_str, kRv_bool, kRv_none, x_retN, x_iff, kTst_ok, kTst_exc, kIf_tt, kIf_ff, x_for, kFor_ok, x_forV, kFV_sh, kFV_pk, kFV_lk, kFV_ow, kFV_io, kFi_some, unlk_k, kUl_ow, kUl_io, unl_next, unl_ret, unl_exc, x_pass, x_brk, x_cont, x_whl, x_par, kPar1_ok, kPar2_ok, kPar3_ok, kPutC_ff, kPutL_tt, kPutM_ok, owD_owl, owD_iol, x_put, kPut1_ok, kPutC_tt, kPut2_ok, kPv_ok, boOf_bo, odOf_od, lsOf_l, dcOf_d, shOf_sh, deepOf_od, deepOf_0, owL_bo, isSome_none, emptyB_t, emptyB_f, deepV_k, x_bor, kBoC_tt, kBo1_ok, kBo2_ok, x_bo0, kB0C_tt, kB01_ok, x_boP, kBP0_ok, kBP1_tt, kBP2_ok, kBP3_ok, kBP4_ok, putBo_k, unbo_nil, unbo_cons, ubS_un, ubS_sh, ubS_ow, ubS_io, ubS_pk, ubS_lk, ubS_od, ubS_bo, e_cst, e_glo, ev_var, ev_tup, ev_lst, kTup_ok, kLst_ok, ev_dic, ev_bin, kBin1_ok, kBin2_ok, ev_neg, kNeg_ok, ev_cmp, kCmp1_ok, kCmp2_ok, kBl_some, ev_chn, kCh1_ok, kCh2_ok, kCh3_tt, kCh3_ff, ev_and, ev_or, ev_not, ev_ife, kAnd_tt, kAnd_ff, kOr_tt, kOr_ff, kNot_ok, kIfe_tt, kIfe_ff, ev_call, kCall_ok, kCall_exc, kCv1_ok, kCv2_ok, kCv2_exc, ev_callF, kCF1_l, kCF1_d, kCF2_ok, kCw1_ok, kCw2_ok, kCw2_exc, slOk_nil, slOk_a, io_nil, io_cons, io_io, io_pk, fill_nil, fill_a, fill_s, fill_p, kFl_ok, kFs_ok, put_nil, put_a, put_p, put_s, put_00, ev_bi, kBi_ok, ev_isi, kIsi_ok, ev_ix, kIx1_ok, kIx2_ok, ev_slc, kSl1_ok, kSl2_ok, kSl3_ok, eo_no, eo_so, kOi_ok, et_no, et_so, el_nil, el_cons, el_io, el_pk, kLc0_tt, kL1_ok, kL1_exc, kL2_ok, ep_nil, ep_cons, kP1_ok, ev_rev, kRev_ok, ev_srt, kSrt_ok, kSr2_ok, ev_joi, kJo1_ok, kJo2_ok, ev_mget, kMg1_ok, kMg2_ok, ev_pop0, ev_pop1, kPoC_tt, kPo_ok, ev_setd, kSdC_tt, kSd1_ok, kSd2_ok, ei_val, kIt_ok, ei_rng1, kR1_ok, ei_rng2, kR2_ok, kR3_ok, ei_zip, kZ1_ok, kZ2_ok, ei_enm, kEn_ok, ev_lc, lcB_k, kB1_ok, kOne_tt, kOne_ff, kSm_ok, kF1_ok, kF2_next, kF2_cont, kF2_brk, kF2_ret, kF2_exc, kW1_tt, kW1_ff, kW2_next, kW2_cont, kW2_brk, kW2_ret, out_next, out_ret, out_exc, crO_ok, outK_no, outK_s, outs_nil, outs_a, outs_p, outs_s, kOs_ok, ix_dict, in_dict, dict_of, bq_tupl, bq_tupt, bq_lisl, bq_list, bq_inti, bq_min, bq_max, bq_sort, slc_list, slc_tup, get_2, get_1, zip_tup, zip_list, items_dict, cmp_eq_dct, cmp_ne_dct, List.tail_cons, kRv_od, kLk_od, kRf_tt, forS_nil, forS_cons, b_beq_true, pureE, pureL, pureO, pureI, wipeR, backR, List.getElem?_cons_zero, List.getElem?_cons_succ, List.set_cons_zero, List.set_cons_succ, List.append_nil, List.nil_append, List.cons_append, reduceIte, Bool.false_eq_true, Option.map_some, Option.map_none, Bool.false_and, Bool.true_and, Bool.and_false, Bool.and_true, Bool.or_false, Bool.or_true, Bool.false_or, Bool.true_or, Bool.not_true, Bool.not_false, List.all_cons, List.all_nil, List.length_cons, List.length_nil, Nat.reduceAdd, beq_self_eq_true, pu_x1_replaced_by, pu_x1__law_names, pu_x2__law_names, pu_x1__law_literal, pu_q1__law_literal, pu_x2__law_literal, pu_x3__law_literal, pu_q1__law_body, pu_x1__law_body, pu_x1__law_stands, pu_q1_law, pu_x1_law, so_0, so_1, so_2, so_3, oc_a, oc_aa, oc_aaa, oc_aaaa, oc_ap, oc_apa, oc_saa, oc_sas, $es,*])
/-! rows of constants, facts -/
abbrev Fact := Str × List D
def factD (f : Fact) : D := .tuple [.str f.1, .tuple f.2]
theorem map_tup (ws : List (List D)) (w : List D) : (ws ++ [w]).map PyData.tuple = ws.map PyData.tuple ++ [.tuple w] := by rw [List.map_append]; rfl
theorem all_in (cf : Str → List D → CR) (a0 a1 a2 a3 : Sl) (row : List D) (hrow : row.length ≤ 100) : ∀ (cs : List D) (wid : List (List D)) (s6 : Sl), wid.length + cs.length ≤ 10000 → setB s6 = true →
    ∃ s6', setB s6' = true ∧ forS (setTg [6] false) (execs cf false l1__law_all) cs [a0, a1, a2, a3, .ow (.list (wid.map .tuple)), .sh (.tuple row), s6] = .next [a0, a1, a2, a3, .ow (.list ((wid ++ cs.map fun c => row ++ [c]).map .tuple)), .sh (.tuple row), s6']
  | [], wid, s6, _, h6 => ⟨s6, h6, by rw [forS_nil, List.map_nil, List.append_nil]⟩
  | c :: cs, wid, s6, hl, h6 => by
    rw [List.length_cons] at hl
    have hset : setTg [6] false c [a0, a1, a2, a3, .ow (.list (wid.map .tuple)), .sh (.tuple row), s6] = some [a0, a1, a2, a3, .ow (.list (wid.map .tuple)), .sh (.tuple row), .sh c] := by
      dsimp?! [h6]
    have hz : szOk (row.length + 1) = true := szOk_of (by omega)
    have hlen : (wid.map PyData.tuple).length < 16777216 := by rw [List.length_map]; omega
    have hb : execs cf false l1__law_all [a0, a1, a2, a3, .ow (.list (wid.map .tuple)), .sh (.tuple row), .sh c] = .next [a0, a1, a2, a3, .ow (.list ((wid ++ [row ++ [c]]).map .tuple)), .sh (.tuple row), .sh c] := by
      rw [map_tup]
      dsimp?! [l1__law_all, hz, hlen]
    obtain ⟨s6', h6', e⟩ := all_in cf a0 a1 a2 a3 row hrow cs (wid ++ [row ++ [c]]) (.sh c) (by rw [List.length_append]; simp; omega) rfl
    refine ⟨s6', h6', ?_⟩
    rw [forS_cons, hset, kF1_ok, hb, kF2_next, e, List.append_assoc]
    rfl
theorem all_mid (cf : Str → List D → CR) (cs : List D) (a1 a2 a3 : Sl) (hcl : cs.length ≤ 5) : ∀ (rows wid : List (List D)) (s5 s6 : Sl), (∀ r ∈ rows, r.length ≤ 100) → wid.length + rows.length * 5 ≤ 10000 → setB s5 = true → setB s6 = true →
    ∃ (wid' : List (List D)) (s5' s6' : Sl), setB s5' = true ∧ setB s6' = true ∧ forS (setTg [5] false) (execs cf false l2__law_all) (rows.map .tuple) [.sh (.list cs), a1, a2, a3, .ow (.list (wid.map .tuple)), s5, s6] = .next [.sh (.list cs), a1, a2, a3, .ow (.list (wid'.map .tuple)), s5', s6'] ∧
      wid'.length ≤ wid.length + rows.length * 5 ∧ ∀ w ∈ wid', w ∈ wid ∨ ∃ r ∈ rows, ∃ c ∈ cs, w = r ++ [c]
  | [], wid, s5, s6, _, _, h5, h6 => ⟨wid, s5, s6, h5, h6, by rw [List.map_nil, forS_nil], by simp, fun w h => .inl h⟩
  | r :: rows, wid, s5, s6, hr, hl, h5, h6 => by
    rw [List.length_cons] at hl
    have hset : setTg [5] false (.tuple r) [.sh (.list cs), a1, a2, a3, .ow (.list (wid.map .tuple)), s5, s6] = some [.sh (.list cs), a1, a2, a3, .ow (.list (wid.map .tuple)), .sh (.tuple r), s6] := by
      dsimp?! [h5]
    obtain ⟨s6', h6', e⟩ := all_in cf (.sh (.list cs)) a1 a2 a3 r (hr r List.mem_cons_self) cs wid s6 (by omega) h6
    have hb : execs cf false l2__law_all [.sh (.list cs), a1, a2, a3, .ow (.list (wid.map .tuple)), .sh (.tuple r), s6] = .next [.sh (.list cs), a1, a2, a3, .ow (.list ((wid ++ cs.map fun c => r ++ [c]).map .tuple)), .sh (.tuple r), s6'] := by
      dsimp?! [l2__law_all, e]
    obtain ⟨wid', s5', s6'', h5', h6'', e2, e3, e4⟩ := all_mid cf cs a1 a2 a3 hcl rows (wid ++ cs.map fun c => r ++ [c]) (.sh (.tuple r)) s6' (fun r h => hr r (List.mem_cons_of_mem _ h)) (by rw [List.length_append, List.length_map]; omega) rfl h6'
    refine ⟨wid', s5', s6'', h5', h6'', ?_, ?_, fun w hw => ?_⟩
    · rw [List.map_cons, forS_cons, hset, kF1_ok, hb, kF2_next, e2]
    · rw [List.length_append, List.length_map] at e3
      rw [List.length_cons]
      omega
    · rcases e4 w hw with h | ⟨r', hr', c, hc, rfl⟩
      · rw [List.mem_append, List.mem_map] at h
        rcases h with h | ⟨c, hc, rfl⟩
        · exact .inl h
        · exact .inr ⟨r, List.mem_cons_self, c, hc, rfl⟩
      · exact .inr ⟨r', List.mem_cons_of_mem _ hr', c, hc, rfl⟩
theorem all_out (cf : Str → List D → CR) (cs : List D) (a1 : Sl) (hcl : cs.length ≤ 5) : ∀ (ks : List Int) (n : Nat) (rows : List (List D)) (s2 s3 s4 s5 s6 : Sl), n + ks.length ≤ 4 → rows.length ≤ 5 ^ n → (∀ r ∈ rows, r.length = n ∧ ∀ d ∈ r, d ∈ cs) → (s2 = .ow (.list (rows.map .tuple)) ∨ s2 = .sh (.list (rows.map .tuple))) → setB s3 = true → setB s4 = true → setB s5 = true → setB s6 = true →
    ∃ (rows' : List (List D)) (s2' s3' s4' s5' s6' : Sl), forS (setTg [3] false) (execs cf false l3__law_all) (ks.map PyData.int) [.sh (.list cs), a1, s2, s3, s4, s5, s6] = .next [.sh (.list cs), a1, s2', s3', s4', s5', s6'] ∧ (s2' = .ow (.list (rows'.map .tuple)) ∨ s2' = .sh (.list (rows'.map .tuple))) ∧
      rows'.length ≤ 5 ^ (n + ks.length) ∧ ∀ r ∈ rows', r.length = n + ks.length ∧ ∀ d ∈ r, d ∈ cs
  | [], n, rows, s2, s3, s4, s5, s6, _, hl, hr, h2, _, _, _, _ => ⟨rows, s2, s3, s4, s5, s6, by rw [List.map_nil, forS_nil], h2, hl, hr⟩
  | k :: ks, n, rows, s2, s3, s4, s5, s6, hn, hl, hr, h2, h3, h4, h5, h6 => by
    rw [List.length_cons] at hn
    have hp : (5 : Nat) ^ n ≤ 5 ^ 4 := Nat.pow_le_pow_right (by decide) (by omega)
    have hp4 : (5 : Nat) ^ 4 = 625 := by decide
    have hset : setTg [3] false (.int k) [.sh (.list cs), a1, s2, s3, s4, s5, s6] = some [.sh (.list cs), a1, s2, .sh (.int k), s4, s5, s6] := by
      dsimp?! [h3]
    have step : ∃ (wid : List (List D)) (s2' s4' s5' s6' : Sl), execs cf false l3__law_all [.sh (.list cs), a1, s2, .sh (.int k), s4, s5, s6] = .next [.sh (.list cs), a1, s2', .sh (.int k), s4', s5', s6'] ∧ s2' = .sh (.list (wid.map .tuple)) ∧ setB s4' = true ∧ setB s5' = true ∧ setB s6' = true ∧
        wid.length ≤ rows.length * 5 ∧ ∀ w ∈ wid, ∃ r ∈ rows, ∃ c ∈ cs, w = r ++ [c] := by
      rcases h2 with rfl | rfl
      · obtain ⟨wid, s5', s6', h5', h6', e, e2, e3⟩ := all_mid cf cs a1 (.lk (.list (rows.map .tuple))) (.sh (.int k)) hcl rows [] s5 s6 (fun r h => by rw [(hr r h).1]; omega) (by simp; omega) h5 h6
        simp only [List.map_nil] at e
        refine ⟨wid, _, .sh (.list (wid.map .tuple)), s5', s6', ?_, rfl, rfl, h5', h6', by simpa using e2, fun w hw => (e3 w hw).elim (fun z => (List.not_mem_nil z).elim) id⟩
        dsimp?! [l3__law_all, h4, e]
      · obtain ⟨wid, s5', s6', h5', h6', e, e2, e3⟩ := all_mid cf cs a1 (.sh (.list (rows.map .tuple))) (.sh (.int k)) hcl rows [] s5 s6 (fun r h => by rw [(hr r h).1]; omega) (by simp; omega) h5 h6
        simp only [List.map_nil] at e
        refine ⟨wid, _, .sh (.list (wid.map .tuple)), s5', s6', ?_, rfl, rfl, h5', h6', by simpa using e2, fun w hw => (e3 w hw).elim (fun z => (List.not_mem_nil z).elim) id⟩
        dsimp?! [l3__law_all, h4, e]
    obtain ⟨wid, s2', s4', s5', s6', e, e2, g4, g5, g6, e3, e4⟩ := step
    obtain ⟨rows', s2'', s3'', s4'', s5'', s6'', f, f2, f3, f4⟩ := all_out cf cs a1 hcl ks (n + 1) wid s2' (.sh (.int k)) s4' s5' s6' (by omega) (by rw [Nat.pow_succ]; omega) (fun w hw => by
      obtain ⟨r, hr', c, hc, rfl⟩ := e4 w hw
      refine ⟨by rw [List.length_append, (hr r hr').1]; rfl, fun d hd => ?_⟩
      rw [List.mem_append, List.mem_singleton] at hd
      rcases hd with hd | rfl
      · exact (hr r hr').2 d hd
      · exact hc) (.inr e2) rfl g4 g5 g6
    refine ⟨rows', s2'', s3'', s4'', s5'', s6'', ?_, f2, ?_, ?_⟩
    · rw [List.map_cons, forS_cons, hset, kF1_ok, e, kF2_next, f]
    · rw [List.length_cons, show n + (ks.length + 1) = n + 1 + ks.length by omega]
      exact f3
    · rw [List.length_cons, show n + (ks.length + 1) = n + 1 + ks.length by omega]
      exact f4
theorem all_ok (k : Nat) (cs : List D) (w : Int) (hcl : cs.length ≤ 5) (h0 : 0 ≤ w) (h1 : w ≤ 4) : ∃ rows : List (List D), callF TB (k + 1) (Str.ofString "_law_all") [.list cs, .int w] = .ok (.list (rows.map .tuple)) [] ∧ rows.length ≤ 625 ∧ ∀ r ∈ rows, (r.length : Int) = w ∧ ∀ d ∈ r, d ∈ cs := by
  rw [cl__law_all]
  obtain ⟨rows, s2, s3, s4, s5, s6, e, e2, e3, e4⟩ := all_out (callF TB k) cs (.sh (.int w)) hcl ((List.range w.toNat).map fun (k : Nat) => 0 + (k : Int)) 0 [[]] (.ow (.list ([([] : List D)].map .tuple))) .un .un .un .un (by simp; omega) (by simp) (fun r hr => by
    rw [List.mem_singleton] at hr
    subst hr
    exact ⟨rfl, fun d h => (List.not_mem_nil h).elim⟩) (.inl rfl) rfl rfl rfl rfl
  have hr := rng_small w h0 (by omega)
  rw [range_ints] at hr
  have hl : 0 + ((List.range w.toNat).map fun (k : Nat) => 0 + (k : Int)).length = w.toNat := by simp
  rw [hl] at e3 e4
  refine ⟨rows, ?_, Nat.le_trans e3 (Nat.le_trans (Nat.pow_le_pow_right (by decide) (show w.toNat ≤ 4 by omega)) (by decide)), fun r h => ⟨by rw [(e4 r h).1]; omega, (e4 r h).2⟩⟩
  simp only [List.map_cons, List.map_nil] at e
  rcases e2 with rfl | rfl <;> dsimp?! [b__law_all, hr, e]
/-- facts are told by the bits -/
theorem facts_in (cf : Str → List D → CR) (c i : Int) (ps : List Str) (a2 a3 : Sl) (p : Str) (hp : atI (ps.map PyData.str) i = some (.str p)) : ∀ (rows : List (List D)) (fs : List Fact) (q : Int) (s7 s8 : Sl), fs.length + rows.length ≤ 10000 → setB s7 = true → setB s8 = true →
    ∃ (fs' : List Fact) (q' : Int) (s7' s8' : Sl), setB s7' = true ∧ setB s8' = true ∧ forS (setTg [7] false) (execs cf true l1__law_facts) (rows.map .tuple) [.sh (.int c), .sh (.list (ps.map .str)), a2, a3, .ow (.list (fs.map factD)), .sh (.int q), .sh (.int i), s7, s8] =
      .next [.sh (.int c), .sh (.list (ps.map .str)), a2, a3, .ow (.list (fs'.map factD)), .sh (.int q'), .sh (.int i), s7', s8'] ∧ fs'.length ≤ fs.length + rows.length ∧ ∀ f ∈ fs', f ∈ fs ∨ f.2 ∈ rows
  | [], fs, q, s7, s8, _, h7, h8 => ⟨fs, q, s7, s8, h7, h8, by rw [List.map_nil, forS_nil], Nat.le_refl _, fun f h => .inl h⟩
  | r :: rows, fs, q, s7, s8, hl, h7, h8 => by
    rw [List.length_cons] at hl
    have hset : setTg [7] false (.tuple r) [.sh (.int c), .sh (.list (ps.map .str)), a2, a3, .ow (.list (fs.map factD)), .sh (.int q), .sh (.int i), s7, s8] = some [.sh (.int c), .sh (.list (ps.map .str)), a2, a3, .ow (.list (fs.map factD)), .sh (.int q), .sh (.int i), .sh (.tuple r), s8] := by
      dsimp?! [h7]
    have m2 := fun x => bin_mod x 2 (by decide)
    have m5 := fun x => bin_mod x 5 (by decide)
    have m3 := fun x => bin_mod x 2147483647 (by decide)
    have m4 := fun x => bin_mod x 2147483629 (by decide)
    have f2 := fun x => bin_fdiv x 2 (by decide) (by decide +kernel)
    have f3 := fun x => bin_fdiv x 3 (by decide) (by decide +kernel)
    have t1 := fun x : Int => bin_mulr x 48271 (by decide) (by decide)
    have t2 := fun x : Int => bin_mulr x 69621 (by decide) (by decide)
    have hlen : (fs.map factD).length < 16777216 := by rw [List.length_map]; omega
    have hb : ∃ (q' b : Int), execs cf true l1__law_facts [.sh (.int c), .sh (.list (ps.map .str)), a2, a3, .ow (.list (fs.map factD)), .sh (.int q), .sh (.int i), .sh (.tuple r), s8] =
        .next [.sh (.int c), .sh (.list (ps.map .str)), a2, a3, .ow (.list ((if b = 1 then fs ++ [(p, r)] else fs).map factD)), .sh (.int q'), .sh (.int i), .sh (.tuple r), .sh (.int b)] := by
      by_cases hc : c % 2 = 1
      · refine ⟨q / 2, q % 2, ?_⟩
        by_cases hb : q % 2 = 1
        · dsimp?! [l1__law_facts, h8, m2, f2, hc, hb, decide_true, hp, hlen, List.map_append, List.map_cons, List.map_nil, factD]
        · dsimp?! [l1__law_facts, h8, m2, f2, hc, hb, decide_true, decide_false]
      · refine ⟨(q * 48271 + 12345) % 2147483647, (q * 48271 + 12345) % 2147483647 * 69621 % 2147483629 % 5 / 3, ?_⟩
        by_cases hb : (q * 48271 + 12345) % 2147483647 * 69621 % 2147483629 % 5 / 3 = 1
        · dsimp?! [l1__law_facts, h8, m2, m3, m4, m5, f3, t1, t2, hc, hb, decide_true, decide_false, hp, hlen, List.map_append, List.map_cons, List.map_nil, factD]
        · dsimp?! [l1__law_facts, h8, m2, m3, m4, m5, f3, t1, t2, hc, hb, decide_false]
    obtain ⟨q', b, hb⟩ := hb
    have hfl : (if b = 1 then fs ++ [(p, r)] else fs).length ≤ fs.length + 1 := by split <;> simp
    obtain ⟨fs', q'', s7', s8', h7', h8', e, e2, e3⟩ := facts_in cf c i ps a2 a3 p hp rows (if b = 1 then fs ++ [(p, r)] else fs) q' (.sh (.tuple r)) (.sh (.int b)) (by omega) rfl rfl
    refine ⟨fs', q'', s7', s8', h7', h8', ?_, by rw [List.length_cons]; omega, fun f hf => ?_⟩
    · rw [List.map_cons, forS_cons, hset, kF1_ok, hb, kF2_next, e]
    · rcases e3 f hf with h | h
      · split at h
        · rw [List.mem_append, List.mem_singleton] at h
          rcases h with h | rfl
          · exact .inl h
          · exact .inr List.mem_cons_self
        · exact .inl h
      · exact .inr (List.mem_cons_of_mem _ h)
theorem facts_out (k : Nat) (c : Int) (ps : List Str) (ws : List Int) (cs : List D) (hw : ∀ w ∈ ws, 0 ≤ w ∧ w ≤ 4) (hpw : ws.length = ps.length) (hcl : cs.length ≤ 5) : ∀ (ks : List Int), (∀ i ∈ ks, 0 ≤ i ∧ i < ps.length) → ∀ (fs : List Fact) (q : Int) (s6 s7 s8 : Sl), (∀ f ∈ fs, f.2.length ≤ 4 ∧ ∀ d ∈ f.2, d ∈ cs) → fs.length + ks.length * 625 ≤ 9000 → setB s6 = true → setB s7 = true → setB s8 = true →
    ∃ (fs' : List Fact) (q' : Int) (s6' s7' s8' : Sl), forS (setTg [6] false) (execs (callF TB (k + 1)) true l2__law_facts) (ks.map PyData.int) [.sh (.int c), .sh (.list (ps.map .str)), .sh (.list (ws.map .int)), .sh (.list cs), .ow (.list (fs.map factD)), .sh (.int q), s6, s7, s8] =
      .next [.sh (.int c), .sh (.list (ps.map .str)), .sh (.list (ws.map .int)), .sh (.list cs), .ow (.list (fs'.map factD)), .sh (.int q'), s6', s7', s8'] ∧ fs'.length ≤ fs.length + ks.length * 625 ∧ ∀ f ∈ fs', f.2.length ≤ 4 ∧ ∀ d ∈ f.2, d ∈ cs
  | [], _, fs, q, s6, s7, s8, hf, _, _, _, _ => ⟨fs, q, s6, s7, s8, by rw [List.map_nil, forS_nil], by simp, hf⟩
  | i :: ks, hk, fs, q, s6, s7, s8, hf, hl, h6, h7, h8 => by
    rw [List.length_cons] at hl
    obtain ⟨hi0, hi1⟩ := hk i List.mem_cons_self
    obtain ⟨p, ep, gp⟩ := atI_in (ps.map PyData.str) hi0 (by rw [List.length_map]; exact hi1)
    rw [List.mem_map] at gp
    obtain ⟨p, _, rfl⟩ := gp
    obtain ⟨w, ew, gw⟩ := atI_in (ws.map PyData.int) hi0 (by rw [List.length_map]; omega)
    rw [List.mem_map] at gw
    obtain ⟨w, gw, rfl⟩ := gw
    obtain ⟨hw0, hw1⟩ := hw w gw
    obtain ⟨rows, er, hrl, hr⟩ := all_ok k cs w hcl hw0 hw1
    have hset : setTg [6] false (.int i) [.sh (.int c), .sh (.list (ps.map .str)), .sh (.list (ws.map .int)), .sh (.list cs), .ow (.list (fs.map factD)), .sh (.int q), s6, s7, s8] = some [.sh (.int c), .sh (.list (ps.map .str)), .sh (.list (ws.map .int)), .sh (.list cs), .ow (.list (fs.map factD)), .sh (.int q), .sh (.int i), s7, s8] := by
      dsimp?! [h6]
    obtain ⟨fs', q', s7', s8', h7', h8', e, e2, e3⟩ := facts_in (callF TB (k + 1)) c i ps (.sh (.list (ws.map .int))) (.sh (.list cs)) p ep rows fs q s7 s8 (by omega) h7 h8
    have hb : execs (callF TB (k + 1)) true l2__law_facts [.sh (.int c), .sh (.list (ps.map .str)), .sh (.list (ws.map .int)), .sh (.list cs), .ow (.list (fs.map factD)), .sh (.int q), .sh (.int i), s7, s8] = .next [.sh (.int c), .sh (.list (ps.map .str)), .sh (.list (ws.map .int)), .sh (.list cs), .ow (.list (fs'.map factD)), .sh (.int q'), .sh (.int i), s7', s8'] := by
      dsimp?! [l2__law_facts, ew, er, e]
    obtain ⟨fs'', q'', s6'', s7'', s8'', f, f2, f3⟩ := facts_out k c ps ws cs hw hpw hcl ks (fun i hi => hk i (List.mem_cons_of_mem _ hi)) fs' q' (.sh (.int i)) s7' s8' (fun g hg => by
      rcases e3 g hg with h | h
      · exact hf g h
      · obtain ⟨h1, h2⟩ := hr _ h
        exact ⟨by omega, h2⟩) (by omega) rfl h7' h8'
    refine ⟨fs'', q'', s6'', s7'', s8'', ?_, by rw [List.length_cons]; omega, f3⟩
    rw [List.map_cons, forS_cons, hset, kF1_ok, hb, kF2_next, f]
theorem facts_ok (k : Nat) (c : Int) (ps : List Str) (ws : List Int) (cs : List D) (hw : ∀ w ∈ ws, 0 ≤ w ∧ w ≤ 4) (hpw : ws.length = ps.length) (hcl : cs.length ≤ 5) (hpl : ps.length ≤ 5) : ∃ fs : List Fact, callF TB (k + 2) (Str.ofString "_law_facts") [.int c, .list (ps.map .str), .list (ws.map .int), .list cs] = .ok (.list (fs.map factD)) [] ∧ fs.length ≤ 4000 ∧ ∀ f ∈ fs, f.2.length ≤ 4 ∧ ∀ d ∈ f.2, d ∈ cs := by
  rw [cl__law_facts]
  have f2 := bin_fdiv c 2 (by decide) (by decide +kernel)
  obtain ⟨fs, q, s6, s7, s8, e, e2, e3⟩ := facts_out k c ps ws cs hw hpw hcl ((List.range (ps.length : Int).toNat).map fun (k : Nat) => 0 + (k : Int)) (fun i hi => by
    rw [List.mem_map] at hi
    obtain ⟨j, hj, rfl⟩ := hi
    rw [List.mem_range] at hj
    omega) [] (c / 2) .un .un .un (fun f h => (List.not_mem_nil h).elim) (by simp; omega) rfl rfl rfl
  have hr := rng_small (ps.length : Int) (by omega) (by omega)
  rw [range_ints] at hr
  simp only [List.map_nil] at e
  refine ⟨fs, ?_, by simp at e2; omega, e3⟩
  dsimp?! [b__law_facts, f2, List.length_map, hr, e]
end DI
set_option Elab.async false
set_option linter.all false
set_option maxRecDepth 100000
set_option maxHeartbeats 4000000
namespace DI
open PySem PySem.Spec PyProof.Rows L2
local macro_rules | `(tactic| dsimp?! [$es,*]) => `(tactic| simp only [isi_str, isi_tuple, isi_list, isi_bool, isi_int, isi_dict, asB_bool, asI_int, guard_tt, guard_ff, lenL, lenT, lenS, shp_int, shp_str, shp_bool, shp_none, cmp_eq_int, cmp_ne_int, cmp_eq_bool, cmp_ne_bool, cmp_eq_str, cmp_ne_str, cmp_lt_int, cmp_gt_int, cmp_le_int, cmp_ge_int, cmp_le_str, cmp_ge_str, cmp_gt_str, cmp_lt_str, cmp_in, cmp_nin, cmp_is, cmp_isn, isD_bool, isD_none, bin_add, bin_sub, bin_adds, bin_addl, bin_addt, ix_list, ix_tup, ix_str, items_list, items_tup, items_str, notOw_sh, notOw_un, notOw_succ, b_beq_false, szl0, szl1, szl2, szl3, szl4, szl5, szl6, szl7, szl8, szl9, szl10, szl11, szl12, szl13, szl14, szl15, szl16, eob_some, eob_none, nxO_some, newS_int, newS_str, newS_bool, newS_none, newS_tup, newS_lst, newS_dic, newS_ff, setS_k, kSS_un, kSS_sh, kSS_ow, kSS_bo, setB_sh, setB_un, setB_ow, kSS_pl, setTg_one, setTg_tup, setAll_nil, setAll_cons, kSA_some, kLk_sh, kLk_owt, kLk_owf, kLk_io, kLk_lk, kLk_pkt, kLk_pk_tup, kLk_pk_int, kLk_pk_str, notOw_0, plainS_sh, plainS_un, owL_ow, owL_io, owD_ow, owD_io, withD_ow, withD_io, slotD_ow, slotD_io, slotP_sh, slotP_ow, slotP_io, slotP_pk, slotP_lk, execs_nil, execs_cons, kSeq_next, kSeq_ret, kSeq_exc, kSeq_brk, kSeq_cont, x_set, kSet_ok, kSet_exc, x_setT, kSetT_ok, kSetT_exc, x_exp, kExp_ok, kExp_exc, x_app, kApC_ff, kApD_tt, kApB_ok, kApC_tt, kApp_ok, kAv_ok, x_ext, kExC_tt, kExt_ok, kExt_okt, kEv_ok, isSome_some, x_ret, kRet_ok, kRet_exc, vr_cst, fe_cst, vr_gl, fe_gl, fe_var, vr_tup, fe_tup, vr_lst, fe_lst, vr_dic0, fe_dic0, vr_bin, fe_bin, vr_neg, fe_neg, vr_cmp, fe_cmp, vr_chn, fe_chn, vr_and_, fe_and_, vr_or_, fe_or_, vr_not_, fe_not_, vr_ife, fe_ife, vr_call, fe_call, vr_callF, fe_callF, vr_srt, fe_srt, vr_bi, fe_bi, vr_isi, fe_isi, vr_rev, fe_rev, vr_joi, fe_joi, vr_mget, fe_mget, vr_ix, fe_ix, vr_slc, fe_slc, vr_lc, fe_lc, vr_pop0, fe_pop0, vr_pop1, fe_pop1, vr_setd, fe_setd, x_retF, kRf_int, kRf_bool, kRf_none, kRf_tup, kRf_str, kRf_exc, x_retV, kRv_ow, kRv_tup, kRv_int, kRv_str, kRv_bool, kRv_none, x_retN, x_iff, kTst_ok, kTst_exc, kIf_tt, kIf_ff, x_for, kFor_ok, x_forV, kFV_sh, kFV_pk, kFV_lk, kFV_ow, kFV_io, kFi_some, unlk_k, kUl_ow, kUl_io, unl_next, unl_ret, unl_exc, x_pass, x_brk, x_cont, x_whl, x_par, kPar1_ok, kPar2_ok, kPar3_ok, kPutC_ff, kPutL_tt, kPutM_ok, owD_owl, owD_iol, x_put, kPut1_ok, kPutC_tt, kPut2_ok, kPv_ok, boOf_bo, odOf_od, lsOf_l, dcOf_d, shOf_sh, deepOf_od, deepOf_0, owL_bo, isSome_none, emptyB_t, emptyB_f, deepV_k, x_bor, kBoC_tt, kBo1_ok, kBo2_ok, x_bo0, kB0C_tt, kB01_ok, x_boP, kBP0_ok, kBP1_tt, kBP2_ok, kBP3_ok, kBP4_ok, putBo_k, unbo_nil, unbo_cons, ubS_un, ubS_sh, ubS_ow, ubS_io, ubS_pk, ubS_lk, ubS_od, ubS_bo, e_cst, e_glo, ev_var, ev_tup, ev_lst, kTup_ok, kLst_ok, ev_dic, ev_bin, kBin1_ok, kBin2_ok, ev_neg, kNeg_ok, ev_cmp, kCmp1_ok, kCmp2_ok, kBl_some, ev_chn, kCh1_ok, kCh2_ok, kCh3_tt, kCh3_ff, ev_and, ev_or, ev_not, ev_ife, kAnd_tt, kAnd_ff, kOr_tt, kOr_ff, kNot_ok, kIfe_tt, kIfe_ff, ev_call, kCall_ok, kCall_exc, kCv1_ok, kCv2_ok, kCv2_exc, ev_callF, kCF1_l, kCF1_d, kCF2_ok, kCw1_ok, kCw2_ok, kCw2_exc, slOk_nil, slOk_a, io_nil, io_cons, io_io, io_pk, fill_nil, fill_a, fill_s, fill_p, kFl_ok, kFs_ok, put_nil, put_a, put_p, put_s, put_00, ev_bi, kBi_ok, ev_isi, kIsi_ok, ev_ix, kIx1_ok, kIx2_ok, ev_slc, kSl1_ok, kSl2_ok, kSl3_ok, eo_no, eo_so, kOi_ok, et_no, et_so, el_nil, el_cons, el_io, el_pk, kLc0_tt, kL1_ok, kL1_exc, kL2_ok, ep_nil, ep_cons, kP1_ok, ev_rev, kRev_ok, ev_srt, kSrt_ok, kSr2_ok, ev_joi, kJo1_ok, kJo2_ok, ev_mget, kMg1_ok, kMg2_ok, ev_pop0, ev_pop1, kPoC_tt, kPo_ok, ev_setd, kSdC_tt, kSd1_ok, kSd2_ok, ei_val, kIt_ok, ei_rng1, kR1_ok, ei_rng2, kR2_ok, kR3_ok, ei_zip, kZ1_ok, kZ2_ok, ei_enm, kEn_ok, ev_lc, lcB_k, kB1_ok, kOne_tt, kOne_ff, kSm_ok, kF1_ok, kF2_next, kF2_cont, kF2_brk, kF2_ret, kF2_exc, kW1_tt, kW1_ff, kW2_next, kW2_cont, kW2_brk, kW2_ret, out_next, out_ret, out_exc, crO_ok, outK_no, outK_s, outs_nil, outs_a, outs_p, outs_s, kOs_ok, ix_dict, in_dict, dict_of, bq_tupl, bq_tupt, bq_lisl, bq_list, bq_inti, bq_min, bq_max, bq_sort, slc_list, slc_tup, get_2, get_1, zip_tup, zip_list, items_dict, cmp_eq_dct, cmp_ne_dct, List.tail_cons, kRv_od, kLk_od, kRf_tt, forS_nil, forS_cons, b_beq_true, pureE, pureL, pureO, pureI, wipeR, backR, List.getElem?_cons_zero, List.getElem?_cons_succ, List.set_cons_zero, List.set_cons_succ, List.append_nil, List.nil_append, List.cons_append, reduceIte, Bool.false_eq_true, Option.map_some, Option.map_none, Bool.false_and, Bool.true_and, Bool.and_false, Bool.and_true, Bool.or_false, Bool.or_true, Bool.false_or, Bool.true_or, Bool.not_true, Bool.not_false, List.all_cons, List.all_nil, List.length_cons, List.length_nil, Nat.reduceAdd, beq_self_eq_true, pu_x1_replaced_by, pu_x1__law_names, pu_x2__law_names, pu_x1__law_literal, pu_q1__law_literal, pu_x2__law_literal, pu_x3__law_literal, pu_q1__law_body, pu_x1__law_body, pu_x1__law_stands, pu_q1_law, pu_x1_law, so_0, so_1, so_2, so_3, oc_a, oc_aa, oc_aaa, oc_aaaa, oc_ap, oc_apa, oc_saa, oc_sas, $es,*])
/-! literals -/
theorem eqv_nil (xs : List D) : PyData.eqv (.list xs) (.list []) = xs.isEmpty := by cases xs <;> rfl
theorem cmp_ne_nil {xs : List D} (h : ∀ d ∈ xs, isAt d = true) : cmpD .NotEq (.list xs) (.list []) = some (!xs.isEmpty) := by
  show (eqD (.list xs) (.list [])).map _ = _
  rw [eqD_nd (fun _ e => by cases e) (shp_ats h) (shp_ats (ds := []) fun d h => (List.not_mem_nil h).elim), eqv_nil]
  rfl
theorem cmp_eq_nil {xs : List D} (h : ∀ d ∈ xs, isAt d = true) : cmpD .Eq (.list xs) (.list []) = some xs.isEmpty := by
  show eqD (.list xs) (.list []) = _
  rw [eqD_nd (fun _ e => by cases e) (shp_ats h) (shp_ats (ds := []) fun d h => (List.not_mem_nil h).elim), eqv_nil]
theorem term_ok (k : Nat) (x : Int) (some_ cs : List D) (hs : ∀ d ∈ some_, isAt d = true) (hcl : 0 < cs.length) : ∃ t, callF TB (k + 1) (Str.ofString "_law_term") [.int x, .list some_, .list cs] = .ok t [] ∧ (t ∈ some_ ∨ t ∈ cs) := by
  rw [cl__law_term]
  have m4 := bin_mod x 4 (by decide)
  have f4 := bin_fdiv x 4 (by decide) (by decide +kernel)
  have hne := cmp_ne_nil hs
  have mc := bin_mod (x / 4) (cs.length : Int) (by omega)
  obtain ⟨c, ec, gc⟩ := atI_mod cs (n := (cs.length : Int)) (x / 4) rfl (by omega)
  by_cases h4 : x % 4 < 3
  · cases he : some_.isEmpty with
    | false =>
      have hp : 0 < some_.length := by cases some_ <;> simp_all
      have ms := bin_mod (x / 4) (some_.length : Int) (by omega)
      obtain ⟨t, et, gt⟩ := atI_mod some_ (n := (some_.length : Int)) (x / 4) rfl (by omega)
      rw [he] at hne
      exact ⟨t, by dsimp?! [b__law_term, m4, h4, decide_true, hne, f4, ms, et], .inl gt⟩
    | true =>
      rw [he] at hne
      exact ⟨c, by dsimp?! [b__law_term, m4, h4, decide_true, hne, f4, mc, ec], .inr gc⟩
  · exact ⟨c, by dsimp?! [b__law_term, m4, h4, decide_false, f4, mc, ec], .inr gc⟩
inductive Lit where
  | yes (p : Str) (ts : List D) | no (p : Str) (ts : List D) | und (a b : D) | unl (a b : D)
def litD : Lit → D
  | .yes p ts => .tuple [.str (Str.ofString "yes"), .str p, .tuple ts]
  | .no p ts => .tuple [.str (Str.ofString "not"), .str p, .tuple ts]
  | .und a b => .tuple [.str (Str.ofString "under"), a, b]
  | .unl a b => .tuple [.str (Str.ofString "unlike"), a, b]
/-- its terms are of these -/
def litOk (vs cs bound : List D) : Lit → Prop
  | .yes _ ts => ts.length ≤ 4 ∧ ∀ t ∈ ts, t ∈ vs ∨ t ∈ cs
  | .no _ ts => ts.length ≤ 4 ∧ ∀ t ∈ ts, t ∈ bound ∨ t ∈ cs
  | .und a b => (a ∈ bound ∨ a ∈ cs) ∧ (b ∈ bound ∨ b ∈ cs)
  | .unl a b => (a ∈ bound ∨ a ∈ cs) ∧ (b ∈ bound ∨ b ∈ cs)
/-- the predicate, with so many places -/
def litAt (ps : List Str) (ws : List Int) : Lit → Prop
  | .yes p ts => ∃ i : Nat, ps[i]? = some p ∧ ws[i]? = some (ts.length : Int)
  | .no p ts => ∃ i : Nat, ps[i]? = some p ∧ ws[i]? = some (ts.length : Int)
  | _ => True
def litBd (vs bound : List D) : Lit → List D → Prop
  | .yes _ ts, b' => ∀ t, t ∈ b' ↔ t ∈ bound ∨ (t ∈ ts ∧ t ∈ vs)
  | _, b' => b' = bound
def kd (ps : List Str) (ws : List Int) (cs vs : List D) : D := .tuple [.list (ps.map .str), .list (ws.map .int), .list cs, .list vs]
theorem pop_int (x : Int) (r : List Int) (i : Nat) (ρ : Rho) : kPp (some ((x :: r).map PyData.int)) i 0 ρ = .ok (.int x) (ρ.set i (withD ρ[i]? (.list (r.map .int)))) := kPp_0 _ _ _ _
/-- terms drawn one after another -/
theorem terms_loop (k : Nat) (elt : CE) (at_ : Nat) (some_ cs : List D) (hs : ∀ d ∈ some_, isAt d = true) (hcl : 0 < cs.length) (a1 a2 a3 a4 a5 a6 a7 a8 a9 a11 a12 : Sl)
    (hstep : ∀ (x : Int) (r : List Int) (t : D) (s10 : Sl), callF TB (k + 1) (Str.ofString "_law_term") [.int x, .list some_, .list cs] = .ok t [] → evalE (callF TB (k + 1)) false elt [.io (.list ((x :: r).map .int)), a1, a2, a3, a4, a5, a6, a7, a8, a9, s10, a11, a12] = .ok t [.io (.list (r.map .int)), a1, a2, a3, a4, a5, a6, a7, a8, a9, s10, a11, a12]) :
    ∀ (ks : List Int) (xs : List Int) (s10 : Sl), ks.length ≤ xs.length → plainS s10 = true →
      ∃ (ts : List D) (s10' : Sl), plainS s10' = true ∧ lcLoop (lcOne (callF TB (k + 1)) [10] [10] false .no elt) (ks.map PyData.int) [.io (.list (xs.map .int)), a1, a2, a3, a4, a5, a6, a7, a8, a9, s10, a11, a12] =
        .ok ts [.io (.list ((xs.drop ks.length).map .int)), a1, a2, a3, a4, a5, a6, a7, a8, a9, s10', a11, a12] ∧ ts.length = ks.length ∧ ∀ t ∈ ts, t ∈ some_ ∨ t ∈ cs
  | [], xs, s10, _, h10 => ⟨[], s10, h10, rfl, rfl, fun t h => (List.not_mem_nil h).elim⟩
  | i :: ks, [], s10, hl, h10 => by simp at hl
  | i :: ks, x :: xs, s10, hl, h10 => by
    obtain ⟨t, et, gt⟩ := term_ok k x some_ cs hs hcl
    have e1 := hstep x xs t (.sh (.int i)) et
    obtain ⟨ts, s10', h10', e, e2, e3⟩ := terms_loop k elt at_ some_ cs hs hcl a1 a2 a3 a4 a5 a6 a7 a8 a9 a11 a12 hstep ks xs (.sh (.int i)) (by simpa using hl) rfl
    refine ⟨t :: ts, s10', h10', ?_, by rw [List.length_cons, List.length_cons, e2], fun t' ht' => ?_⟩
    · have hone : lcOne (callF TB (k + 1)) [10] [10] false .no elt (.int i) [.io (.list ((x :: xs).map .int)), a1, a2, a3, a4, a5, a6, a7, a8, a9, s10, a11, a12] = .ok (some t) [.io (.list (xs.map .int)), a1, a2, a3, a4, a5, a6, a7, a8, a9, .sh (.int i), a11, a12] := by
        unfold lcOne
        rw [if_pos (by dsimp?! [h10])]
        dsimp?! [lcB_k, e1]
      rw [List.map_cons]
      simp only [lcLoop, hone, e, ebind_ok, List.length_cons, List.drop_succ_cons]
    · rcases List.mem_cons.mp ht' with rfl | h
      · exact gt
      · exact e3 t' h
theorem terms_run (k : Nat) (elt : CE) (some_ cs : List D) (hs : ∀ d ∈ some_, isAt d = true) (hcl : 0 < cs.length) (a1 a2 a3 a4 a5 a6 a7 a8 a9 a11 a12 : Sl)
    (hstep : ∀ (x : Int) (r : List Int) (t : D) (s10 : Sl), callF TB (k + 1) (Str.ofString "_law_term") [.int x, .list some_, .list cs] = .ok t [] → evalE (callF TB (k + 1)) false elt [.io (.list ((x :: r).map .int)), a1, a2, a3, a4, a5, a6, a7, a8, a9, s10, a11, a12] = .ok t [.io (.list (r.map .int)), a1, a2, a3, a4, a5, a6, a7, a8, a9, s10, a11, a12])
    (w : Nat) (xs : List Int) (hw : w ≤ xs.length) (hw2 : w ≤ 1000) :
    ∃ ts : List D, kLc (callF TB (k + 1)) [10] [10] false .no elt (.ok ((List.range w).map fun (k : Nat) => .int (0 + k)) [.io (.list (xs.map .int)), a1, a2, a3, a4, a5, a6, a7, a8, a9, .un, a11, a12]) =
        .ok (.list ts) [.io (.list ((xs.drop w).map .int)), a1, a2, a3, a4, a5, a6, a7, a8, a9, .un, a11, a12] ∧ ts.length = w ∧ ∀ t ∈ ts, t ∈ some_ ∨ t ∈ cs := by
  have hkl : ((List.range w).map fun (k : Nat) => 0 + (k : Int)).length = w := by simp
  obtain ⟨ts, s10', h10', e, e2, e3⟩ := terms_loop k elt 0 some_ cs hs hcl a1 a2 a3 a4 a5 a6 a7 a8 a9 a11 a12 hstep ((List.range w).map fun (k : Nat) => 0 + (k : Int)) xs .un (by rw [hkl]; exact hw) rfl
  rw [hkl] at e e2
  refine ⟨ts, ?_, e2, e3⟩
  rw [range_ints, kLc_ok, e, kLc2_ok]
  have hz : szOk (((List.range w).map fun (k : Nat) => 0 + (k : Int)).map PyData.int).length = true := szOk_of (by simpa using hw2)
  dsimp?! [h10', kLc3_tt, hz]
end DI
set_option Elab.async false
set_option linter.all false
set_option maxRecDepth 100000
set_option maxHeartbeats 4000000
namespace DI
open PySem PySem.Spec PyProof.Rows L2
local macro_rules | `(tactic| dsimp?! [$es,*]) => `(tactic| simp only [isi_str, isi_tuple, isi_list, isi_bool, isi_int, isi_dict, asB_bool, asI_int, guard_tt, guard_ff, lenL, lenT, lenS, shp_int, shp_str, shp_bool, shp_none, cmp_eq_int, cmp_ne_int, cmp_eq_bool, cmp_ne_bool, cmp_eq_str, cmp_ne_str, cmp_lt_int, cmp_gt_int, cmp_le_int, cmp_ge_int, cmp_le_str, cmp_ge_str, cmp_gt_str, cmp_lt_str, cmp_in, cmp_nin, cmp_is, cmp_isn, isD_bool, isD_none, bin_add, bin_sub, bin_adds, bin_addl, bin_addt, ix_list, ix_tup, ix_str, items_list, items_tup, items_str, notOw_sh, notOw_un, notOw_succ, b_beq_false, szl0, szl1, szl2, szl3, szl4, szl5, szl6, szl7, szl8, szl9, szl10, szl11, szl12, szl13, szl14, szl15, szl16, eob_some, eob_none, nxO_some, newS_int, newS_str, newS_bool, newS_none, newS_tup, newS_lst, newS_dic, newS_ff, setS_k, kSS_un, kSS_sh, kSS_ow, kSS_bo, setB_sh, setB_un, setB_ow, kSS_pl, setTg_one, setTg_tup, setAll_nil, setAll_cons, kSA_some, kLk_sh, kLk_owt, kLk_owf, kLk_io, kLk_lk, kLk_pkt, kLk_pk_tup, kLk_pk_int, kLk_pk_str, notOw_0, plainS_sh, plainS_un, owL_ow, owL_io, owD_ow, owD_io, withD_ow, withD_io, slotD_ow, slotD_io, slotP_sh, slotP_ow, slotP_io, slotP_pk, slotP_lk, execs_nil, execs_cons, kSeq_next, kSeq_ret, kSeq_exc, kSeq_brk, kSeq_cont, x_set, kSet_ok, kSet_exc, x_setT, kSetT_ok, kSetT_exc, x_exp, kExp_ok, kExp_exc, x_app, kApC_ff, kApD_tt, kApB_ok, kApC_tt, kApp_ok, kAv_ok, x_ext, kExC_tt, kExt_ok, kExt_okt, kEv_ok, isSome_some, x_ret, kRet_ok, kRet_exc, vr_cst, fe_cst, vr_gl, fe_gl, fe_var, vr_tup, fe_tup, vr_lst, fe_lst, vr_dic0, fe_dic0, vr_bin, fe_bin, vr_neg, fe_neg, vr_cmp, fe_cmp, vr_chn, fe_chn, vr_and_, fe_and_, vr_or_, fe_or_, vr_not_, fe_not_, vr_ife, fe_ife, vr_call, fe_call, vr_callF, fe_callF, vr_srt, fe_srt, vr_bi, fe_bi, vr_isi, fe_isi, vr_rev, fe_rev, vr_joi, fe_joi, vr_mget, fe_mget, vr_ix, fe_ix, vr_slc, fe_slc, vr_lc, fe_lc, vr_pop0, fe_pop0, vr_pop1, fe_pop1, vr_setd, fe_setd, x_retF, kRf_int, kRf_bool, kRf_none, kRf_tup, kRf_str, kRf_exc, x_retV, kRv_ow, kRv_tup, kRv_int, kRv_str, kRv_bool, kRv_none, x_retN, x_iff, kTst_ok, kTst_exc, kIf_tt, kIf_ff, x_for, kFor_ok, x_forV, kFV_sh, kFV_pk, kFV_lk, kFV_ow, kFV_io, kFi_some, unlk_k, kUl_ow, kUl_io, unl_next, unl_ret, unl_exc, x_pass, x_brk, x_cont, x_whl, x_par, kPar1_ok, kPar2_ok, kPar3_ok, kPutC_ff, kPutL_tt, kPutM_ok, owD_owl, owD_iol, x_put, kPut1_ok, kPutC_tt, kPut2_ok, kPv_ok, boOf_bo, odOf_od, lsOf_l, dcOf_d, shOf_sh, deepOf_od, deepOf_0, owL_bo, isSome_none, emptyB_t, emptyB_f, deepV_k, x_bor, kBoC_tt, kBo1_ok, kBo2_ok, x_bo0, kB0C_tt, kB01_ok, x_boP, kBP0_ok, kBP1_tt, kBP2_ok, kBP3_ok, kBP4_ok, putBo_k, unbo_nil, unbo_cons, ubS_un, ubS_sh, ubS_ow, ubS_io, ubS_pk, ubS_lk, ubS_od, ubS_bo, e_cst, e_glo, ev_var, ev_tup, ev_lst, kTup_ok, kLst_ok, ev_dic, ev_bin, kBin1_ok, kBin2_ok, ev_neg, kNeg_ok, ev_cmp, kCmp1_ok, kCmp2_ok, kBl_some, ev_chn, kCh1_ok, kCh2_ok, kCh3_tt, kCh3_ff, ev_and, ev_or, ev_not, ev_ife, kAnd_tt, kAnd_ff, kOr_tt, kOr_ff, kNot_ok, kIfe_tt, kIfe_ff, ev_call, kCall_ok, kCall_exc, kCv1_ok, kCv2_ok, kCv2_exc, ev_callF, kCF1_l, kCF1_d, kCF2_ok, kCw1_ok, kCw2_ok, kCw2_exc, slOk_nil, slOk_a, io_nil, io_cons, io_io, io_pk, fill_nil, fill_a, fill_s, fill_p, kFl_ok, kFs_ok, put_nil, put_a, put_p, put_s, put_00, ev_bi, kBi_ok, ev_isi, kIsi_ok, ev_ix, kIx1_ok, kIx2_ok, ev_slc, kSl1_ok, kSl2_ok, kSl3_ok, eo_no, eo_so, kOi_ok, et_no, et_so, el_nil, el_cons, el_io, el_pk, kLc0_tt, kL1_ok, kL1_exc, kL2_ok, ep_nil, ep_cons, kP1_ok, ev_rev, kRev_ok, ev_srt, kSrt_ok, kSr2_ok, ev_joi, kJo1_ok, kJo2_ok, ev_mget, kMg1_ok, kMg2_ok, ev_pop0, ev_pop1, kPoC_tt, kPo_ok, ev_setd, kSdC_tt, kSd1_ok, kSd2_ok, ei_val, kIt_ok, ei_rng1, kR1_ok, ei_rng2, kR2_ok, kR3_ok, ei_zip, kZ1_ok, kZ2_ok, ei_enm, kEn_ok, ev_lc, lcB_k, kB1_ok, kOne_tt, kOne_ff, kSm_ok, kF1_ok, kF2_next, kF2_cont, kF2_brk, kF2_ret, kF2_exc, kW1_tt, kW1_ff, kW2_next, kW2_cont, kW2_brk, kW2_ret, out_next, out_ret, out_exc, crO_ok, outK_no, outK_s, outs_nil, outs_a, outs_p, outs_s, kOs_ok, ix_dict, in_dict, dict_of, bq_tupl, bq_tupt, bq_lisl, bq_list, bq_inti, bq_min, bq_max, bq_sort, slc_list, slc_tup, get_2, get_1, zip_tup, zip_list, items_dict, cmp_eq_dct, cmp_ne_dct, List.tail_cons, kRv_od, kLk_od, kRf_tt, forS_nil, forS_cons, b_beq_true, pureE, pureL, pureO, pureI, wipeR, backR, List.getElem?_cons_zero, List.getElem?_cons_succ, List.set_cons_zero, List.set_cons_succ, List.append_nil, List.nil_append, List.cons_append, reduceIte, Bool.false_eq_true, Option.map_some, Option.map_none, Bool.false_and, Bool.true_and, Bool.and_false, Bool.and_true, Bool.or_false, Bool.or_true, Bool.false_or, Bool.true_or, Bool.not_true, Bool.not_false, List.all_cons, List.all_nil, List.length_cons, List.length_nil, Nat.reduceAdd, beq_self_eq_true, pu_x1_replaced_by, pu_x1__law_names, pu_x2__law_names, pu_x1__law_literal, pu_q1__law_literal, pu_x2__law_literal, pu_x3__law_literal, pu_q1__law_body, pu_x1__law_body, pu_x1__law_stands, pu_q1_law, pu_x1_law, so_0, so_1, so_2, so_3, oc_a, oc_aa, oc_aaa, oc_aaaa, oc_ap, oc_apa, oc_saa, oc_sas, $es,*])
theorem at_both {ps : List Str} {ws : List Int} (hpw : ws.length = ps.length) (hp : 0 < ps.length) (x : Int) : ∃ (i : Nat) (p : Str) (w : Int), ps[i]? = some p ∧ ws[i]? = some w ∧ atI (ps.map PyData.str) (x % ps.length) = some (.str p) ∧ atI (ws.map PyData.int) (x % ps.length) = some (.int w) ∧ w ∈ ws := by
  have h0 := Int.emod_nonneg x (b := (ps.length : Int)) (by omega)
  have h1 := Int.emod_lt_of_pos x (b := (ps.length : Int)) (by omega)
  obtain ⟨n, hn⟩ := Int.eq_ofNat_of_zero_le h0
  rw [hn] at h1 ⊢
  have hl : n < ps.length := by omega
  refine ⟨n, ps[n], ws[n]'(by omega), List.getElem?_eq_getElem hl, List.getElem?_eq_getElem _, ?_, ?_, List.getElem_mem _⟩
  · rw [at_nat, List.getElem?_map, List.getElem?_eq_getElem hl]; rfl
  · rw [at_nat, List.getElem?_map, List.getElem?_eq_getElem (by omega)]; rfl
theorem literal_ok (k : Nat) (xs : List Int) (ps : List Str) (ws : List Int) (cs vs bound : List D) (hx : 4 ≤ xs.length) (hb : ∀ b ∈ bound, b ∈ vs) (hbl : bound.length ≤ 1000) (hvs : ∀ v ∈ vs, isAt v = true) (hcs : ∀ c ∈ cs, isAt c = true) (hcl : 0 < cs.length)
    (hw : ∀ w ∈ ws, 0 ≤ w ∧ w ≤ 3) (hpw : ws.length = ps.length) (hp : 0 < ps.length) :
    ∃ (lit : Lit) (xs' : List Int) (bound' : List D), callF TB (k + 2) (Str.ofString "_law_literal") [.list (xs.map .int), kd ps ws cs vs, .list bound] = .ok (litD lit) [.list (xs'.map .int), .none, .list bound'] ∧ xs.length ≤ xs'.length + 4 ∧ bound'.length ≤ bound.length + 4 ∧ (∀ b ∈ bound', b ∈ vs) ∧ litOk vs cs bound lit ∧ litAt ps ws lit ∧ litBd vs bound lit bound' := by
  match xs, hx with
  | x :: y :: z :: u :: r, _ =>
  rw [cl__law_literal]
  have hbat : ∀ b ∈ bound, isAt b = true := fun b h => hvs b (hb b h)
  obtain ⟨i, p, w, ep, ew, ap, aw, gw⟩ := at_both hpw hp (x / 7)
  obtain ⟨hw0, hw1⟩ := hw w gw
  obtain ⟨n, hn⟩ := Int.eq_ofNat_of_zero_le hw0
  subst hn
  have m7 := bin_mod x 7 (by decide)
  have f7 := bin_fdiv x 7 (by decide) (by decide +kernel)
  have m8 := bin_mod (x / 7) 8 (by decide)
  have mp := bin_mod (x / 7) (ps.length : Int) (by omega)
  have m2 := bin_mod x 2 (by decide)
  have hrn := rng_small (n : Int) (by omega) (by omega)
  rw [Int.toNat_natCast] at hrn
  have hst : ∀ ρ : Rho, setTg [3, 4, 5, 6] true (kd ps ws cs vs) ρ = setAll [3, 4, 5, 6] [.list (ps.map .str), .list (ws.map .int), .list cs, .list vs] ρ := fun ρ => setTg_tup _ _ _ rfl
  have hbe := cmp_eq_nil hbat
  have yes : ∃ (ts : List D), (kLc (callF TB (k + 1)) [10] [10] false .no x3__law_literal (.ok ((List.range n).map fun (k : Nat) => .int (0 + k)) [.io (.list ((y :: z :: u :: r).map .int)), .sh (kd ps ws cs vs), .io (.list bound), .sh (.list (ps.map .str)), .sh (.list (ws.map .int)), .sh (.list cs), .sh (.list vs), .sh (.int x), .sh (.int (x / 7 % ps.length)), .un, .un, .un, .un]) =
      .ok (.list ts) [.io (.list (((y :: z :: u :: r).drop n).map .int)), .sh (kd ps ws cs vs), .io (.list bound), .sh (.list (ps.map .str)), .sh (.list (ws.map .int)), .sh (.list cs), .sh (.list vs), .sh (.int x), .sh (.int (x / 7 % ps.length)), .un, .un, .un, .un]) ∧ ts.length = n ∧ ∀ t ∈ ts, t ∈ vs ∨ t ∈ cs :=
    terms_run k x3__law_literal vs cs hvs hcl _ _ _ _ _ _ _ _ _ _ _ (fun x r t s10 et => by dsimp?! [x3__law_literal, pop_int, et]) n (y :: z :: u :: r) (by simp; omega) (by omega)
  obtain ⟨ts, ets, tl, tm⟩ := yes
  have htat : ∀ t ∈ ts, isAt t = true := fun t h => (tm t h).elim (hvs t) (hcs t)
  have eext := lc_st (cf := callF TB (k + 1)) (own := [11]) (tg := [11]) (isT := false) (ifs := .so q1__law_literal) (elt := x2__law_literal) (ρ := [.io (.list (((y :: z :: u :: r).drop n).map .int)), .sh (kd ps ws cs vs), .io (.list bound), .sh (.list (ps.map .str)), .sh (.list (ws.map .int)), .sh (.list cs), .sh (.list vs), .sh (.int x), .sh (.int (x / 7 % ps.length)), .sh (.tuple ts), .un, .un, .un])
    (ds := ts) (gFil fun t => (vs.any fun z => PyData.eqv z t) && !(bound.any fun z => PyData.eqv z t)) (by dsimp?! []) (fun t ht ρ0 => ⟨[.io (.list (((y :: z :: u :: r).drop n).map .int)), .sh (kd ps ws cs vs), .io (.list bound), .sh (.list (ps.map .str)), .sh (.list (ws.map .int)), .sh (.list cs), .sh (.list vs), .sh (.int x), .sh (.int (x / 7 % ps.length)), .sh (.tuple ts), .un, .sh t, .un], by
      have i1 := in_at hvs (htat t ht)
      have i2 := in_at hbat (htat t ht)
      unfold gFil
      cases h1 : vs.any fun z => PyData.eqv z t with
      | false => dsimp?! [q1__law_literal, x2__law_literal, lcB_k, i1, i2, h1]
      | true =>
        cases h2 : bound.any fun z => PyData.eqv z t with
        | false => dsimp?! [q1__law_literal, x2__law_literal, lcB_k, i1, i2, h1, h2]
        | true => dsimp?! [q1__law_literal, x2__law_literal, lcB_k, i1, i2, h1, h2], by dsimp?! [], by dsimp?! []⟩)
  rw [filterMap_fil, szOk_of (show ts.length ≤ 1000 by omega), guard_tt, eob_some] at eext
  have hmem : ∀ t, t ∈ bound ++ ts.filter (fun t => (vs.any fun z => PyData.eqv z t) && !(bound.any fun z => PyData.eqv z t)) ↔ t ∈ bound ∨ (t ∈ ts ∧ t ∈ vs) := fun t => by
    rw [List.mem_append, List.mem_filter, Bool.and_eq_true]
    constructor
    · rintro (h | ⟨h1, h2, h3⟩)
      · exact .inl h
      · exact .inr ⟨h1, (any_eqv hvs (htat t h1)).mp h2⟩
    · rintro (h | ⟨h1, h2⟩)
      · exact .inl h
      · by_cases h3 : t ∈ bound
        · exact .inl h3
        · refine .inr ⟨h1, (any_eqv hvs (htat t h1)).mpr h2, ?_⟩
          rw [Bool.not_eq_true', ← Bool.not_eq_true]
          exact fun z => h3 ((any_eqv hbat (htat t h1)).mp z)
  have hfl : (ts.filter fun t => (vs.any fun z => PyData.eqv z t) && !(bound.any fun z => PyData.eqv z t)).length ≤ 4 := Nat.le_trans (List.length_filter_le _ _) (by omega)
  generalize (ts.filter fun t => (vs.any fun z => PyData.eqv z t) && !(bound.any fun z => PyData.eqv z t)) = more at eext hmem hfl
  have hbig : bound.length + more.length ≤ 16777216 := by omega
  have fin_yes : execs (callF TB (k + 1)) false b__law_literal [.io (.list ((x :: y :: z :: u :: r).map .int)), .sh (kd ps ws cs vs), .io (.list bound), .un, .un, .un, .un, .un, .un, .un, .un, .un, .un] =
        .ret (litD (.yes p ts)) [.io (.list (((y :: z :: u :: r).drop n).map .int)), .sh (kd ps ws cs vs), .io (.list (bound ++ more)), .sh (.list (ps.map .str)), .sh (.list (ws.map .int)), .sh (.list cs), .sh (.list vs), .sh (.int x), .sh (.int (x / 7 % ps.length)), .sh (.tuple ts), .un, .un, .un] →
      ∃ (lit : Lit) (xs' : List Int) (bound' : List D), SO.out [PKd.s, PKd.a, PKd.s] (execs (callF TB (k + 1)) false b__law_literal [.io (.list ((x :: y :: z :: u :: r).map .int)), .sh (kd ps ws cs vs), .io (.list bound), .un, .un, .un, .un, .un, .un, .un, .un, .un, .un]) = .ok (litD lit) [.list (xs'.map .int), .none, .list bound'] ∧ (x :: y :: z :: u :: r).length ≤ xs'.length + 4 ∧ bound'.length ≤ bound.length + 4 ∧ (∀ b ∈ bound', b ∈ vs) ∧ litOk vs cs bound lit ∧ litAt ps ws lit ∧ litBd vs bound lit bound' := fun e => by
    refine ⟨.yes p ts, (y :: z :: u :: r).drop n, bound ++ more, ?_, ?_, by rw [List.length_append]; omega, fun b h => ((hmem b).mp h).elim (hb b) fun z => z.2, ⟨by omega, tm⟩, ⟨i, ep, by rw [ew, tl]⟩, hmem⟩
    · rw [e]
      dsimp?! []
    · rw [List.length_drop]
      simp only [List.length_cons]
      omega
  by_cases c1 : x % 7 < 4
  · apply fin_yes
    dsimp?! [b__law_literal, pop_int, hst, List.length_map, m7, f7, mp, c1, decide_true, aw, hrn, ets, eext, hbig, ap, litD]
  · by_cases c2 : bound.isEmpty = true ∧ ¬ x / 7 % 8 = 1
    · apply fin_yes
      dsimp?! [b__law_literal, pop_int, hst, List.length_map, m7, f7, mp, m8, c1, c2.1, c2.2, decide_false, hbe, aw, hrn, ets, eext, hbig, ap, litD]
    · have hcond : (bound.isEmpty && !decide (x / 7 % 8 = 1)) = false := by
        cases h : bound.isEmpty with
        | false => rfl
        | true =>
          rw [Bool.true_and, Bool.not_eq_false']
          rw [decide_eq_true_eq]
          by_cases z : x / 7 % 8 = 1
          · exact z
          · exact absurd ⟨h, z⟩ c2
      have tests : (bound.isEmpty = false) ∨ (bound.isEmpty = true ∧ x / 7 % 8 = 1) := by
        cases h : bound.isEmpty with
        | false => exact .inl rfl
        | true =>
          refine .inr ⟨rfl, ?_⟩
          by_cases z : x / 7 % 8 = 1
          · exact z
          · exact absurd ⟨h, z⟩ c2
      by_cases c4 : x % 7 = 4
      · obtain ⟨us, eus, ul, um⟩ := terms_run k x1__law_literal bound cs hbat hcl (.sh (kd ps ws cs vs)) (.io (.list bound)) (.sh (.list (ps.map .str))) (.sh (.list (ws.map .int))) (.sh (.list cs)) (.sh (.list vs)) (.sh (.int x)) (.sh (.int (x / 7 % ps.length))) .un .un .un (fun x r t s10 et => by dsimp?! [x1__law_literal, pop_int, et]) n (y :: z :: u :: r) (by simp; omega) (by omega)
        refine ⟨.no p us, (y :: z :: u :: r).drop n, bound, ?_, ?_, by omega, hb, ⟨by omega, um⟩, ⟨i, ep, by rw [ew, ul]⟩, rfl⟩
        · rcases tests with t1 | ⟨t1, t2⟩
          · dsimp?! [b__law_literal, pop_int, hst, List.length_map, m7, f7, mp, m8, c4, show ¬ ((4 : Int) < 4) from by decide, decide_true, decide_false, t1, hbe, aw, hrn, eus, ap, litD]
          · dsimp?! [b__law_literal, pop_int, hst, List.length_map, m7, f7, mp, m8, c4, show ¬ ((4 : Int) < 4) from by decide, decide_true, decide_false, t1, t2, hbe, aw, hrn, eus, ap, litD]
        · rw [List.length_drop]
          simp only [List.length_cons]
          omega
      · obtain ⟨a, ea, ga⟩ := term_ok k y bound cs hbat hcl
        obtain ⟨b, eb, gb⟩ := term_ok k z bound cs hbat hcl
        have at0 : atI [PyData.str (Str.ofString "under"), .str (Str.ofString "unlike")] 0 = some (.str (Str.ofString "under")) := rfl
        have at1 : atI [PyData.str (Str.ofString "under"), .str (Str.ofString "unlike")] 1 = some (.str (Str.ofString "unlike")) := rfl
        have hx2 : x % 2 = 0 ∨ x % 2 = 1 := by omega
        rcases hx2 with h2 | h2
        · refine ⟨.und a b, u :: r, bound, ?_, by simp, by omega, hb, ⟨ga, gb⟩, trivial, rfl⟩
          rcases tests with t1 | ⟨t1, t2⟩
          · dsimp?! [b__law_literal, pop_int, hst, List.length_map, m7, f7, mp, m8, m2, c1, c4, h2, decide_false, t1, hbe, ea, eb, at0, litD]
          · dsimp?! [b__law_literal, pop_int, hst, List.length_map, m7, f7, mp, m8, m2, c1, c4, h2, decide_false, decide_true, t1, t2, hbe, ea, eb, at0, litD]
        · refine ⟨.unl a b, u :: r, bound, ?_, by simp, by omega, hb, ⟨ga, gb⟩, trivial, rfl⟩
          rcases tests with t1 | ⟨t1, t2⟩
          · dsimp?! [b__law_literal, pop_int, hst, List.length_map, m7, f7, mp, m8, m2, c1, c4, h2, decide_false, t1, hbe, ea, eb, at1, litD]
          · dsimp?! [b__law_literal, pop_int, hst, List.length_map, m7, f7, mp, m8, m2, c1, c4, h2, decide_false, decide_true, t1, t2, hbe, ea, eb, at1, litD]
end DI
set_option Elab.async false
set_option linter.all false
set_option maxRecDepth 100000
set_option maxHeartbeats 4000000
namespace DI
open PySem PySem.Spec PyProof.Rows L2
local macro_rules | `(tactic| dsimp?! [$es,*]) => `(tactic| simp only [isi_str, isi_tuple, isi_list, isi_bool, isi_int, isi_dict, asB_bool, asI_int, guard_tt, guard_ff, lenL, lenT, lenS, shp_int, shp_str, shp_bool, shp_none, cmp_eq_int, cmp_ne_int, cmp_eq_bool, cmp_ne_bool, cmp_eq_str, cmp_ne_str, cmp_lt_int, cmp_gt_int, cmp_le_int, cmp_ge_int, cmp_le_str, cmp_ge_str, cmp_gt_str, cmp_lt_str, cmp_in, cmp_nin, cmp_is, cmp_isn, isD_bool, isD_none, bin_add, bin_sub, bin_adds, bin_addl, bin_addt, ix_list, ix_tup, ix_str, items_list, items_tup, items_str, notOw_sh, notOw_un, notOw_succ, b_beq_false, szl0, szl1, szl2, szl3, szl4, szl5, szl6, szl7, szl8, szl9, szl10, szl11, szl12, szl13, szl14, szl15, szl16, eob_some, eob_none, nxO_some, newS_int, newS_str, newS_bool, newS_none, newS_tup, newS_lst, newS_dic, newS_ff, setS_k, kSS_un, kSS_sh, kSS_ow, kSS_bo, setB_sh, setB_un, setB_ow, kSS_pl, setTg_one, setTg_tup, setAll_nil, setAll_cons, kSA_some, kLk_sh, kLk_owt, kLk_owf, kLk_io, kLk_lk, kLk_pkt, kLk_pk_tup, kLk_pk_int, kLk_pk_str, notOw_0, plainS_sh, plainS_un, owL_ow, owL_io, owD_ow, owD_io, withD_ow, withD_io, slotD_ow, slotD_io, slotP_sh, slotP_ow, slotP_io, slotP_pk, slotP_lk, execs_nil, execs_cons, kSeq_next, kSeq_ret, kSeq_exc, kSeq_brk, kSeq_cont, x_set, kSet_ok, kSet_exc, x_setT, kSetT_ok, kSetT_exc, x_exp, kExp_ok, kExp_exc, x_app, kApC_ff, kApD_tt, kApB_ok, kApC_tt, kApp_ok, kAv_ok, x_ext, kExC_tt, kExt_ok, kExt_okt, kEv_ok, isSome_some, x_ret, kRet_ok, kRet_exc, vr_cst, fe_cst, vr_gl, fe_gl, fe_var, vr_tup, fe_tup, vr_lst, fe_lst, vr_dic0, fe_dic0, vr_bin, fe_bin, vr_neg, fe_neg, vr_cmp, fe_cmp, vr_chn, fe_chn, vr_and_, fe_and_, vr_or_, fe_or_, vr_not_, fe_not_, vr_ife, fe_ife, vr_call, fe_call, vr_callF, fe_callF, vr_srt, fe_srt, vr_bi, fe_bi, vr_isi, fe_isi, vr_rev, fe_rev, vr_joi, fe_joi, vr_mget, fe_mget, vr_ix, fe_ix, vr_slc, fe_slc, vr_lc, fe_lc, vr_pop0, fe_pop0, vr_pop1, fe_pop1, vr_setd, fe_setd, x_retF, kRf_int, kRf_bool, kRf_none, kRf_tup, kRf_str, kRf_exc, x_retV, kRv_ow, kRv_tup, kRv_int, kRv_str, kRv_bool, kRv_none, x_retN, x_iff, kTst_ok, kTst_exc, kIf_tt, kIf_ff, x_for, kFor_ok, x_forV, kFV_sh, kFV_pk, kFV_lk, kFV_ow, kFV_io, kFi_some, unlk_k, kUl_ow, kUl_io, unl_next, unl_ret, unl_exc, x_pass, x_brk, x_cont, x_whl, x_par, kPar1_ok, kPar2_ok, kPar3_ok, kPutC_ff, kPutL_tt, kPutM_ok, owD_owl, owD_iol, x_put, kPut1_ok, kPutC_tt, kPut2_ok, kPv_ok, boOf_bo, odOf_od, lsOf_l, dcOf_d, shOf_sh, deepOf_od, deepOf_0, owL_bo, isSome_none, emptyB_t, emptyB_f, deepV_k, x_bor, kBoC_tt, kBo1_ok, kBo2_ok, x_bo0, kB0C_tt, kB01_ok, x_boP, kBP0_ok, kBP1_tt, kBP2_ok, kBP3_ok, kBP4_ok, putBo_k, unbo_nil, unbo_cons, ubS_un, ubS_sh, ubS_ow, ubS_io, ubS_pk, ubS_lk, ubS_od, ubS_bo, e_cst, e_glo, ev_var, ev_tup, ev_lst, kTup_ok, kLst_ok, ev_dic, ev_bin, kBin1_ok, kBin2_ok, ev_neg, kNeg_ok, ev_cmp, kCmp1_ok, kCmp2_ok, kBl_some, ev_chn, kCh1_ok, kCh2_ok, kCh3_tt, kCh3_ff, ev_and, ev_or, ev_not, ev_ife, kAnd_tt, kAnd_ff, kOr_tt, kOr_ff, kNot_ok, kIfe_tt, kIfe_ff, ev_call, kCall_ok, kCall_exc, kCv1_ok, kCv2_ok, kCv2_exc, ev_callF, kCF1_l, kCF1_d, kCF2_ok, kCw1_ok, kCw2_ok, kCw2_exc, slOk_nil, slOk_a, io_nil, io_cons, io_io, io_pk, fill_nil, fill_a, fill_s, fill_p, kFl_ok, kFs_ok, put_nil, put_a, put_p, put_s, put_00, ev_bi, kBi_ok, ev_isi, kIsi_ok, ev_ix, kIx1_ok, kIx2_ok, ev_slc, kSl1_ok, kSl2_ok, kSl3_ok, eo_no, eo_so, kOi_ok, et_no, et_so, el_nil, el_cons, el_io, el_pk, kLc0_tt, kL1_ok, kL1_exc, kL2_ok, ep_nil, ep_cons, kP1_ok, ev_rev, kRev_ok, ev_srt, kSrt_ok, kSr2_ok, ev_joi, kJo1_ok, kJo2_ok, ev_mget, kMg1_ok, kMg2_ok, ev_pop0, ev_pop1, kPoC_tt, kPo_ok, ev_setd, kSdC_tt, kSd1_ok, kSd2_ok, ei_val, kIt_ok, ei_rng1, kR1_ok, ei_rng2, kR2_ok, kR3_ok, ei_zip, kZ1_ok, kZ2_ok, ei_enm, kEn_ok, ev_lc, lcB_k, kB1_ok, kOne_tt, kOne_ff, kSm_ok, kF1_ok, kF2_next, kF2_cont, kF2_brk, kF2_ret, kF2_exc, kW1_tt, kW1_ff, kW2_next, kW2_cont, kW2_brk, kW2_ret, out_next, out_ret, out_exc, crO_ok, outK_no, outK_s, outs_nil, outs_a, outs_p, outs_s, kOs_ok, ix_dict, in_dict, dict_of, bq_tupl, bq_tupt, bq_lisl, bq_list, bq_inti, bq_min, bq_max, bq_sort, slc_list, slc_tup, get_2, get_1, zip_tup, zip_list, items_dict, cmp_eq_dct, cmp_ne_dct, List.tail_cons, kRv_od, kLk_od, kRf_tt, forS_nil, forS_cons, b_beq_true, pureE, pureL, pureO, pureI, wipeR, backR, List.getElem?_cons_zero, List.getElem?_cons_succ, List.set_cons_zero, List.set_cons_succ, List.append_nil, List.nil_append, List.cons_append, reduceIte, Bool.false_eq_true, Option.map_some, Option.map_none, Bool.false_and, Bool.true_and, Bool.and_false, Bool.and_true, Bool.or_false, Bool.or_true, Bool.false_or, Bool.true_or, Bool.not_true, Bool.not_false, List.all_cons, List.all_nil, List.length_cons, List.length_nil, Nat.reduceAdd, beq_self_eq_true, pu_x1_replaced_by, pu_x1__law_names, pu_x2__law_names, pu_x1__law_literal, pu_q1__law_literal, pu_x2__law_literal, pu_x3__law_literal, pu_q1__law_body, pu_x1__law_body, pu_x1__law_stands, pu_q1_law, pu_x1_law, so_0, so_1, so_2, so_3, oc_a, oc_aa, oc_aaa, oc_aaaa, oc_ap, oc_apa, oc_saa, oc_sas, $es,*])
/-! bodies -/
inductive BodyOk (vs cs : List D) (ps : List Str) (ws : List Int) : List Lit → List D → Prop
  | nil : BodyOk vs cs ps ws [] []
  | snoc {body : List Lit} {bound : List D} {lit : Lit} {bound' : List D} : BodyOk vs cs ps ws body bound → litOk vs cs bound lit → litAt ps ws lit → litBd vs bound lit bound' → BodyOk vs cs ps ws (body ++ [lit]) bound'
def isYesL : Lit → Bool
  | .yes _ _ => true
  | _ => false
theorem ny : (Str.ofString "not" == Str.ofString "yes") = false := by decide +kernel
theorem uy : (Str.ofString "under" == Str.ofString "yes") = false := by decide +kernel
theorem ly : (Str.ofString "unlike" == Str.ofString "yes") = false := by decide +kernel
theorem un_ : (Str.ofString "under" == Str.ofString "not") = false := by decide +kernel
theorem ln_ : (Str.ofString "unlike" == Str.ofString "not") = false := by decide +kernel
theorem ul_ : (Str.ofString "under" == Str.ofString "unlike") = false := by decide +kernel
theorem at_0 (d : D) (ds : List D) : atI (d :: ds) 0 = some d := by rw [show (0 : Int) = ((0 : Nat) : Int) from rfl, at_nat]; rfl
theorem at_1 (d e : D) (ds : List D) : atI (d :: e :: ds) 1 = some e := by rw [show (1 : Int) = ((1 : Nat) : Int) from rfl, at_nat]; rfl
theorem at_2 (d e f : D) (ds : List D) : atI (d :: e :: f :: ds) 2 = some f := by rw [show (2 : Int) = ((2 : Nat) : Int) from rfl, at_nat]; rfl
theorem at_3 (d e f g : D) (ds : List D) : atI (d :: e :: f :: g :: ds) 3 = some g := by rw [show (3 : Int) = ((3 : Nat) : Int) from rfl, at_nat]; rfl
/-- the first word of a literal -/
theorem lit_0 (l : Lit) : ixD (litD l) (.int 0) = some (.str (match l with | .yes _ _ => Str.ofString "yes" | .no _ _ => Str.ofString "not" | .und _ _ => Str.ofString "under" | .unl _ _ => Str.ofString "unlike")) := by
  cases l <;> simp only [litD, ix_tup, at_0]
theorem lit_yes (l : Lit) : ((match l with | .yes _ _ => Str.ofString "yes" | .no _ _ => Str.ofString "not" | .und _ _ => Str.ofString "under" | .unl _ _ => Str.ofString "unlike") == Str.ofString "yes") = isYesL l := by
  cases l
  · exact beq_self_eq_true _
  · exact ny
  · exact uy
  · exact ly
/-- all that is bound is a variable -/
theorem BodyOk.sub {vs cs : List D} {ps : List Str} {ws : List Int} {body : List Lit} {bound : List D} (h : BodyOk vs cs ps ws body bound) : ∀ b ∈ bound, b ∈ vs := by
  induction h with
  | nil => exact fun b h => (List.not_mem_nil h).elim
  | snoc h1 h2 h3 h4 ih =>
    rename_i body bound lit bound'
    cases lit with
    | yes p ts => exact fun b hb => ((h4 b).mp hb).elim (ih b) fun z => z.2
    | no p ts => have h4 : bound' = bound := h4; subst h4; exact ih
    | und a b => have h4 : bound' = bound := h4; subst h4; exact ih
    | unl a b => have h4 : bound' = bound := h4; subst h4; exact ih
theorem litOk.more {vs cs b b' : List D} {l : Lit} (h : litOk vs cs b l) (hb : ∀ t ∈ b, t ∈ b') : litOk vs cs b' l := by
  cases l with
  | yes p ts => exact h
  | no p ts => exact ⟨h.1, fun t ht => (h.2 t ht).imp (hb t) id⟩
  | und a b => exact ⟨h.1.imp (hb a) id, h.2.imp (hb b) id⟩
  | unl a b => exact ⟨h.1.imp (hb a) id, h.2.imp (hb b) id⟩
theorem BodyOk.lits {vs cs : List D} {ps : List Str} {ws : List Int} {body : List Lit} {bound : List D} (h : BodyOk vs cs ps ws body bound) : ∀ l ∈ body, litOk vs cs vs l ∧ litAt ps ws l := by
  induction h with
  | nil => exact fun b h => (List.not_mem_nil h).elim
  | snoc h1 h2 h3 h4 ih =>
    intro l hl
    rw [List.mem_append, List.mem_singleton] at hl
    rcases hl with hl | rfl
    · exact ih l hl
    · exact ⟨h2.more h1.sub, h3⟩
def gYes (d : D) : Option D := match d with
  | .tuple (.str s :: _) => if (s == Str.ofString "yes") = true then some d else none
  | _ => none
theorem body_loop (k : Nat) (ps : List Str) (ws : List Int) (cs vs : List D) (a2 : Sl) (hvs : ∀ v ∈ vs, isAt v = true) (hcs : ∀ c ∈ cs, isAt c = true) (hcl : 0 < cs.length) (hw : ∀ w ∈ ws, 0 ≤ w ∧ w ≤ 3) (hpw : ws.length = ps.length) (hp : 0 < ps.length) :
    ∀ (ks xs : List Int) (body : List Lit) (bound : List D) (s3 s5 s6 s7 : Sl), 4 * ks.length ≤ xs.length → body.length + ks.length ≤ 100 → bound.length + 4 * ks.length ≤ 500 → BodyOk vs cs ps ws body bound → (s3 = .ow (.list bound) ∨ s3 = .sh (.list bound)) → setB s5 = true → setB s6 = true → setB s7 = true →
      ∃ (xs' : List Int) (body' : List Lit) (bound' : List D) (s3' s5' s6' s7' : Sl), forS (setTg [5] false) (execs (callF TB (k + 2)) false l1__law_body) (ks.map PyData.int) [.io (.list (xs.map .int)), .sh (kd ps ws cs vs), a2, s3, .sh (.tuple (body.map litD)), s5, s6, s7, .un] =
        .next [.io (.list (xs'.map .int)), .sh (kd ps ws cs vs), a2, s3', .sh (.tuple (body'.map litD)), s5', s6', s7', .un] ∧ BodyOk vs cs ps ws body' bound' ∧ body'.length ≤ body.length + ks.length ∧ (s3' = .ow (.list bound') ∨ s3' = .sh (.list bound')) ∧ bound'.length ≤ bound.length + 4 * ks.length
  | [], xs, body, bound, s3, s5, s6, s7, _, _, _, hb, h3, _, _, _ => ⟨xs, body, bound, s3, s5, s6, s7, by rw [List.map_nil, forS_nil], hb, Nat.le_refl _, h3, by omega⟩
  | i :: ks, xs, body, bound, s3, s5, s6, s7, hx, hn, hbn, hb, h3, h5, h6, h7 => by
    rw [List.length_cons] at hx hn hbn
    obtain ⟨lit, xs', bound', e, e1, e2, e3, e4, e5, e6⟩ := literal_ok k xs ps ws cs vs bound (by omega) hb.sub (by omega) hvs hcs hcl hw hpw hp
    have hset : setTg [5] false (.int i) [.io (.list (xs.map .int)), .sh (kd ps ws cs vs), a2, s3, .sh (.tuple (body.map litD)), s5, s6, s7, .un] = some [.io (.list (xs.map .int)), .sh (kd ps ws cs vs), a2, s3, .sh (.tuple (body.map litD)), .sh (.int i), s6, s7, .un] := by
      dsimp?! [h5]
    have elc := fun s3 : Sl => lc_st (cf := callF TB (k + 2)) (own := [8]) (tg := [8]) (isT := false) (ifs := .so q1__law_body) (elt := x1__law_body) (ρ := [.io (.list (xs'.map .int)), .sh (kd ps ws cs vs), a2, s3, .sh (.tuple (body.map litD)), .sh (.int i), .ow (.list bound'), .sh (litD lit), .un])
      (ds := body.map litD) gYes (by dsimp?! []) (fun d hd ρ0 => ⟨[.io (.list (xs'.map .int)), .sh (kd ps ws cs vs), a2, s3, .sh (.tuple (body.map litD)), .sh (.int i), .ow (.list bound'), .sh (litD lit), .sh d], by
        rw [List.mem_map] at hd
        obtain ⟨l, hl, rfl⟩ := hd
        have hg : gYes (litD l) = if isYesL l = true then some (litD l) else none := by
          rw [← lit_yes l]
          cases l <;> rfl
        have h0 := lit_0 l
        rw [hg]
        cases hy : isYesL l with
        | true => dsimp?! [q1__law_body, x1__law_body, lcB_k, h0, lit_yes, hy]
        | false => dsimp?! [q1__law_body, x1__law_body, lcB_k, h0, lit_yes, hy], by dsimp?! [], by dsimp?! []⟩)
    have hz : szOk (body.map litD).length = true := szOk_of (by rw [List.length_map]; omega)
    simp only [hz, guard_tt, eob_some] at elc
    have hz1 : szOk (body.length + 1) = true := szOk_of (by omega)
    have h0 := lit_0 lit
    have hyy := lit_yes lit
    by_cases c : isYesL lit = false ∨ (((body.map litD).filterMap gYes).length : Int) < 4
    · have hb1 : execs (callF TB (k + 2)) false l1__law_body [.io (.list (xs.map .int)), .sh (kd ps ws cs vs), a2, s3, .sh (.tuple (body.map litD)), .sh (.int i), s6, s7, .un] =
          .next [.io (.list (xs'.map .int)), .sh (kd ps ws cs vs), a2, .sh (.list bound'), .sh (.tuple ((body ++ [lit]).map litD)), .sh (.int i), .sh (.list bound'), .sh (litD lit), .un] := by
        rw [List.map_append]
        rcases h3 with rfl | rfl <;> rcases c with c | c
        · dsimp?! [l1__law_body, h6, h7, e, h0, hyy, c, List.length_map, hz1, List.map_cons, List.map_nil]
        · cases hy : isYesL lit with
          | true => dsimp?! [l1__law_body, h6, h7, e, h0, hyy, hy, elc, c, decide_true, List.length_map, hz1, List.map_cons, List.map_nil]
          | false => dsimp?! [l1__law_body, h6, h7, e, h0, hyy, hy, List.length_map, hz1, List.map_cons, List.map_nil]
        · dsimp?! [l1__law_body, h6, h7, e, h0, hyy, c, List.length_map, hz1, List.map_cons, List.map_nil]
        · cases hy : isYesL lit with
          | true => dsimp?! [l1__law_body, h6, h7, e, h0, hyy, hy, elc, c, decide_true, List.length_map, hz1, List.map_cons, List.map_nil]
          | false => dsimp?! [l1__law_body, h6, h7, e, h0, hyy, hy, List.length_map, hz1, List.map_cons, List.map_nil]
      obtain ⟨xs'', body', bound'', s3', s5', s6', s7', g, g1, g2, g3, g4⟩ := body_loop k ps ws cs vs a2 hvs hcs hcl hw hpw hp ks xs' (body ++ [lit]) bound' (.sh (.list bound')) (.sh (.int i)) (.sh (.list bound')) (.sh (litD lit)) (by omega) (by rw [List.length_append]; simp; omega) (by omega) (.snoc hb e4 e5 e6) (.inr rfl) rfl rfl rfl
      refine ⟨xs'', body', bound'', s3', s5', s6', s7', ?_, g1, ?_, g3, by rw [List.length_cons]; omega⟩
      · rw [List.map_cons, forS_cons, hset, kF1_ok, hb1, kF2_next, g]
      · rw [List.length_append] at g2
        rw [List.length_cons]
        simp at g2
        omega
    · have cy : isYesL lit = true := by
        cases h : isYesL lit with
        | true => rfl
        | false => exact absurd (.inl h) c
      have cn : ¬ (((body.map litD).filterMap gYes).length : Int) < 4 := fun z => c (.inr z)
      have hb1 : execs (callF TB (k + 2)) false l1__law_body [.io (.list (xs.map .int)), .sh (kd ps ws cs vs), a2, s3, .sh (.tuple (body.map litD)), .sh (.int i), s6, s7, .un] =
          .next [.io (.list (xs'.map .int)), .sh (kd ps ws cs vs), a2, s3, .sh (.tuple (body.map litD)), .sh (.int i), .ow (.list bound'), .sh (litD lit), .un] := by
        rcases h3 with rfl | rfl <;> dsimp?! [l1__law_body, h6, h7, e, h0, hyy, cy, elc, cn, decide_false]
      obtain ⟨xs'', body', bound'', s3', s5', s6', s7', g, g1, g2, g3, g4⟩ := body_loop k ps ws cs vs a2 hvs hcs hcl hw hpw hp ks xs' body bound s3 (.sh (.int i)) (.ow (.list bound')) (.sh (litD lit)) (by omega) (by omega) (by omega) hb h3 rfl rfl rfl
      refine ⟨xs'', body', bound'', s3', s5', s6', s7', ?_, g1, by rw [List.length_cons]; omega, g3, by rw [List.length_cons]; omega⟩
      rw [List.map_cons, forS_cons, hset, kF1_ok, hb1, kF2_next, g]
theorem body_ok (k : Nat) (xs : List Int) (m : Int) (ps : List Str) (ws : List Int) (cs vs : List D) (hm0 : 0 ≤ m) (hm1 : m ≤ 100) (hx : 4 * m ≤ xs.length) (hvs : ∀ v ∈ vs, isAt v = true) (hcs : ∀ c ∈ cs, isAt c = true) (hcl : 0 < cs.length) (hw : ∀ w ∈ ws, 0 ≤ w ∧ w ≤ 3) (hpw : ws.length = ps.length) (hp : 0 < ps.length) :
    ∃ (xs' : List Int) (body : List Lit) (bound : List D), callF TB (k + 3) (Str.ofString "_law_body") [.list (xs.map .int), kd ps ws cs vs, .int m] = .ok (.tuple [.tuple (body.map litD), .list bound]) [.list (xs'.map .int), .none, .none] ∧ BodyOk vs cs ps ws body bound ∧ (body.length : Int) ≤ m ∧ bound.length ≤ 400 := by
  rw [cl__law_body]
  have hr := rng_small m hm0 (by omega)
  rw [range_ints] at hr
  have hkl : ((List.range m.toNat).map fun (k : Nat) => 0 + (k : Int)).length = m.toNat := by simp
  obtain ⟨xs', body, bound, s3, s5, s6, s7, e, e1, e2, e3, e4⟩ := body_loop k ps ws cs vs (.sh (.int m)) hvs hcs hcl hw hpw hp ((List.range m.toNat).map fun (k : Nat) => 0 + (k : Int)) xs [] [] (.ow (.list [])) .un .un .un (by rw [hkl]; omega) (by rw [hkl]; simp; omega) (by rw [hkl]; simp; omega) .nil (.inl rfl) rfl rfl rfl
  rw [hkl] at e2 e4
  simp only [List.length_nil, Nat.zero_add] at e2 e4
  refine ⟨xs', body, bound, ?_, e1, by omega, by omega⟩
  simp only [List.map_nil] at e
  rcases e3 with rfl | rfl <;> dsimp?! [b__law_body, hr, e]
end DI
set_option Elab.async false
set_option linter.all false
set_option maxRecDepth 100000
set_option maxHeartbeats 4000000
namespace DI
open PySem PySem.Spec PyProof.Rows L2
local macro_rules | `(tactic| dsimp?! [$es,*]) => `(tactic| simp only [isi_str, isi_tuple, isi_list, isi_bool, isi_int, isi_dict, asB_bool, asI_int, guard_tt, guard_ff, lenL, lenT, lenS, shp_int, shp_str, shp_bool, shp_none, cmp_eq_int, cmp_ne_int, cmp_eq_bool, cmp_ne_bool, cmp_eq_str, cmp_ne_str, cmp_lt_int, cmp_gt_int, cmp_le_int, cmp_ge_int, cmp_le_str, cmp_ge_str, cmp_gt_str, cmp_lt_str, cmp_in, cmp_nin, cmp_is, cmp_isn, isD_bool, isD_none, bin_add, bin_sub, bin_adds, bin_addl, bin_addt, ix_list, ix_tup, ix_str, items_list, items_tup, items_str, notOw_sh, notOw_un, notOw_succ, b_beq_false, szl0, szl1, szl2, szl3, szl4, szl5, szl6, szl7, szl8, szl9, szl10, szl11, szl12, szl13, szl14, szl15, szl16, eob_some, eob_none, nxO_some, newS_int, newS_str, newS_bool, newS_none, newS_tup, newS_lst, newS_dic, newS_ff, setS_k, kSS_un, kSS_sh, kSS_ow, kSS_bo, setB_sh, setB_un, setB_ow, kSS_pl, setTg_one, setTg_tup, setAll_nil, setAll_cons, kSA_some, kLk_sh, kLk_owt, kLk_owf, kLk_io, kLk_lk, kLk_pkt, kLk_pk_tup, kLk_pk_int, kLk_pk_str, notOw_0, plainS_sh, plainS_un, owL_ow, owL_io, owD_ow, owD_io, withD_ow, withD_io, slotD_ow, slotD_io, slotP_sh, slotP_ow, slotP_io, slotP_pk, slotP_lk, execs_nil, execs_cons, kSeq_next, kSeq_ret, kSeq_exc, kSeq_brk, kSeq_cont, x_set, kSet_ok, kSet_exc, x_setT, kSetT_ok, kSetT_exc, x_exp, kExp_ok, kExp_exc, x_app, kApC_ff, kApD_tt, kApB_ok, kApC_tt, kApp_ok, kAv_ok, x_ext, kExC_tt, kExt_ok, kExt_okt, kEv_ok, isSome_some, x_ret, kRet_ok, kRet_exc, vr_cst, fe_cst, vr_gl, fe_gl, fe_var, vr_tup, fe_tup, vr_lst, fe_lst, vr_dic0, fe_dic0, vr_bin, fe_bin, vr_neg, fe_neg, vr_cmp, fe_cmp, vr_chn, fe_chn, vr_and_, fe_and_, vr_or_, fe_or_, vr_not_, fe_not_, vr_ife, fe_ife, vr_call, fe_call, vr_callF, fe_callF, vr_srt, fe_srt, vr_bi, fe_bi, vr_isi, fe_isi, vr_rev, fe_rev, vr_joi, fe_joi, vr_mget, fe_mget, vr_ix, fe_ix, vr_slc, fe_slc, vr_lc, fe_lc, vr_pop0, fe_pop0, vr_pop1, fe_pop1, vr_setd, fe_setd, x_retF, kRf_int, kRf_bool, kRf_none, kRf_tup, kRf_str, kRf_exc, x_retV, kRv_ow, kRv_tup, kRv_int, kRv_str, kRv_bool, kRv_none, x_retN, x_iff, kTst_ok, kTst_exc, kIf_tt, kIf_ff, x_for, kFor_ok, x_forV, kFV_sh, kFV_pk, kFV_lk, kFV_ow, kFV_io, kFi_some, unlk_k, kUl_ow, kUl_io, unl_next, unl_ret, unl_exc, x_pass, x_brk, x_cont, x_whl, x_par, kPar1_ok, kPar2_ok, kPar3_ok, kPutC_ff, kPutL_tt, kPutM_ok, owD_owl, owD_iol, x_put, kPut1_ok, kPutC_tt, kPut2_ok, kPv_ok, boOf_bo, odOf_od, lsOf_l, dcOf_d, shOf_sh, deepOf_od, deepOf_0, owL_bo, isSome_none, emptyB_t, emptyB_f, deepV_k, x_bor, kBoC_tt, kBo1_ok, kBo2_ok, x_bo0, kB0C_tt, kB01_ok, x_boP, kBP0_ok, kBP1_tt, kBP2_ok, kBP3_ok, kBP4_ok, putBo_k, unbo_nil, unbo_cons, ubS_un, ubS_sh, ubS_ow, ubS_io, ubS_pk, ubS_lk, ubS_od, ubS_bo, e_cst, e_glo, ev_var, ev_tup, ev_lst, kTup_ok, kLst_ok, ev_dic, ev_bin, kBin1_ok, kBin2_ok, ev_neg, kNeg_ok, ev_cmp, kCmp1_ok, kCmp2_ok, kBl_some, ev_chn, kCh1_ok, kCh2_ok, kCh3_tt, kCh3_ff, ev_and, ev_or, ev_not, ev_ife, kAnd_tt, kAnd_ff, kOr_tt, kOr_ff, kNot_ok, kIfe_tt, kIfe_ff, ev_call, kCall_ok, kCall_exc, kCv1_ok, kCv2_ok, kCv2_exc, ev_callF, kCF1_l, kCF1_d, kCF2_ok, kCw1_ok, kCw2_ok, kCw2_exc, slOk_nil, slOk_a, io_nil, io_cons, io_io, io_pk, fill_nil, fill_a, fill_s, fill_p, kFl_ok, kFs_ok, put_nil, put_a, put_p, put_s, put_00, ev_bi, kBi_ok, ev_isi, kIsi_ok, ev_ix, kIx1_ok, kIx2_ok, ev_slc, kSl1_ok, kSl2_ok, kSl3_ok, eo_no, eo_so, kOi_ok, et_no, et_so, el_nil, el_cons, el_io, el_pk, kLc0_tt, kL1_ok, kL1_exc, kL2_ok, ep_nil, ep_cons, kP1_ok, ev_rev, kRev_ok, ev_srt, kSrt_ok, kSr2_ok, ev_joi, kJo1_ok, kJo2_ok, ev_mget, kMg1_ok, kMg2_ok, ev_pop0, ev_pop1, kPoC_tt, kPo_ok, ev_setd, kSdC_tt, kSd1_ok, kSd2_ok, ei_val, kIt_ok, ei_rng1, kR1_ok, ei_rng2, kR2_ok, kR3_ok, ei_zip, kZ1_ok, kZ2_ok, ei_enm, kEn_ok, ev_lc, lcB_k, kB1_ok, kOne_tt, kOne_ff, kSm_ok, kF1_ok, kF2_next, kF2_cont, kF2_brk, kF2_ret, kF2_exc, kW1_tt, kW1_ff, kW2_next, kW2_cont, kW2_brk, kW2_ret, out_next, out_ret, out_exc, crO_ok, outK_no, outK_s, outs_nil, outs_a, outs_p, outs_s, kOs_ok, ix_dict, in_dict, dict_of, bq_tupl, bq_tupt, bq_lisl, bq_list, bq_inti, bq_min, bq_max, bq_sort, slc_list, slc_tup, get_2, get_1, zip_tup, zip_list, items_dict, cmp_eq_dct, cmp_ne_dct, List.tail_cons, kRv_od, kLk_od, kRf_tt, forS_nil, forS_cons, b_beq_true, pureE, pureL, pureO, pureI, wipeR, backR, List.getElem?_cons_zero, List.getElem?_cons_succ, List.set_cons_zero, List.set_cons_succ, List.append_nil, List.nil_append, List.cons_append, reduceIte, Bool.false_eq_true, Option.map_some, Option.map_none, Bool.false_and, Bool.true_and, Bool.and_false, Bool.and_true, Bool.or_false, Bool.or_true, Bool.false_or, Bool.true_or, Bool.not_true, Bool.not_false, List.all_cons, List.all_nil, List.length_cons, List.length_nil, Nat.reduceAdd, beq_self_eq_true, pu_x1_replaced_by, pu_x1__law_names, pu_x2__law_names, pu_x1__law_literal, pu_q1__law_literal, pu_x2__law_literal, pu_x3__law_literal, pu_q1__law_body, pu_x1__law_body, pu_x1__law_stands, pu_q1_law, pu_x1_law, so_0, so_1, so_2, so_3, oc_a, oc_aa, oc_aaa, oc_aaaa, oc_ap, oc_apa, oc_saa, oc_sas, $es,*])
/-! dicts whose keys are rows -/
mutual
theorem nk_inj : ∀ (d e : D), nkOk d = true → nkOk e = true → nkOf d = nkOf e → d = e
  | .int i, e, h1, h2, h => by cases e <;> simp only [nkOk] at h2 <;> first | cases h2 | skip
                               all_goals simp only [nkOf] at h <;> first | cases h | skip
                               all_goals rfl
  | .str x, e, h1, h2, h => by cases e <;> simp only [nkOk] at h2 <;> first | cases h2 | skip
                               all_goals simp only [nkOf] at h <;> first | cases h | skip
                               all_goals rfl
  | .tuple ds, e, h1, h2, h => by
    cases e <;> simp only [nkOk] at h2 <;> first | cases h2 | skip
    all_goals simp only [nkOf] at h <;> first | cases h | skip
    rename_i es
    simp only [nkOk] at h1
    injection h with h
    rw [nk_injs ds es h1 h2 h]
  | .none, e, h1, _, _ => by simp [nkOk] at h1
  | .bool _, e, h1, _, _ => by simp [nkOk] at h1
  | .list _, e, h1, _, _ => by simp [nkOk] at h1
  | .dict _, e, h1, _, _ => by simp [nkOk] at h1
theorem nk_injs : ∀ (ds es : List D), nkOks ds = true → nkOks es = true → nksOf ds = nksOf es → ds = es
  | [], [], _, _, _ => rfl
  | d :: ds, e :: es, h1, h2, h => by
    simp only [nkOks, Bool.and_eq_true] at h1 h2
    simp only [nksOf, List.cons.injEq] at h
    rw [nk_inj d e h1.1 h2.1 h.1, nk_injs ds es h1.2 h2.2 h.2]
  | [], _ :: _, _, _, h => by simp [nksOf] at h
  | _ :: _, [], _, _, h => by simp [nksOf] at h
end
theorem nkOks_at : ∀ {ds : List D}, (∀ d ∈ ds, isAt d = true) → nkOks ds = true
  | [], _ => rfl
  | d :: ds, h => by
    simp only [nkOks, Bool.and_eq_true]
    refine ⟨?_, nkOks_at fun e he => h e (List.mem_cons_of_mem _ he)⟩
    have := h d List.mem_cons_self
    cases d <;> first | rfl | cases this
theorem nkd_at : ∀ {ds : List D}, (∀ d ∈ ds, isAt d = true) → NestedKey.depthAll (nksOf ds) = 0
  | [], _ => rfl
  | d :: ds, h => by
    have h1 := nkd_at (ds := ds) fun e he => h e (List.mem_cons_of_mem _ he)
    have h2 := h d List.mem_cons_self
    simp only [nksOf, NestedKey.depthAll, h1]
    cases d <;> first | (simp only [nkOf, NestedKey.depth]; rfl) | cases h2
theorem kt_ats {ds : List D} (h : ∀ d ∈ ds, isAt d = true) : isKT (.tuple ds) = true := by
  simp only [isKT, nkOks_at h, Bool.true_and, nkOf, NestedKey.depth, nkd_at h]
  rfl
structure TDc (w : List (D × D)) : Prop where
  key : kdT w = true
  nd : (nks w).Nodup
theorem TDc.nil : TDc [] := ⟨rfl, by simp [nks]⟩
theorem TDc.put {w : List (D × D)} (h : TDc w) {k v : D} (hk : isKT k = true) : TDc (putN w k v) := by
  refine ⟨?_, ?_⟩
  · unfold kdT
    rw [List.all_eq_true]
    intro p hp
    have hw := h.key
    unfold kdT at hw
    rw [List.all_eq_true] at hw
    rcases put_mem hp with ⟨q, hq, e, _⟩ | rfl
    · rw [e]; exact hw q hq
    · exact hk
  · rw [nks_put]
    split
    · exact h.nd
    · rename_i hn
      rw [List.nodup_append]
      refine ⟨h.nd, by simp, fun a ha b hb => ?_⟩
      rw [List.mem_singleton] at hb
      subst hb
      exact fun e => hn (e ▸ ha)
theorem TDc.dOk {w : List (D × D)} (h : TDc w) (hl : w.length ≤ 100000) : dOk w = true := by
  unfold DI.dOk
  rw [h.key, Bool.or_true, Bool.true_and, decide_eq_true h.nd, decide_eq_true (show w.length ≤ 16777216 by omega)]
  rfl
theorem TDc.fit {w : List (D × D)} (h : TDc w) {k : D} (hk : isKT k = true) : keyFit w k = true := by
  unfold keyFit
  rw [hk, h.key]
  simp
/-! the index of facts -/
def ky (p : Str) (n : Int) : D := .tuple [.str p, .int n]
theorem kt_ky (p : Str) (n : Int) : isKT (ky p n) = true := kt_ats (ds := [.str p, .int n]) (by
  intro d hd
  simp only [List.mem_cons, List.not_mem_nil, or_false] at hd
  rcases hd with rfl | rfl <;> rfl)
theorem ky_inj {p q : Str} {n m : Int} (h : nkOf (ky p n) = nkOf (ky q m)) : p = q ∧ n = m := by
  simp only [ky, nkOf, nksOf, NestedKey.tup.injEq, List.cons.injEq, NestedKey.text.injEq, NestedKey.num.injEq, and_true] at h
  exact h
/-- one fact more -/
def ixGet (idx : Dc) (key : D) : Dc := match getN idx (nkOf key) with
  | some (.dict w) => w
  | _ => []
structure IxOk (fs : List Fact) (idx : Dc) : Prop where
  td : TDc idx
  len : idx.length ≤ fs.length
  inn : ∀ n v, getN idx n = some v → ∃ w, v = .dict w ∧ TDc w ∧ w.length ≤ fs.length
  mem : ∀ (p : Str) (n : Int) (ps : List D), (∀ d ∈ ps, isAt d = true) → ((getN (ixGet idx (ky p n)) (nkOf (.tuple ps))).isSome = true ↔ (p, ps) ∈ fs ∧ (ps.length : Int) = n)
theorem IxOk.nil : IxOk [] [] := ⟨TDc.nil, Nat.le_refl _, fun n v h => by simp [getN] at h, fun p n ps _ => by simp [ixGet, getN]⟩
def okF (f : Fact) : Prop := ∀ d ∈ f.2, isAt d = true
/-- the index with a fact more -/
def ixAdd (idx : Dc) (f : Fact) : Dc := putN idx (ky f.1 f.2.length) (.dict (putN (ixGet idx (ky f.1 f.2.length)) (.tuple f.2) (.bool true)))
theorem IxOk.inner {fs : List Fact} {idx : Dc} (h : IxOk fs idx) (key : D) : TDc (ixGet idx key) ∧ (ixGet idx key).length ≤ fs.length := by
  unfold ixGet
  cases e : getN idx (nkOf key) with
  | none => exact ⟨TDc.nil, Nat.zero_le _⟩
  | some v =>
    obtain ⟨w, rfl, h1, h2⟩ := h.inn _ v e
    exact ⟨h1, h2⟩
theorem IxOk.add {fs : List Fact} (hfs : ∀ f ∈ fs, okF f) {idx : Dc} (h : IxOk fs idx) {f : Fact} (hf : okF f) : IxOk (fs ++ [f]) (ixAdd idx f) := by
  obtain ⟨p, ps⟩ := f
  have hf : ∀ d ∈ ps, isAt d = true := hf
  obtain ⟨i1, i2⟩ := h.inner (ky p ps.length)
  have i3 := i1.put (k := .tuple ps) (v := .bool true) (kt_ats hf)
  refine ⟨h.td.put (kt_ky _ _), ?_, fun n v hn => ?_, fun q n qs hq => ?_⟩
  · refine Nat.le_trans (put_len _ _ _) ?_
    rw [List.length_append]
    have := h.len
    simp
    omega
  · unfold ixAdd at hn
    rw [getN_put] at hn
    split at hn
    · cases hn
      refine ⟨_, rfl, i3, Nat.le_trans (put_len _ _ _) ?_⟩
      rw [List.length_append]
      simp
      omega
    · obtain ⟨w, e, h1, h2⟩ := h.inn n v hn
      refine ⟨w, e, h1, ?_⟩
      rw [List.length_append]
      omega
  · have hg : ixGet (ixAdd idx (p, ps)) (ky q n) = if nkOf (ky p ps.length) = nkOf (ky q n) then putN (ixGet idx (ky p ps.length)) (.tuple ps) (.bool true) else ixGet idx (ky q n) := by
      unfold ixGet ixAdd
      rw [getN_put]
      by_cases e : nkOf (ky p (ps.length : Int)) = nkOf (ky q n)
      · rw [if_pos e, if_pos e]
        rfl
      · rw [if_neg e, if_neg e]
    rw [hg, List.mem_append, List.mem_singleton]
    by_cases e : nkOf (ky p (ps.length : Int)) = nkOf (ky q n)
    · rw [if_pos e]
      obtain ⟨e1, e2⟩ := ky_inj e
      subst e1 e2
      rw [getN_put]
      by_cases e3 : nkOf (.tuple ps) = nkOf (.tuple qs)
      · rw [if_pos e3]
        have : ps = qs := by
          have := nk_inj (.tuple ps) (.tuple qs) (by simp only [nkOk]; exact nkOks_at hf) (by simp only [nkOk]; exact nkOks_at hq) e3
          injection this
        subst this
        simp
      · rw [if_neg e3, h.mem p ps.length qs hq]
        constructor
        · exact fun z => ⟨.inl z.1, z.2⟩
        · rintro ⟨z | z, z2⟩
          · exact ⟨z, z2⟩
          · cases z; exact absurd rfl e3
    · rw [if_neg e, h.mem q n qs hq]
      constructor
      · exact fun z => ⟨.inl z.1, z.2⟩
      · rintro ⟨z | z, z2⟩
        · exact ⟨z, z2⟩
        · cases z
          rw [z2] at e
          exact absurd rfl e
theorem index_loop (cf : Str → List D → CR) (a0 : Sl) : ∀ (gs fs : List Fact) (idx : Dc) (s1 s2 s3 : Sl), (∀ f ∈ fs, okF f) → (∀ f ∈ gs, okF f ∧ f.2.length ≤ 1000) → fs.length + gs.length ≤ 50000 → IxOk fs idx → ((s1 = .ow (.dict []) ∧ idx = []) ∨ s1 = .od idx) → setB s2 = true → setB s3 = true →
    ∃ (idx' : Dc) (s1' s2' s3' : Sl), forS (setTg [2, 3] true) (execs cf false l1_index_of) (gs.map factD) [a0, s1, s2, s3] = .next [a0, s1', s2', s3'] ∧ IxOk (fs ++ gs) idx' ∧ ((s1' = .ow (.dict []) ∧ idx' = []) ∨ s1' = .od idx')
  | [], fs, idx, s1, s2, s3, _, _, _, hi, h1, _, _ => ⟨idx, s1, s2, s3, by rw [List.map_nil, forS_nil], by rw [List.append_nil]; exact hi, h1⟩
  | (p, ps) :: gs, fs, idx, s1, s2, s3, hfs, hgs, hl, hi, h1, h2, h3 => by
    rw [List.length_cons] at hl
    obtain ⟨hf, hpl⟩ := hgs (p, ps) List.mem_cons_self
    have hpl : ps.length ≤ 1000 := hpl
    have hf' : ∀ d ∈ ps, isAt d = true := hf
    have hset : setTg [2, 3] true (factD (p, ps)) [a0, s1, s2, s3] = some [a0, s1, .sh (.str p), .sh (.tuple ps)] := by
      unfold factD
      rw [setTg_tup _ _ _ rfl]
      rcases h1 with ⟨rfl, _⟩ | rfl <;> dsimp?! [h2, h3]
    have i0 := hi.inner (ky p ps.length)
    have hfit := hi.td.fit (kt_ky p (ps.length : Int))
    have hfitw := i0.1.fit (kt_ats hf')
    have hokw := (i0.1.put (v := .bool true) (kt_ats hf')).dOk (Nat.le_trans (put_len _ _ _) (by omega))
    have hdeep : deepOf (some s1) = some idx := by
      rcases h1 with ⟨rfl, rfl⟩ | rfl <;> rfl
    have hb : execs cf false l1_index_of [a0, s1, .sh (.str p), .sh (.tuple ps)] = .next [a0, .od (ixAdd idx (p, ps)), .sh (.str p), .sh (.tuple ps)] := by
      unfold ixAdd
      have i2 := i0
      dsimp only
      cases e : getN idx (nkOf (ky p ps.length)) with
      | some v =>
        obtain ⟨w, rfl, _, _⟩ := hi.inn _ v e
        have hgw : ixGet idx (ky p ps.length) = w := by unfold ixGet; rw [e]
        rw [hgw] at hfitw hokw ⊢
        have d1 := fun ρ => kDv_old (j := 1) (isL := false) ρ hfit e (show boxIs false (.dict w) = true from rfl)
        have p1 := fun ρ => kPb_ok (j := 1) (kd := ky p ps.length) (kd2 := .tuple ps) (d := .bool true) ρ e hfitw hokw
        unfold ky at d1 p1
        dsimp?! [l1_index_of, hdeep, d1, p1, ky]
      | none =>
        have hgw : ixGet idx (ky p ps.length) = [] := by unfold ixGet; rw [e]
        rw [hgw] at hfitw hokw ⊢
        have hok := (hi.td.put (k := ky p ps.length) (v := .dict []) (kt_ky p ps.length)).dOk (Nat.le_trans (put_len _ _ _) (by have := hi.len; omega))
        rw [putN_new e] at hok
        have d1 := fun ρ => kDv_new (j := 1) (isL := false) ρ hfit e hok
        have e2 : getN (idx ++ [(ky p (ps.length : Int), PyData.dict [])]) (nkOf (ky p ps.length)) = some (.dict []) := by
          rw [getN_app, e, getN_cons, if_pos rfl]
          rfl
        have p1 := fun ρ => kPb_ok (j := 1) (kd := ky p ps.length) (kd2 := .tuple ps) (d := .bool true) ρ e2 hfitw hokw
        have e3 : putN (idx ++ [(ky p (ps.length : Int), PyData.dict [])]) (ky p ps.length) (.dict (putN [] (.tuple ps) (.bool true))) = putN idx (ky p ps.length) (.dict (putN [] (.tuple ps) (.bool true))) := by
          rw [putN_new e]
          unfold putN
          rw [if_pos (List.any_eq_true.mpr ⟨(ky p ps.length, .dict []), by simp, by simp⟩), List.map_append, List.map_cons, List.map_nil]
          congr 1
          · refine (List.map_congr_left fun q hq => ?_).trans (List.map_id idx)
            rw [if_neg fun z => getN_no.mp e (List.mem_map.mpr ⟨q, hq, z⟩)]
            rfl
          · simp
        rw [← e3]
        unfold ky at d1 p1
        dsimp?! [l1_index_of, hdeep, d1, p1, ky]
    have hi' := hi.add hfs hf
    obtain ⟨idx', s1', s2', s3', g, g1, g2⟩ := index_loop cf a0 gs (fs ++ [(p, ps)]) (ixAdd idx (p, ps)) (.od (ixAdd idx (p, ps))) (.sh (.str p)) (.sh (.tuple ps)) (fun f h => by
      rw [List.mem_append, List.mem_singleton] at h
      rcases h with h | rfl
      · exact hfs f h
      · exact hf) (fun f h => hgs f (List.mem_cons_of_mem _ h)) (by rw [List.length_append]; simp; omega) hi' (.inr rfl) rfl rfl
    refine ⟨idx', s1', s2', s3', ?_, by rw [List.append_assoc] at g1; exact g1, g2⟩
    rw [List.map_cons, forS_cons, hset, kF1_ok, hb, kF2_next, g]
theorem index_ok (k : Nat) (fs : List Fact) (hfs : ∀ f ∈ fs, okF f ∧ f.2.length ≤ 1000) (hl : fs.length ≤ 50000) : ∃ idx : Dc, callF TB (k + 1) (Str.ofString "index_of") [.list (fs.map factD)] = .ok (.dict idx) [] ∧ IxOk fs idx := by
  rw [cl_index_of]
  obtain ⟨idx, s1, s2, s3, e, e1, e2⟩ := index_loop (callF TB k) (.sh (.list (fs.map factD))) fs [] [] (.ow (.dict [])) .un .un (fun f h => (List.not_mem_nil h).elim) hfs (by simpa using hl) IxOk.nil (.inl ⟨rfl, rfl⟩) rfl rfl
  refine ⟨idx, ?_, by simpa using e1⟩
  rcases e2 with ⟨rfl, rfl⟩ | rfl <;> dsimp?! [b_index_of, e]
end DI
set_option Elab.async false
set_option linter.all false
set_option maxRecDepth 100000
set_option maxHeartbeats 4000000
namespace DI
open PySem PySem.Spec PyProof.Rows L2
local macro_rules | `(tactic| dsimp?! [$es,*]) => `(tactic| simp only [isi_str, isi_tuple, isi_list, isi_bool, isi_int, isi_dict, asB_bool, asI_int, guard_tt, guard_ff, lenL, lenT, lenS, shp_int, shp_str, shp_bool, shp_none, cmp_eq_int, cmp_ne_int, cmp_eq_bool, cmp_ne_bool, cmp_eq_str, cmp_ne_str, cmp_lt_int, cmp_gt_int, cmp_le_int, cmp_ge_int, cmp_le_str, cmp_ge_str, cmp_gt_str, cmp_lt_str, cmp_in, cmp_nin, cmp_is, cmp_isn, isD_bool, isD_none, bin_add, bin_sub, bin_adds, bin_addl, bin_addt, ix_list, ix_tup, ix_str, items_list, items_tup, items_str, notOw_sh, notOw_un, notOw_succ, b_beq_false, szl0, szl1, szl2, szl3, szl4, szl5, szl6, szl7, szl8, szl9, szl10, szl11, szl12, szl13, szl14, szl15, szl16, eob_some, eob_none, nxO_some, newS_int, newS_str, newS_bool, newS_none, newS_tup, newS_lst, newS_dic, newS_ff, setS_k, kSS_un, kSS_sh, kSS_ow, kSS_bo, setB_sh, setB_un, setB_ow, kSS_pl, setTg_one, setTg_tup, setAll_nil, setAll_cons, kSA_some, kLk_sh, kLk_owt, kLk_owf, kLk_io, kLk_lk, kLk_pkt, kLk_pk_tup, kLk_pk_int, kLk_pk_str, notOw_0, plainS_sh, plainS_un, owL_ow, owL_io, owD_ow, owD_io, withD_ow, withD_io, slotD_ow, slotD_io, slotP_sh, slotP_ow, slotP_io, slotP_pk, slotP_lk, execs_nil, execs_cons, kSeq_next, kSeq_ret, kSeq_exc, kSeq_brk, kSeq_cont, x_set, kSet_ok, kSet_exc, x_setT, kSetT_ok, kSetT_exc, x_exp, kExp_ok, kExp_exc, x_app, kApC_ff, kApD_tt, kApB_ok, kApC_tt, kApp_ok, kAv_ok, x_ext, kExC_tt, kExt_ok, kExt_okt, kEv_ok, isSome_some, x_ret, kRet_ok, kRet_exc, vr_cst, fe_cst, vr_gl, fe_gl, fe_var, vr_tup, fe_tup, vr_lst, fe_lst, vr_dic0, fe_dic0, vr_bin, fe_bin, vr_neg, fe_neg, vr_cmp, fe_cmp, vr_chn, fe_chn, vr_and_, fe_and_, vr_or_, fe_or_, vr_not_, fe_not_, vr_ife, fe_ife, vr_call, fe_call, vr_callF, fe_callF, vr_srt, fe_srt, vr_bi, fe_bi, vr_isi, fe_isi, vr_rev, fe_rev, vr_joi, fe_joi, vr_mget, fe_mget, vr_ix, fe_ix, vr_slc, fe_slc, vr_lc, fe_lc, vr_pop0, fe_pop0, vr_pop1, fe_pop1, vr_setd, fe_setd, x_retF, kRf_int, kRf_bool, kRf_none, kRf_tup, kRf_str, kRf_exc, x_retV, kRv_ow, kRv_tup, kRv_int, kRv_str, kRv_bool, kRv_none, x_retN, x_iff, kTst_ok, kTst_exc, kIf_tt, kIf_ff, x_for, kFor_ok, x_forV, kFV_sh, kFV_pk, kFV_lk, kFV_ow, kFV_io, kFi_some, unlk_k, kUl_ow, kUl_io, unl_next, unl_ret, unl_exc, x_pass, x_brk, x_cont, x_whl, x_par, kPar1_ok, kPar2_ok, kPar3_ok, kPutC_ff, kPutL_tt, kPutM_ok, owD_owl, owD_iol, x_put, kPut1_ok, kPutC_tt, kPut2_ok, kPv_ok, boOf_bo, odOf_od, lsOf_l, dcOf_d, shOf_sh, deepOf_od, deepOf_0, owL_bo, isSome_none, emptyB_t, emptyB_f, deepV_k, x_bor, kBoC_tt, kBo1_ok, kBo2_ok, x_bo0, kB0C_tt, kB01_ok, x_boP, kBP0_ok, kBP1_tt, kBP2_ok, kBP3_ok, kBP4_ok, putBo_k, unbo_nil, unbo_cons, ubS_un, ubS_sh, ubS_ow, ubS_io, ubS_pk, ubS_lk, ubS_od, ubS_bo, e_cst, e_glo, ev_var, ev_tup, ev_lst, kTup_ok, kLst_ok, ev_dic, ev_bin, kBin1_ok, kBin2_ok, ev_neg, kNeg_ok, ev_cmp, kCmp1_ok, kCmp2_ok, kBl_some, ev_chn, kCh1_ok, kCh2_ok, kCh3_tt, kCh3_ff, ev_and, ev_or, ev_not, ev_ife, kAnd_tt, kAnd_ff, kOr_tt, kOr_ff, kNot_ok, kIfe_tt, kIfe_ff, ev_call, kCall_ok, kCall_exc, kCv1_ok, kCv2_ok, kCv2_exc, ev_callF, kCF1_l, kCF1_d, kCF2_ok, kCw1_ok, kCw2_ok, kCw2_exc, slOk_nil, slOk_a, io_nil, io_cons, io_io, io_pk, fill_nil, fill_a, fill_s, fill_p, kFl_ok, kFs_ok, put_nil, put_a, put_p, put_s, put_00, ev_bi, kBi_ok, ev_isi, kIsi_ok, ev_ix, kIx1_ok, kIx2_ok, ev_slc, kSl1_ok, kSl2_ok, kSl3_ok, eo_no, eo_so, kOi_ok, et_no, et_so, el_nil, el_cons, el_io, el_pk, kLc0_tt, kL1_ok, kL1_exc, kL2_ok, ep_nil, ep_cons, kP1_ok, ev_rev, kRev_ok, ev_srt, kSrt_ok, kSr2_ok, ev_joi, kJo1_ok, kJo2_ok, ev_mget, kMg1_ok, kMg2_ok, ev_pop0, ev_pop1, kPoC_tt, kPo_ok, ev_setd, kSdC_tt, kSd1_ok, kSd2_ok, ei_val, kIt_ok, ei_rng1, kR1_ok, ei_rng2, kR2_ok, kR3_ok, ei_zip, kZ1_ok, kZ2_ok, ei_enm, kEn_ok, ev_lc, lcB_k, kB1_ok, kOne_tt, kOne_ff, kSm_ok, kF1_ok, kF2_next, kF2_cont, kF2_brk, kF2_ret, kF2_exc, kW1_tt, kW1_ff, kW2_next, kW2_cont, kW2_brk, kW2_ret, out_next, out_ret, out_exc, crO_ok, outK_no, outK_s, outs_nil, outs_a, outs_p, outs_s, kOs_ok, ix_dict, in_dict, dict_of, bq_tupl, bq_tupt, bq_lisl, bq_list, bq_inti, bq_min, bq_max, bq_sort, slc_list, slc_tup, get_2, get_1, zip_tup, zip_list, items_dict, cmp_eq_dct, cmp_ne_dct, List.tail_cons, kRv_od, kLk_od, kRf_tt, forS_nil, forS_cons, b_beq_true, pureE, pureL, pureO, pureI, wipeR, backR, List.getElem?_cons_zero, List.getElem?_cons_succ, List.set_cons_zero, List.set_cons_succ, List.append_nil, List.nil_append, List.cons_append, reduceIte, Bool.false_eq_true, Option.map_some, Option.map_none, Bool.false_and, Bool.true_and, Bool.and_false, Bool.and_true, Bool.or_false, Bool.or_true, Bool.false_or, Bool.true_or, Bool.not_true, Bool.not_false, List.all_cons, List.all_nil, List.length_cons, List.length_nil, Nat.reduceAdd, beq_self_eq_true, pu_x1_replaced_by, pu_x1__law_names, pu_x2__law_names, pu_x1__law_literal, pu_q1__law_literal, pu_x2__law_literal, pu_x3__law_literal, pu_q1__law_body, pu_x1__law_body, pu_x1__law_stands, pu_q1_law, pu_x1_law, so_0, so_1, so_2, so_3, oc_a, oc_aa, oc_aaa, oc_aaaa, oc_ap, oc_apa, oc_saa, oc_sas, $es,*])
/-! what stands by an index -/
theorem there_ok (k : Nat) (idx : Dc) (p : Str) (n : Int) (h : TDc idx) : callF TB (k + 1) (Str.ofString "there_are") [.dict idx, .str p, .int n] = .ok ((getN idx (nkOf (ky p n))).getD (.dict [])) [] := by
  rw [cl_there_are]
  have hf := h.fit (kt_ky p n)
  unfold ky at hf ⊢
  dsimp?! [b_there_are, hf]
theorem in_yn_yes : inD (.str (Str.ofString "yes")) (.tuple [(.str (Str.ofString "yes")), (.str (Str.ofString "not"))]) = some true := by kernel_rfl
theorem in_yn_not : inD (.str (Str.ofString "not")) (.tuple [(.str (Str.ofString "yes")), (.str (Str.ofString "not"))]) = some true := by kernel_rfl
theorem in_yn_und : inD (.str (Str.ofString "under")) (.tuple [(.str (Str.ofString "yes")), (.str (Str.ofString "not"))]) = some false := by kernel_rfl
theorem in_yn_unl : inD (.str (Str.ofString "unlike")) (.tuple [(.str (Str.ofString "yes")), (.str (Str.ofString "not"))]) = some false := by kernel_rfl
theorem cut_1 (x a b : D) : cutD [x, a, b] (some 1) none = [a, b] := rfl
/-- it is among the facts -/
def fin (fs : List Fact) (f : Fact) : Bool := fs.any fun g => PyData.eqv (factD g) (factD f)
theorem smp_fact {f : Fact} (h : okF f) : smp (factD f) = true := by
  show smps [.str f.1, .tuple f.2] = true
  simp only [smps, smp, Bool.and_true, Bool.true_and]
  exact smps_at h
theorem dep_fact {f : Fact} (h : okF f) : (factD f).depth ≤ 2 := by
  show PyData.depthAll [.str f.1, .tuple f.2] + 1 ≤ 2
  have : PyData.depthAll f.2 = 0 := Nat.le_zero.mp (depth_all fun d hd => by rw [dep_at (h d hd)]; exact Nat.le_refl _)
  simp only [PyData.depthAll, PyData.depth, this]
  decide
theorem fin_iff {fs : List Fact} (hfs : ∀ f ∈ fs, okF f) {f : Fact} (hf : okF f) : fin fs f = true ↔ f ∈ fs := by
  unfold fin
  rw [List.any_eq_true]
  constructor
  · rintro ⟨g, hg, e⟩
    have := (eqv_iff (smp_fact (hfs g hg)) (smp_fact hf)).mp e
    obtain ⟨p, ps⟩ := f
    obtain ⟨q, qs⟩ := g
    simp only [factD] at this
    injection this with this
    simp only [List.cons.injEq, PyData.str.injEq, PyData.tuple.injEq, and_true] at this
    obtain ⟨rfl, rfl⟩ := this
    exact hg
  · intro h
    exact ⟨f, h, eqv_rfl _ (smp_fact hf)⟩
theorem shp_fact {f : Fact} (h : okF f) : shp (factD f) = true := shp_smp (smp_fact h) (Nat.le_trans (dep_fact h) (by decide))
theorem smps_facts {fs : List Fact} (h : ∀ f ∈ fs, okF f) : smps (fs.map factD) = true := smps_all.mpr fun d hd => by
  obtain ⟨f, hf, rfl⟩ := List.mem_map.mp hd
  exact smp_fact (h f hf)
theorem dep_facts {fs : List Fact} (h : ∀ f ∈ fs, okF f) : (PyData.list (fs.map factD)).depth ≤ 60 := by
  have : PyData.depthAll (fs.map factD) ≤ 2 := depth_all fun d hd => by
    obtain ⟨f, hf, rfl⟩ := List.mem_map.mp hd
    exact dep_fact (h f hf)
  show PyData.depthAll _ + 1 ≤ 60
  omega
theorem shp_facts {fs : List Fact} (h : ∀ f ∈ fs, okF f) : shp (.list (fs.map factD)) = true := shp_smp (d := .list _) (smps_facts h) (dep_facts h)
theorem in_facts {fs : List Fact} (hfs : ∀ f ∈ fs, okF f) {f : Fact} (hf : okF f) : inD (factD f) (.list (fs.map factD)) = some (fin fs f) := by
  show guardP (shp (factD f) && shp (.list (fs.map factD))) (some ((fs.map factD).any fun z => PyData.eqv z (factD f))) = _
  rw [shp_fact hf, shp_facts hfs, List.any_map]
  rfl
/-- what a literal tells -/
def lsD : D → D → Bool
  | .int i, .int j => decide (i < j)
  | _, _ => false
def stands (b : Dc) (fs : List Fact) : Lit → Bool
  | .yes p ts => fin fs (p, ts.map (rep b))
  | .no p ts => !fin fs (p, ts.map (rep b))
  | .und x y => lsD (rep b x) (rep b y)
  | .unl x y => !PyData.eqv (rep b x) (rep b y)
/-- its terms are numbers and texts -/
def litAts : Lit → Prop
  | .yes _ ts => ts.length ≤ 1000 ∧ ∀ t ∈ ts, isAt t = true
  | .no _ ts => ts.length ≤ 1000 ∧ ∀ t ∈ ts, isAt t = true
  | .und a b => isAt a = true ∧ isAt b = true
  | .unl a b => isAt a = true ∧ isAt b = true
theorem rep_at {n : Nat} {b : Dc} (hb : Bnd n b) {t : D} (h : isAt t = true) : isAt (rep b t) = true := by
  unfold rep
  cases e : getN b (nkOf t) with
  | none => exact h
  | some v => exact hb.get e
theorem lt_at {x y : D} (hx : isAt x = true) (hy : isAt y = true) : (isI x = false ∧ lsD x y = false) ∨ (isI x = true ∧ isI y = false ∧ lsD x y = false) ∨ (isI x = true ∧ isI y = true ∧ cmpD .Lt x y = some (lsD x y)) := by
  cases x <;> first | cases hx | skip
  all_goals cases y <;> first | cases hy | skip
  · exact .inr (.inr ⟨rfl, rfl, rfl⟩)
  · exact .inr (.inl ⟨rfl, rfl, rfl⟩)
  · exact .inl ⟨rfl, rfl⟩
  · exact .inl ⟨rfl, rfl⟩
theorem nb_at {x : D} (hx : isAt x = true) : isB x = false := by cases x <;> first | rfl | cases hx
theorem ix_there {fs : List Fact} {idx : Dc} (h : IxOk fs idx) (p : Str) (n : Int) : (getN idx (nkOf (ky p n))).getD (.dict []) = .dict (ixGet idx (ky p n)) := by
  unfold ixGet
  cases e : getN idx (nkOf (ky p n)) with
  | none => rfl
  | some v =>
    obtain ⟨w, rfl, _⟩ := h.inn _ v e
    rfl
theorem stands_ok (k : Nat) (l : Lit) (b : Dc) (n : Nat) (fs : List Fact) (idx : Dc) (hl : litAts l) (hb : Bnd n b) (hfs : ∀ f ∈ fs, okF f) (hi : IxOk fs idx) : callF TB (k + 2) (Str.ofString "stands_by") [litD l, .dict b, .dict idx] = .ok (.bool (stands b fs l)) [] := by
  rw [cl_stands_by]
  cases l with
  | yes p ts =>
    obtain ⟨hl1, hl2⟩ := hl
    have hr := replaced_ok k ts b hb.sd hl2 hl1
    have ht := there_ok k idx p ts.length hi.td
    rw [ix_there hi] at ht
    have hat : ∀ d ∈ ts.map (rep b), isAt d = true := fun d hd => by
      obtain ⟨t, h1, rfl⟩ := List.mem_map.mp hd
      exact rep_at hb (hl2 t h1)
    have hf := (hi.inner (ky p ts.length)).1.fit (kt_ats hat)
    have hm : (getN (ixGet idx (ky p ts.length)) (nkOf (.tuple (ts.map (rep b))))).isSome = fin fs (p, ts.map (rep b)) := by
      rw [Bool.eq_iff_iff, hi.mem p ts.length _ hat, fin_iff hfs (f := (p, ts.map (rep b))) hat]
      exact ⟨fun z => z.1, fun z => ⟨z, by rw [List.length_map]⟩⟩
    dsimp?! [b_stands_by, litD, at_0, at_1, at_2, in_yn_yes, hr, ht, hf, hm, stands, b_beq_true]
  | no p ts =>
    obtain ⟨hl1, hl2⟩ := hl
    have hr := replaced_ok k ts b hb.sd hl2 hl1
    have ht := there_ok k idx p ts.length hi.td
    rw [ix_there hi] at ht
    have hat : ∀ d ∈ ts.map (rep b), isAt d = true := fun d hd => by
      obtain ⟨t, h1, rfl⟩ := List.mem_map.mp hd
      exact rep_at hb (hl2 t h1)
    have hf := (hi.inner (ky p ts.length)).1.fit (kt_ats hat)
    have hm : (getN (ixGet idx (ky p ts.length)) (nkOf (.tuple (ts.map (rep b))))).isSome = fin fs (p, ts.map (rep b)) := by
      rw [Bool.eq_iff_iff, hi.mem p ts.length _ hat, fin_iff hfs (f := (p, ts.map (rep b))) hat]
      exact ⟨fun z => z.1, fun z => ⟨z, by rw [List.length_map]⟩⟩
    dsimp?! [b_stands_by, litD, at_0, at_1, at_2, in_yn_not, hr, ht, hf, hm, stands, ny, b_beq_false]
  | und x y =>
    obtain ⟨hx, hy⟩ := hl
    have hr := replaced_ok k [x, y] b hb.sd (by
      intro t ht
      simp only [List.mem_cons, List.not_mem_nil, or_false] at ht
      rcases ht with rfl | rfl
      · exact hx
      · exact hy) (by simp)
    simp only [List.map_cons, List.map_nil] at hr
    have st : ∀ ρ : Rho, setTg [4, 5] true (.tuple [rep b x, rep b y]) ρ = setAll [4, 5] [rep b x, rep b y] ρ := fun ρ => setTg_tup _ _ _ rfl
    have b1 := nb_at (rep_at hb hx)
    have b2 := nb_at (rep_at hb hy)
    rcases lt_at (rep_at hb hx) (rep_at hb hy) with ⟨h1, h2⟩ | ⟨h1, h2, h3⟩ | ⟨h1, h2, h3⟩
    · dsimp?! [b_stands_by, litD, at_0, in_yn_und, cut_1, hr, st, ul_, h1, h2, b1, stands]
    · dsimp?! [b_stands_by, litD, at_0, in_yn_und, cut_1, hr, st, ul_, h1, h2, h3, b1, b2, stands]
    · dsimp?! [b_stands_by, litD, at_0, in_yn_und, cut_1, hr, st, ul_, h1, h2, h3, b1, b2, stands]
  | unl x y =>
    obtain ⟨hx, hy⟩ := hl
    have hr := replaced_ok k [x, y] b hb.sd (by
      intro t ht
      simp only [List.mem_cons, List.not_mem_nil, or_false] at ht
      rcases ht with rfl | rfl
      · exact hx
      · exact hy) (by simp)
    simp only [List.map_cons, List.map_nil] at hr
    have st : ∀ ρ : Rho, setTg [4, 5] true (.tuple [rep b x, rep b y]) ρ = setAll [4, 5] [rep b x, rep b y] ρ := fun ρ => setTg_tup _ _ _ rfl
    have hne := cmp_ne_at (rep_at hb hx) (rep_at hb hy)
    dsimp?! [b_stands_by, litD, at_0, in_yn_unl, cut_1, hr, st, hne, stands]
end DI
set_option Elab.async false
set_option linter.all false
set_option maxRecDepth 100000
set_option maxHeartbeats 4000000
namespace DI
open PySem PySem.Spec PyProof.Rows L2
local macro_rules | `(tactic| dsimp?! [$es,*]) => `(tactic| simp only [isi_str, isi_tuple, isi_list, isi_bool, isi_int, isi_dict, asB_bool, asI_int, guard_tt, guard_ff, lenL, lenT, lenS, shp_int, shp_str, shp_bool, shp_none, cmp_eq_int, cmp_ne_int, cmp_eq_bool, cmp_ne_bool, cmp_eq_str, cmp_ne_str, cmp_lt_int, cmp_gt_int, cmp_le_int, cmp_ge_int, cmp_le_str, cmp_ge_str, cmp_gt_str, cmp_lt_str, cmp_in, cmp_nin, cmp_is, cmp_isn, isD_bool, isD_none, bin_add, bin_sub, bin_adds, bin_addl, bin_addt, ix_list, ix_tup, ix_str, items_list, items_tup, items_str, notOw_sh, notOw_un, notOw_succ, b_beq_false, szl0, szl1, szl2, szl3, szl4, szl5, szl6, szl7, szl8, szl9, szl10, szl11, szl12, szl13, szl14, szl15, szl16, eob_some, eob_none, nxO_some, newS_int, newS_str, newS_bool, newS_none, newS_tup, newS_lst, newS_dic, newS_ff, setS_k, kSS_un, kSS_sh, kSS_ow, kSS_bo, setB_sh, setB_un, setB_ow, kSS_pl, setTg_one, setTg_tup, setAll_nil, setAll_cons, kSA_some, kLk_sh, kLk_owt, kLk_owf, kLk_io, kLk_lk, kLk_pkt, kLk_pk_tup, kLk_pk_int, kLk_pk_str, notOw_0, plainS_sh, plainS_un, owL_ow, owL_io, owD_ow, owD_io, withD_ow, withD_io, slotD_ow, slotD_io, slotP_sh, slotP_ow, slotP_io, slotP_pk, slotP_lk, execs_nil, execs_cons, kSeq_next, kSeq_ret, kSeq_exc, kSeq_brk, kSeq_cont, x_set, kSet_ok, kSet_exc, x_setT, kSetT_ok, kSetT_exc, x_exp, kExp_ok, kExp_exc, x_app, kApC_ff, kApD_tt, kApB_ok, kApC_tt, kApp_ok, kAv_ok, x_ext, kExC_tt, kExt_ok, kExt_okt, kEv_ok, isSome_some, x_ret, kRet_ok, kRet_exc, vr_cst, fe_cst, vr_gl, fe_gl, fe_var, vr_tup, fe_tup, vr_lst, fe_lst, vr_dic0, fe_dic0, vr_bin, fe_bin, vr_neg, fe_neg, vr_cmp, fe_cmp, vr_chn, fe_chn, vr_and_, fe_and_, vr_or_, fe_or_, vr_not_, fe_not_, vr_ife, fe_ife, vr_call, fe_call, vr_callF, fe_callF, vr_srt, fe_srt, vr_bi, fe_bi, vr_isi, fe_isi, vr_rev, fe_rev, vr_joi, fe_joi, vr_mget, fe_mget, vr_ix, fe_ix, vr_slc, fe_slc, vr_lc, fe_lc, vr_pop0, fe_pop0, vr_pop1, fe_pop1, vr_setd, fe_setd, x_retF, kRf_int, kRf_bool, kRf_none, kRf_tup, kRf_str, kRf_exc, x_retV, kRv_ow, kRv_tup, kRv_int, kRv_str, kRv_bool, kRv_none, x_retN, x_iff, kTst_ok, kTst_exc, kIf_tt, kIf_ff, x_for, kFor_ok, x_forV, kFV_sh, kFV_pk, kFV_lk, kFV_ow, kFV_io, kFi_some, unlk_k, kUl_ow, kUl_io, unl_next, unl_ret, unl_exc, x_pass, x_brk, x_cont, x_whl, x_par, kPar1_ok, kPar2_ok, kPar3_ok, kPutC_ff, kPutL_tt, kPutM_ok, owD_owl, owD_iol, x_put, kPut1_ok, kPutC_tt, kPut2_ok, kPv_ok, boOf_bo, odOf_od, lsOf_l, dcOf_d, shOf_sh, deepOf_od, deepOf_0, owL_bo, isSome_none, emptyB_t, emptyB_f, deepV_k, x_bor, kBoC_tt, kBo1_ok, kBo2_ok, x_bo0, kB0C_tt, kB01_ok, x_boP, kBP0_ok, kBP1_tt, kBP2_ok, kBP3_ok, kBP4_ok, putBo_k, unbo_nil, unbo_cons, ubS_un, ubS_sh, ubS_ow, ubS_io, ubS_pk, ubS_lk, ubS_od, ubS_bo, e_cst, e_glo, ev_var, ev_tup, ev_lst, kTup_ok, kLst_ok, ev_dic, ev_bin, kBin1_ok, kBin2_ok, ev_neg, kNeg_ok, ev_cmp, kCmp1_ok, kCmp2_ok, kBl_some, ev_chn, kCh1_ok, kCh2_ok, kCh3_tt, kCh3_ff, ev_and, ev_or, ev_not, ev_ife, kAnd_tt, kAnd_ff, kOr_tt, kOr_ff, kNot_ok, kIfe_tt, kIfe_ff, ev_call, kCall_ok, kCall_exc, kCv1_ok, kCv2_ok, kCv2_exc, ev_callF, kCF1_l, kCF1_d, kCF2_ok, kCw1_ok, kCw2_ok, kCw2_exc, slOk_nil, slOk_a, io_nil, io_cons, io_io, io_pk, fill_nil, fill_a, fill_s, fill_p, kFl_ok, kFs_ok, put_nil, put_a, put_p, put_s, put_00, ev_bi, kBi_ok, ev_isi, kIsi_ok, ev_ix, kIx1_ok, kIx2_ok, ev_slc, kSl1_ok, kSl2_ok, kSl3_ok, eo_no, eo_so, kOi_ok, et_no, et_so, el_nil, el_cons, el_io, el_pk, kLc0_tt, kL1_ok, kL1_exc, kL2_ok, ep_nil, ep_cons, kP1_ok, ev_rev, kRev_ok, ev_srt, kSrt_ok, kSr2_ok, ev_joi, kJo1_ok, kJo2_ok, ev_mget, kMg1_ok, kMg2_ok, ev_pop0, ev_pop1, kPoC_tt, kPo_ok, ev_setd, kSdC_tt, kSd1_ok, kSd2_ok, ei_val, kIt_ok, ei_rng1, kR1_ok, ei_rng2, kR2_ok, kR3_ok, ei_zip, kZ1_ok, kZ2_ok, ei_enm, kEn_ok, ev_lc, lcB_k, kB1_ok, kOne_tt, kOne_ff, kSm_ok, kF1_ok, kF2_next, kF2_cont, kF2_brk, kF2_ret, kF2_exc, kW1_tt, kW1_ff, kW2_next, kW2_cont, kW2_brk, kW2_ret, out_next, out_ret, out_exc, crO_ok, outK_no, outK_s, outs_nil, outs_a, outs_p, outs_s, kOs_ok, ix_dict, in_dict, dict_of, bq_tupl, bq_tupt, bq_lisl, bq_list, bq_inti, bq_min, bq_max, bq_sort, slc_list, slc_tup, get_2, get_1, zip_tup, zip_list, items_dict, cmp_eq_dct, cmp_ne_dct, List.tail_cons, kRv_od, kLk_od, kRf_tt, forS_nil, forS_cons, b_beq_true, pureE, pureL, pureO, pureI, wipeR, backR, List.getElem?_cons_zero, List.getElem?_cons_succ, List.set_cons_zero, List.set_cons_succ, List.append_nil, List.nil_append, List.cons_append, reduceIte, Bool.false_eq_true, Option.map_some, Option.map_none, Bool.false_and, Bool.true_and, Bool.and_false, Bool.and_true, Bool.or_false, Bool.or_true, Bool.false_or, Bool.true_or, Bool.not_true, Bool.not_false, List.all_cons, List.all_nil, List.length_cons, List.length_nil, Nat.reduceAdd, beq_self_eq_true, pu_x1_replaced_by, pu_x1__law_names, pu_x2__law_names, pu_x1__law_literal, pu_q1__law_literal, pu_x2__law_literal, pu_x3__law_literal, pu_q1__law_body, pu_x1__law_body, pu_x1__law_stands, pu_q1_law, pu_x1_law, so_0, so_1, so_2, so_3, oc_a, oc_aa, oc_aaa, oc_aaaa, oc_ap, oc_apa, oc_saa, oc_sas, $es,*])
/-! what a script makes known; the law's own reading of literals -/
theorem cmp_ne_nilS {xs : List D} (h : smps xs = true) (hd : (PyData.list xs).depth ≤ 60) : cmpD .NotEq (.list xs) (.list []) = some (!xs.isEmpty) := by
  rw [cmp_ne_smp (x := .list xs) (y := .list []) h rfl hd (by decide), eqv_nil]
theorem cmp_eq_nilS {xs : List D} (h : smps xs = true) (hd : (PyData.list xs).depth ≤ 60) : cmpD .Eq (.list xs) (.list []) = some xs.isEmpty := by
  rw [cmp_eq_smp (x := .list xs) (y := .list []) h rfl hd (by decide), eqv_nil]
/-- a comprehension that freezes a slot at its first item -/
theorem lc_fz {cf : Str → List D → CR} {own tg : List Nat} {isT : Bool} {ifs : CO} {elt : CE} {ρ ρ1 : Rho} {ds : List D} (g : D → Option D) (hn : (own.all (notOw ρ)) = true) (hn1 : (own.all (notOw ρ1)) = true) (hlen : ρ.length = ρ1.length) (hown : ∀ i ∈ own, ρ[i]? = ρ1[i]?) (hne : ds ≠ [])
    (h : ∀ d ∈ ds, ∀ ρ0, ∃ ρ', lcB cf tg isT ifs elt ρ0 d (wipeR ρ own) = .ok (g d) ρ' ∧ wipeR ρ' own = wipeR ρ1 own ∧ (own.all (notOw ρ')) = true)
    (h1 : ∀ d ∈ ds, ∀ ρ0, ∃ ρ', lcB cf tg isT ifs elt ρ0 d (wipeR ρ1 own) = .ok (g d) ρ' ∧ wipeR ρ' own = wipeR ρ1 own ∧ (own.all (notOw ρ')) = true) : kLc cf own tg isT ifs elt (.ok ds ρ) = eob (guardP (szOk ds.length) (some (.list (ds.filterMap g)))) ρ1 := by
  cases ds with
  | nil => exact absurd rfl hne
  | cons d ds =>
    obtain ⟨ρ', e1, e2, e3⟩ := h d List.mem_cons_self ρ
    obtain ⟨ρ2, f1, f2, f3⟩ := lcLoop_st ds ρ' e2 e3 fun d hd => h1 d (List.mem_cons_of_mem _ hd)
    have e0 : lcOne cf own tg isT ifs elt d ρ = .ok (g d) ρ' := by
      unfold lcOne
      rw [if_pos hn, e1]
    have el : lcLoop (lcOne cf own tg isT ifs elt) (d :: ds) ρ = .ok ((d :: ds).filterMap g) ρ2 := by
      simp only [lcLoop, e0, List.filterMap_cons]
      cases g d with
      | none => exact f1
      | some x =>
        dsimp only
        rw [f1]
        rfl
    have hl2 : ρ2.length = ρ1.length := by rw [← wipeR_len ρ2 own, f2, wipeR_len]
    have hb : backR ρ ρ2 own = ρ1 := by
      apply List.ext_getElem?
      intro i
      rw [backR_get (by rw [hlen, hl2])]
      by_cases hi : i ∈ own
      · rw [if_pos hi, hown i hi]
      · rw [if_neg hi]
        have := congrArg (fun l => l[i]?) f2
        simp only [wipeR_get, if_neg hi] at this
        exact this
    rw [kLc_ok, el, kLc2_ok, hn, f3, Bool.and_self, kLc3_tt, hb]
theorem known_ok (k : Nat) (ns : List Int) (most : Int) (hm0 : 1 ≤ most) (hm1 : most ≤ 4) : ∃ (ps : List Str) (ws : List Int) (cs vs : List D), callF TB (k + 4) (Str.ofString "_law_known") [.list (ns.map .int), .int most] = .ok (kd ps ws cs vs) [] ∧ ps.length = 3 ∧ (∀ p ∈ ps, isName (.str p) = true) ∧ ws.length = ps.length ∧ (∀ w ∈ ws, 0 ≤ w ∧ w ≤ 3) ∧ 2 ≤ cs.length ∧ cs.length ≤ 5 ∧ (∀ c ∈ cs, isConst c = true) ∧ vs.length ≤ 4 ∧ (∀ v ∈ vs, isVar v = true) := by
  rw [cl__law_known]
  obtain ⟨c0, e0⟩ := law_cell_ok (k + 2) ns 0 (by decide) (by decide)
  obtain ⟨c1, e1⟩ := law_cell_ok (k + 2) ns 1 (by decide) (by decide)
  obtain ⟨c2, e2⟩ := law_cell_ok (k + 2) ns 2 (by decide) (by decide)
  obtain ⟨c3, e3⟩ := law_cell_ok (k + 2) ns 3 (by decide) (by decide)
  have mm := bin_mod c2 most (by omega)
  have h0 := Int.emod_nonneg c2 (b := most) (by omega)
  have h1 := Int.emod_lt_of_pos c2 (b := most) (by omega)
  obtain ⟨cs, ec, hcl, hcs⟩ := law_constants_ok k c0 (2 + c2 % most) (by omega) (by omega)
  obtain ⟨ps, ep, hpl, hps⟩ := law_names_ok (k + 1) c1 3 (by decide) (by decide)
  obtain ⟨vs, ev, hvl, hvs⟩ := law_variables_ok (k + 1) c3
  have hpl : ps.length = 3 := hpl
  have f4 := bin_fdiv c2 4 (by decide) (by decide +kernel)
  have f12 := bin_fdiv c2 12 (by decide) (by decide +kernel)
  have f24 := bin_fdiv c2 24 (by decide) (by decide +kernel)
  have f96 := bin_fdiv c2 96 (by decide) (by decide +kernel)
  have m3 := fun x => bin_mod x 3 (by decide)
  have m2 := fun x => bin_mod x 2 (by decide)
  have m4 := fun x => bin_mod x 4 (by decide)
  have mv := bin_mod (c2 / 96) (6 - (cs.length : Int)) (by omega)
  obtain ⟨w, ew, gw⟩ := atI_mod [PyData.int 2, .int 1, .int 3, .int 0] (n := 4) (c2 / 24) rfl (by decide)
  obtain ⟨w, rfl, hw0, hw1⟩ : ∃ x : Int, w = .int x ∧ 0 ≤ x ∧ x ≤ 3 := by
    simp only [List.mem_cons, List.not_mem_nil, or_false] at gw
    rcases gw with rfl | rfl | rfl | rfl <;> exact ⟨_, rfl, by decide, by decide⟩
  have hix : ixN 3 2 = some 2 := rfl
  have q1 := Int.emod_nonneg (c2 / 4) (b := 3) (by decide)
  have q2 := Int.emod_lt_of_pos (c2 / 4) (b := 3) (by decide)
  have q3 := Int.emod_nonneg (c2 / 12) (b := 2) (by decide)
  have q4 := Int.emod_lt_of_pos (c2 / 12) (b := 2) (by decide)
  have vmem : ∀ v ∈ cutD vs none (some (2 + c2 / 96 % (6 - (cs.length : Int)))), isVar v = true := fun v h => hvs v (cut_mem h)
  have vlen : (cutD vs none (some (2 + c2 / 96 % (6 - (cs.length : Int))))).length ≤ 4 := by rw [← hvl]; exact cut_len _ _ _
  by_cases hc : (3 : Int) < cs.length
  · refine ⟨ps, [c2 / 4 % 3, 1 + c2 / 12 % 2, if w < 2 then w else 2], cs, _, ?_, hpl, hps, by rw [hpl]; rfl, ?_, by omega, by omega, hcs, vlen, vmem⟩
    · dsimp?! [b__law_known, e0, e1, e2, e3, mm, ec, ep, ev, f4, f12, f24, f96, m2, m3, m4, mv, ew, hc, decide_true, kSl, hix, at_2, kd, List.map_cons, List.map_nil]
    · intro x hx
      simp only [List.mem_cons, List.not_mem_nil, or_false] at hx
      rcases hx with rfl | rfl | rfl
      · omega
      · omega
      · split <;> omega
  · refine ⟨ps, [c2 / 4 % 3, 1 + c2 / 12 % 2, w], cs, _, ?_, hpl, hps, by rw [hpl]; rfl, ?_, by omega, by omega, hcs, vlen, vmem⟩
    · dsimp?! [b__law_known, e0, e1, e2, e3, mm, ec, ep, ev, f4, f12, f24, f96, m2, m3, m4, mv, ew, hc, decide_false, kd, List.map_cons, List.map_nil]
    · intro x hx
      simp only [List.mem_cons, List.not_mem_nil, or_false] at hx
      rcases hx with rfl | rfl | rfl <;> omega
def tms : Lit → List D
  | .yes _ ts => ts
  | .no _ ts => ts
  | .und a b => [a, b]
  | .unl a b => [a, b]
theorem tms_ok (k : Nat) (l : Lit) : callF TB (k + 1) (Str.ofString "_law_terms") [litD l] = .ok (.tuple (tms l)) [] := by
  rw [cl__law_terms]
  cases l with
  | yes p ts => dsimp?! [b__law_terms, litD, at_0, at_2, in_yn_yes, tms]
  | no p ts => dsimp?! [b__law_terms, litD, at_0, at_2, in_yn_not, tms]
  | und a b => dsimp?! [b__law_terms, litD, at_0, in_yn_und, cut_1, tms]
  | unl a b => dsimp?! [b__law_terms, litD, at_0, in_yn_unl, cut_1, tms]
theorem tms_at {l : Lit} (h : litAts l) : (tms l).length ≤ 1000 ∧ ∀ t ∈ tms l, isAt t = true := by
  cases l with
  | yes p ts => exact h
  | no p ts => exact h
  | und a b =>
    refine ⟨by simp [tms], fun t ht => ?_⟩
    simp only [tms, List.mem_cons, List.not_mem_nil, or_false] at ht
    rcases ht with rfl | rfl
    · exact h.1
    · exact h.2
  | unl a b =>
    refine ⟨by simp [tms], fun t ht => ?_⟩
    simp only [tms, List.mem_cons, List.not_mem_nil, or_false] at ht
    rcases ht with rfl | rfl
    · exact h.1
    · exact h.2
theorem lstands_ok (k : Nat) (l : Lit) (b : Dc) (n : Nat) (fs : List Fact) (hl : litAts l) (hb : Bnd n b) (hfs : ∀ f ∈ fs, okF f) : callF TB (k + 2) (Str.ofString "_law_stands") [litD l, .dict b, .list (fs.map factD)] = .ok (.bool (stands b fs l)) [] := by
  rw [cl__law_stands]
  obtain ⟨h1, h2⟩ := tms_at hl
  have et := tms_ok k l
  have e := lc_st (cf := callF TB (k + 1)) (own := [4]) (tg := [4]) (isT := false) (ifs := .no) (elt := x1__law_stands) (ρ := [.sh (litD l), .sh (.dict b), .sh (.list (fs.map factD)), .un, .un]) (ds := tms l) (fun t => some (rep b t)) (by dsimp?! []) (fun t h ρ0 => ⟨[.sh (litD l), .sh (.dict b), .sh (.list (fs.map factD)), .un, .sh t], by
      dsimp?! [x1__law_stands, lcB_k, hb.sd.fit (h2 t h)]
      rfl, by dsimp?! [], by dsimp?! []⟩)
  rw [fm_map, szOk_of h1, guard_tt, eob_some] at e
  have hat : ∀ d ∈ (tms l).map (rep b), isAt d = true := fun d hd => by
    obtain ⟨t, h3, rfl⟩ := List.mem_map.mp hd
    exact rep_at hb (h2 t h3)
  cases l with
  | yes p ts =>
    have hi := in_facts hfs (f := (p, ts.map (rep b))) hat
    simp only [factD] at hi
    simp only [tms] at et e
    simp only [b__law_stands, isi_str, isi_tuple, isi_list, isi_bool, isi_int, isi_dict, asB_bool, asI_int, guard_tt, guard_ff, lenL, lenT, lenS, shp_int, shp_str, shp_bool, shp_none, cmp_eq_int, cmp_ne_int, cmp_eq_bool, cmp_ne_bool, cmp_eq_str, cmp_ne_str, cmp_lt_int, cmp_gt_int, cmp_le_int, cmp_ge_int, cmp_le_str, cmp_ge_str, cmp_gt_str, cmp_lt_str, cmp_in, cmp_nin, cmp_is, cmp_isn, isD_bool, isD_none, bin_add, bin_sub, bin_adds, bin_addl, bin_addt, ix_list, ix_tup, ix_str, items_list, items_tup, items_str, notOw_sh, notOw_un, notOw_succ, b_beq_false, szl0, szl1, szl2, szl3, szl4, szl5, szl6, szl7, szl8, szl9, szl10, szl11, szl12, szl13, szl14, szl15, szl16, eob_some, eob_none, nxO_some, newS_int, newS_str, newS_bool, newS_none, newS_tup, newS_lst, newS_dic, newS_ff, setS_k, kSS_un, kSS_sh, kSS_ow, kSS_bo, setB_sh, setB_un, setB_ow, kSS_pl, setTg_one, setTg_tup, setAll_nil, setAll_cons, kSA_some, kLk_sh, kLk_owt, kLk_owf, kLk_io, kLk_lk, kLk_pkt, kLk_pk_tup, kLk_pk_int, kLk_pk_str, notOw_0, plainS_sh, plainS_un, owL_ow, owL_io, owD_ow, owD_io, withD_ow, withD_io, slotD_ow, slotD_io, slotP_sh, slotP_ow, slotP_io, slotP_pk, slotP_lk, execs_nil, execs_cons, kSeq_next, kSeq_ret, kSeq_exc, kSeq_brk, kSeq_cont, x_set, kSet_ok, kSet_exc, x_setT, kSetT_ok, kSetT_exc, x_exp, kExp_ok, kExp_exc, x_app, kApC_ff, kApD_tt, kApB_ok, kApC_tt, kApp_ok, kAv_ok, x_ext, kExC_tt, kExt_ok, kExt_okt, kEv_ok, isSome_some, x_ret, kRet_ok, kRet_exc, vr_cst, fe_cst, vr_gl, fe_gl, fe_var, vr_tup, fe_tup, vr_lst, fe_lst, vr_dic0, fe_dic0, vr_bin, fe_bin, vr_neg, fe_neg, vr_cmp, fe_cmp, vr_chn, fe_chn, vr_and_, fe_and_, vr_or_, fe_or_, vr_not_, fe_not_, vr_ife, fe_ife, vr_call, fe_call, vr_callF, fe_callF, vr_srt, fe_srt, vr_bi, fe_bi, vr_isi, fe_isi, vr_rev, fe_rev, vr_joi, fe_joi, vr_mget, fe_mget, vr_ix, fe_ix, vr_slc, fe_slc, vr_lc, fe_lc, vr_pop0, fe_pop0, vr_pop1, fe_pop1, vr_setd, fe_setd, x_retF, kRf_int, kRf_bool, kRf_none, kRf_tup, kRf_str, kRf_exc, x_retV, kRv_ow, kRv_tup, kRv_int, kRv_str, kRv_bool, kRv_none, x_retN, x_iff, kTst_ok, kTst_exc, kIf_tt, kIf_ff, x_for, kFor_ok, x_forV, kFV_sh, kFV_pk, kFV_lk, kFV_ow, kFV_io, kFi_some, unlk_k, kUl_ow, kUl_io, unl_next, unl_ret, unl_exc, x_pass, x_brk, x_cont, x_whl, x_par, kPar1_ok, kPar2_ok, kPar3_ok, kPutC_ff, kPutL_tt, kPutM_ok, owD_owl, owD_iol, x_put, kPut1_ok, kPutC_tt, kPut2_ok, kPv_ok, boOf_bo, odOf_od, lsOf_l, dcOf_d, shOf_sh, deepOf_od, deepOf_0, owL_bo, isSome_none, emptyB_t, emptyB_f, deepV_k, x_bor, kBoC_tt, kBo1_ok, kBo2_ok, x_bo0, kB0C_tt, kB01_ok, x_boP, kBP0_ok, kBP1_tt, kBP2_ok, kBP3_ok, kBP4_ok, putBo_k, unbo_nil, unbo_cons, ubS_un, ubS_sh, ubS_ow, ubS_io, ubS_pk, ubS_lk, ubS_od, ubS_bo, e_cst, e_glo, ev_var, ev_tup, ev_lst, kTup_ok, kLst_ok, ev_dic, ev_bin, kBin1_ok, kBin2_ok, ev_neg, kNeg_ok, ev_cmp, kCmp1_ok, kCmp2_ok, kBl_some, ev_chn, kCh1_ok, kCh2_ok, kCh3_tt, kCh3_ff, ev_and, ev_or, ev_not, ev_ife, kAnd_tt, kAnd_ff, kOr_tt, kOr_ff, kNot_ok, kIfe_tt, kIfe_ff, ev_call, kCall_ok, kCall_exc, kCv1_ok, kCv2_ok, kCv2_exc, ev_callF, kCF1_l, kCF1_d, kCF2_ok, kCw1_ok, kCw2_ok, kCw2_exc, slOk_nil, slOk_a, io_nil, io_cons, io_io, io_pk, fill_nil, fill_a, fill_s, fill_p, kFl_ok, kFs_ok, put_nil, put_a, put_p, put_s, put_00, ev_bi, kBi_ok, ev_isi, kIsi_ok, ev_ix, kIx1_ok, kIx2_ok, ev_slc, kSl1_ok, kSl2_ok, kSl3_ok, eo_no, eo_so, kOi_ok, et_no, et_so, el_nil, el_cons, el_io, el_pk, kLc0_tt, kL1_ok, kL1_exc, kL2_ok, ep_nil, ep_cons, kP1_ok, ev_rev, kRev_ok, ev_srt, kSrt_ok, kSr2_ok, ev_joi, kJo1_ok, kJo2_ok, ev_mget, kMg1_ok, kMg2_ok, ev_pop0, ev_pop1, kPoC_tt, kPo_ok, ev_setd, kSdC_tt, kSd1_ok, kSd2_ok, ei_val, kIt_ok, ei_rng1, kR1_ok, ei_rng2, kR2_ok, kR3_ok, ei_zip, kZ1_ok, kZ2_ok, ei_enm, kEn_ok, ev_lc, lcB_k, kB1_ok, kOne_tt, kOne_ff, kSm_ok, kF1_ok, kF2_next, kF2_cont, kF2_brk, kF2_ret, kF2_exc, kW1_tt, kW1_ff, kW2_next, kW2_cont, kW2_brk, kW2_ret, out_next, out_ret, out_exc, crO_ok, outK_no, outK_s, outs_nil, outs_a, outs_p, outs_s, kOs_ok, ix_dict, in_dict, dict_of, bq_tupl, bq_tupt, bq_lisl, bq_list, bq_inti, bq_min, bq_max, bq_sort, slc_list, slc_tup, get_2, get_1, zip_tup, zip_list, items_dict, cmp_eq_dct, cmp_ne_dct, List.tail_cons, kRv_od, kLk_od, kRf_tt, forS_nil, forS_cons, b_beq_true, pureE, pureL, pureO, pureI, wipeR, backR, List.getElem?_cons_zero, List.getElem?_cons_succ, List.set_cons_zero, List.set_cons_succ, List.append_nil, List.nil_append, List.cons_append, reduceIte, Bool.false_eq_true, Option.map_some, Option.map_none, Bool.false_and, Bool.true_and, Bool.and_false, Bool.and_true, Bool.or_false, Bool.or_true, Bool.false_or, Bool.true_or, Bool.not_true, Bool.not_false, List.all_cons, List.all_nil, List.length_cons, List.length_nil, Nat.reduceAdd, beq_self_eq_true, pu_x1_replaced_by, pu_x1__law_names, pu_x2__law_names, pu_x1__law_literal, pu_q1__law_literal, pu_x2__law_literal, pu_x3__law_literal, pu_q1__law_body, pu_x1__law_body, pu_x1__law_stands, pu_q1_law, pu_x1_law, so_0, so_1, so_2, so_3, oc_a, oc_aa, oc_aaa, oc_aaaa, oc_ap, oc_apa, oc_saa, oc_sas, et, e, litD, at_0, at_1, hi, stands] at *
  | no p ts =>
    have hi := in_facts hfs (f := (p, ts.map (rep b))) hat
    simp only [factD] at hi
    simp only [tms] at et e
    simp only [b__law_stands, isi_str, isi_tuple, isi_list, isi_bool, isi_int, isi_dict, asB_bool, asI_int, guard_tt, guard_ff, lenL, lenT, lenS, shp_int, shp_str, shp_bool, shp_none, cmp_eq_int, cmp_ne_int, cmp_eq_bool, cmp_ne_bool, cmp_eq_str, cmp_ne_str, cmp_lt_int, cmp_gt_int, cmp_le_int, cmp_ge_int, cmp_le_str, cmp_ge_str, cmp_gt_str, cmp_lt_str, cmp_in, cmp_nin, cmp_is, cmp_isn, isD_bool, isD_none, bin_add, bin_sub, bin_adds, bin_addl, bin_addt, ix_list, ix_tup, ix_str, items_list, items_tup, items_str, notOw_sh, notOw_un, notOw_succ, b_beq_false, szl0, szl1, szl2, szl3, szl4, szl5, szl6, szl7, szl8, szl9, szl10, szl11, szl12, szl13, szl14, szl15, szl16, eob_some, eob_none, nxO_some, newS_int, newS_str, newS_bool, newS_none, newS_tup, newS_lst, newS_dic, newS_ff, setS_k, kSS_un, kSS_sh, kSS_ow, kSS_bo, setB_sh, setB_un, setB_ow, kSS_pl, setTg_one, setTg_tup, setAll_nil, setAll_cons, kSA_some, kLk_sh, kLk_owt, kLk_owf, kLk_io, kLk_lk, kLk_pkt, kLk_pk_tup, kLk_pk_int, kLk_pk_str, notOw_0, plainS_sh, plainS_un, owL_ow, owL_io, owD_ow, owD_io, withD_ow, withD_io, slotD_ow, slotD_io, slotP_sh, slotP_ow, slotP_io, slotP_pk, slotP_lk, execs_nil, execs_cons, kSeq_next, kSeq_ret, kSeq_exc, kSeq_brk, kSeq_cont, x_set, kSet_ok, kSet_exc, x_setT, kSetT_ok, kSetT_exc, x_exp, kExp_ok, kExp_exc, x_app, kApC_ff, kApD_tt, kApB_ok, kApC_tt, kApp_ok, kAv_ok, x_ext, kExC_tt, kExt_ok, kExt_okt, kEv_ok, isSome_some, x_ret, kRet_ok, kRet_exc, vr_cst, fe_cst, vr_gl, fe_gl, fe_var, vr_tup, fe_tup, vr_lst, fe_lst, vr_dic0, fe_dic0, vr_bin, fe_bin, vr_neg, fe_neg, vr_cmp, fe_cmp, vr_chn, fe_chn, vr_and_, fe_and_, vr_or_, fe_or_, vr_not_, fe_not_, vr_ife, fe_ife, vr_call, fe_call, vr_callF, fe_callF, vr_srt, fe_srt, vr_bi, fe_bi, vr_isi, fe_isi, vr_rev, fe_rev, vr_joi, fe_joi, vr_mget, fe_mget, vr_ix, fe_ix, vr_slc, fe_slc, vr_lc, fe_lc, vr_pop0, fe_pop0, vr_pop1, fe_pop1, vr_setd, fe_setd, x_retF, kRf_int, kRf_bool, kRf_none, kRf_tup, kRf_str, kRf_exc, x_retV, kRv_ow, kRv_tup, kRv_int, kRv_str, kRv_bool, kRv_none, x_retN, x_iff, kTst_ok, kTst_exc, kIf_tt, kIf_ff, x_for, kFor_ok, x_forV, kFV_sh, kFV_pk, kFV_lk, kFV_ow, kFV_io, kFi_some, unlk_k, kUl_ow, kUl_io, unl_next, unl_ret, unl_exc, x_pass, x_brk, x_cont, x_whl, x_par, kPar1_ok, kPar2_ok, kPar3_ok, kPutC_ff, kPutL_tt, kPutM_ok, owD_owl, owD_iol, x_put, kPut1_ok, kPutC_tt, kPut2_ok, kPv_ok, boOf_bo, odOf_od, lsOf_l, dcOf_d, shOf_sh, deepOf_od, deepOf_0, owL_bo, isSome_none, emptyB_t, emptyB_f, deepV_k, x_bor, kBoC_tt, kBo1_ok, kBo2_ok, x_bo0, kB0C_tt, kB01_ok, x_boP, kBP0_ok, kBP1_tt, kBP2_ok, kBP3_ok, kBP4_ok, putBo_k, unbo_nil, unbo_cons, ubS_un, ubS_sh, ubS_ow, ubS_io, ubS_pk, ubS_lk, ubS_od, ubS_bo, e_cst, e_glo, ev_var, ev_tup, ev_lst, kTup_ok, kLst_ok, ev_dic, ev_bin, kBin1_ok, kBin2_ok, ev_neg, kNeg_ok, ev_cmp, kCmp1_ok, kCmp2_ok, kBl_some, ev_chn, kCh1_ok, kCh2_ok, kCh3_tt, kCh3_ff, ev_and, ev_or, ev_not, ev_ife, kAnd_tt, kAnd_ff, kOr_tt, kOr_ff, kNot_ok, kIfe_tt, kIfe_ff, ev_call, kCall_ok, kCall_exc, kCv1_ok, kCv2_ok, kCv2_exc, ev_callF, kCF1_l, kCF1_d, kCF2_ok, kCw1_ok, kCw2_ok, kCw2_exc, slOk_nil, slOk_a, io_nil, io_cons, io_io, io_pk, fill_nil, fill_a, fill_s, fill_p, kFl_ok, kFs_ok, put_nil, put_a, put_p, put_s, put_00, ev_bi, kBi_ok, ev_isi, kIsi_ok, ev_ix, kIx1_ok, kIx2_ok, ev_slc, kSl1_ok, kSl2_ok, kSl3_ok, eo_no, eo_so, kOi_ok, et_no, et_so, el_nil, el_cons, el_io, el_pk, kLc0_tt, kL1_ok, kL1_exc, kL2_ok, ep_nil, ep_cons, kP1_ok, ev_rev, kRev_ok, ev_srt, kSrt_ok, kSr2_ok, ev_joi, kJo1_ok, kJo2_ok, ev_mget, kMg1_ok, kMg2_ok, ev_pop0, ev_pop1, kPoC_tt, kPo_ok, ev_setd, kSdC_tt, kSd1_ok, kSd2_ok, ei_val, kIt_ok, ei_rng1, kR1_ok, ei_rng2, kR2_ok, kR3_ok, ei_zip, kZ1_ok, kZ2_ok, ei_enm, kEn_ok, ev_lc, lcB_k, kB1_ok, kOne_tt, kOne_ff, kSm_ok, kF1_ok, kF2_next, kF2_cont, kF2_brk, kF2_ret, kF2_exc, kW1_tt, kW1_ff, kW2_next, kW2_cont, kW2_brk, kW2_ret, out_next, out_ret, out_exc, crO_ok, outK_no, outK_s, outs_nil, outs_a, outs_p, outs_s, kOs_ok, ix_dict, in_dict, dict_of, bq_tupl, bq_tupt, bq_lisl, bq_list, bq_inti, bq_min, bq_max, bq_sort, slc_list, slc_tup, get_2, get_1, zip_tup, zip_list, items_dict, cmp_eq_dct, cmp_ne_dct, List.tail_cons, kRv_od, kLk_od, kRf_tt, forS_nil, forS_cons, b_beq_true, pureE, pureL, pureO, pureI, wipeR, backR, List.getElem?_cons_zero, List.getElem?_cons_succ, List.set_cons_zero, List.set_cons_succ, List.append_nil, List.nil_append, List.cons_append, reduceIte, Bool.false_eq_true, Option.map_some, Option.map_none, Bool.false_and, Bool.true_and, Bool.and_false, Bool.and_true, Bool.or_false, Bool.or_true, Bool.false_or, Bool.true_or, Bool.not_true, Bool.not_false, List.all_cons, List.all_nil, List.length_cons, List.length_nil, Nat.reduceAdd, beq_self_eq_true, pu_x1_replaced_by, pu_x1__law_names, pu_x2__law_names, pu_x1__law_literal, pu_q1__law_literal, pu_x2__law_literal, pu_x3__law_literal, pu_q1__law_body, pu_x1__law_body, pu_x1__law_stands, pu_q1_law, pu_x1_law, so_0, so_1, so_2, so_3, oc_a, oc_aa, oc_aaa, oc_aaaa, oc_ap, oc_apa, oc_saa, oc_sas, et, e, litD, at_0, at_1, ny, hi, stands] at *
  | und x y =>
    obtain ⟨hx, hy⟩ := hl
    have b1 := nb_at (rep_at hb hx)
    have b2 := nb_at (rep_at hb hy)
    simp only [tms, List.map_cons, List.map_nil] at et e
    simp only [litD] at et e
    rcases lt_at (rep_at hb hx) (rep_at hb hy) with ⟨h1, h2⟩ | ⟨h1, h2, h3⟩ | ⟨h1, h2, h3⟩
    · dsimp?! [b__law_stands, et, e, litD, at_0, at_1, uy, un_, ul_, h1, h2, b1, stands]
    · dsimp?! [b__law_stands, et, e, litD, at_0, at_1, uy, un_, ul_, h1, h2, h3, b1, b2, stands]
    · dsimp?! [b__law_stands, et, e, litD, at_0, at_1, uy, un_, ul_, h1, h2, h3, b1, b2, stands]
  | unl x y =>
    obtain ⟨hx, hy⟩ := hl
    have hne := cmp_ne_at (rep_at hb hx) (rep_at hb hy)
    simp only [tms, List.map_cons, List.map_nil] at et e
    simp only [litD] at et e
    dsimp?! [b__law_stands, et, e, litD, at_0, at_1, ly, ln_, hne, stands]
end DI
set_option Elab.async false
set_option linter.all false
set_option maxRecDepth 100000
set_option maxHeartbeats 4000000
namespace DI
open PySem PySem.Spec PyProof.Rows L2
local macro_rules | `(tactic| dsimp?! [$es,*]) => `(tactic| simp only [isi_str, isi_tuple, isi_list, isi_bool, isi_int, isi_dict, asB_bool, asI_int, guard_tt, guard_ff, lenL, lenT, lenS, shp_int, shp_str, shp_bool, shp_none, cmp_eq_int, cmp_ne_int, cmp_eq_bool, cmp_ne_bool, cmp_eq_str, cmp_ne_str, cmp_lt_int, cmp_gt_int, cmp_le_int, cmp_ge_int, cmp_le_str, cmp_ge_str, cmp_gt_str, cmp_lt_str, cmp_in, cmp_nin, cmp_is, cmp_isn, isD_bool, isD_none, bin_add, bin_sub, bin_adds, bin_addl, bin_addt, ix_list, ix_tup, ix_str, items_list, items_tup, items_str, notOw_sh, notOw_un, notOw_succ, b_beq_false, szl0, szl1, szl2, szl3, szl4, szl5, szl6, szl7, szl8, szl9, szl10, szl11, szl12, szl13, szl14, szl15, szl16, eob_some, eob_none, nxO_some, newS_int, newS_str, newS_bool, newS_none, newS_tup, newS_lst, newS_dic, newS_ff, setS_k, kSS_un, kSS_sh, kSS_ow, kSS_bo, setB_sh, setB_un, setB_ow, kSS_pl, setTg_one, setTg_tup, setAll_nil, setAll_cons, kSA_some, kLk_sh, kLk_owt, kLk_owf, kLk_io, kLk_lk, kLk_pkt, kLk_pk_tup, kLk_pk_int, kLk_pk_str, notOw_0, plainS_sh, plainS_un, owL_ow, owL_io, owD_ow, owD_io, withD_ow, withD_io, slotD_ow, slotD_io, slotP_sh, slotP_ow, slotP_io, slotP_pk, slotP_lk, execs_nil, execs_cons, kSeq_next, kSeq_ret, kSeq_exc, kSeq_brk, kSeq_cont, x_set, kSet_ok, kSet_exc, x_setT, kSetT_ok, kSetT_exc, x_exp, kExp_ok, kExp_exc, x_app, kApC_ff, kApD_tt, kApB_ok, kApC_tt, kApp_ok, kAv_ok, x_ext, kExC_tt, kExt_ok, kExt_okt, kEv_ok, isSome_some, x_ret, kRet_ok, kRet_exc, vr_cst, fe_cst, vr_gl, fe_gl, fe_var, vr_tup, fe_tup, vr_lst, fe_lst, vr_dic0, fe_dic0, vr_bin, fe_bin, vr_neg, fe_neg, vr_cmp, fe_cmp, vr_chn, fe_chn, vr_and_, fe_and_, vr_or_, fe_or_, vr_not_, fe_not_, vr_ife, fe_ife, vr_call, fe_call, vr_callF, fe_callF, vr_srt, fe_srt, vr_bi, fe_bi, vr_isi, fe_isi, vr_rev, fe_rev, vr_joi, fe_joi, vr_mget, fe_mget, vr_ix, fe_ix, vr_slc, fe_slc, vr_lc, fe_lc, vr_pop0, fe_pop0, vr_pop1, fe_pop1, vr_setd, fe_setd, x_retF, kRf_int, kRf_bool, kRf_none, kRf_tup, kRf_str, kRf_exc, x_retV, kRv_ow, kRv_tup, kRv_int, kRv_str, kRv_bool, kRv_none, x_retN, x_iff, kTst_ok, kTst_exc, kIf_tt, kIf_ff, x_for, kFor_ok, x_forV, kFV_sh, kFV_pk, kFV_lk, kFV_ow, kFV_io, kFi_some, unlk_k, kUl_ow, kUl_io, unl_next, unl_ret, unl_exc, x_pass, x_brk, x_cont, x_whl, x_par, kPar1_ok, kPar2_ok, kPar3_ok, kPutC_ff, kPutL_tt, kPutM_ok, owD_owl, owD_iol, x_put, kPut1_ok, kPutC_tt, kPut2_ok, kPv_ok, boOf_bo, odOf_od, lsOf_l, dcOf_d, shOf_sh, deepOf_od, deepOf_0, owL_bo, isSome_none, emptyB_t, emptyB_f, deepV_k, x_bor, kBoC_tt, kBo1_ok, kBo2_ok, x_bo0, kB0C_tt, kB01_ok, x_boP, kBP0_ok, kBP1_tt, kBP2_ok, kBP3_ok, kBP4_ok, putBo_k, unbo_nil, unbo_cons, ubS_un, ubS_sh, ubS_ow, ubS_io, ubS_pk, ubS_lk, ubS_od, ubS_bo, e_cst, e_glo, ev_var, ev_tup, ev_lst, kTup_ok, kLst_ok, ev_dic, ev_bin, kBin1_ok, kBin2_ok, ev_neg, kNeg_ok, ev_cmp, kCmp1_ok, kCmp2_ok, kBl_some, ev_chn, kCh1_ok, kCh2_ok, kCh3_tt, kCh3_ff, ev_and, ev_or, ev_not, ev_ife, kAnd_tt, kAnd_ff, kOr_tt, kOr_ff, kNot_ok, kIfe_tt, kIfe_ff, ev_call, kCall_ok, kCall_exc, kCv1_ok, kCv2_ok, kCv2_exc, ev_callF, kCF1_l, kCF1_d, kCF2_ok, kCw1_ok, kCw2_ok, kCw2_exc, slOk_nil, slOk_a, io_nil, io_cons, io_io, io_pk, fill_nil, fill_a, fill_s, fill_p, kFl_ok, kFs_ok, put_nil, put_a, put_p, put_s, put_00, ev_bi, kBi_ok, ev_isi, kIsi_ok, ev_ix, kIx1_ok, kIx2_ok, ev_slc, kSl1_ok, kSl2_ok, kSl3_ok, eo_no, eo_so, kOi_ok, et_no, et_so, el_nil, el_cons, el_io, el_pk, kLc0_tt, kL1_ok, kL1_exc, kL2_ok, ep_nil, ep_cons, kP1_ok, ev_rev, kRev_ok, ev_srt, kSrt_ok, kSr2_ok, ev_joi, kJo1_ok, kJo2_ok, ev_mget, kMg1_ok, kMg2_ok, ev_pop0, ev_pop1, kPoC_tt, kPo_ok, ev_setd, kSdC_tt, kSd1_ok, kSd2_ok, ei_val, kIt_ok, ei_rng1, kR1_ok, ei_rng2, kR2_ok, kR3_ok, ei_zip, kZ1_ok, kZ2_ok, ei_enm, kEn_ok, ev_lc, lcB_k, kB1_ok, kOne_tt, kOne_ff, kSm_ok, kF1_ok, kF2_next, kF2_cont, kF2_brk, kF2_ret, kF2_exc, kW1_tt, kW1_ff, kW2_next, kW2_cont, kW2_brk, kW2_ret, out_next, out_ret, out_exc, crO_ok, outK_no, outK_s, outs_nil, outs_a, outs_p, outs_s, kOs_ok, ix_dict, in_dict, dict_of, bq_tupl, bq_tupt, bq_lisl, bq_list, bq_inti, bq_min, bq_max, bq_sort, slc_list, slc_tup, get_2, get_1, zip_tup, zip_list, items_dict, cmp_eq_dct, cmp_ne_dct, List.tail_cons, kRv_od, kLk_od, kRf_tt, forS_nil, forS_cons, b_beq_true, pureE, pureL, pureO, pureI, wipeR, backR, List.getElem?_cons_zero, List.getElem?_cons_succ, List.set_cons_zero, List.set_cons_succ, List.append_nil, List.nil_append, List.cons_append, reduceIte, Bool.false_eq_true, Option.map_some, Option.map_none, Bool.false_and, Bool.true_and, Bool.and_false, Bool.and_true, Bool.or_false, Bool.or_true, Bool.false_or, Bool.true_or, Bool.not_true, Bool.not_false, List.all_cons, List.all_nil, List.length_cons, List.length_nil, Nat.reduceAdd, beq_self_eq_true, pu_x1_replaced_by, pu_x1__law_names, pu_x2__law_names, pu_x1__law_literal, pu_q1__law_literal, pu_x2__law_literal, pu_x3__law_literal, pu_q1__law_body, pu_x1__law_body, pu_x1__law_stands, pu_q1_law, pu_x1_law, so_0, so_1, so_2, so_3, oc_a, oc_aa, oc_aaa, oc_aaaa, oc_ap, oc_apa, oc_saa, oc_sas, $es,*])
theorem holds_loop (k : Nat) (a0 : Sl) (b : Dc) (n : Nat) (fs : List Fact) (idx : Dc) (a2 : Sl) (hb : Bnd n b) (hfs : ∀ f ∈ fs, okF f) (hi : IxOk fs idx) : ∀ (ls : List Lit) (s4 : Sl), (∀ l ∈ ls, litAts l) → setB s4 = true →
    ∃ s4', forS (setTg [4] false) (execs (callF TB (k + 2)) false l1_holds_by) (ls.map litD) [a0, .sh (.dict b), a2, .sh (.dict idx), s4] = if ls.all (stands b fs) = true then .next [a0, .sh (.dict b), a2, .sh (.dict idx), s4'] else .ret (.bool false) [a0, .sh (.dict b), a2, .sh (.dict idx), s4']
  | [], s4, _, _ => ⟨s4, by simp [forS]⟩
  | l :: ls, s4, hl, h4 => by
    have e := stands_ok k l b n fs idx (hl l List.mem_cons_self) hb hfs hi
    have hset : setTg [4] false (litD l) [a0, .sh (.dict b), a2, .sh (.dict idx), s4] = some [a0, .sh (.dict b), a2, .sh (.dict idx), .sh (litD l)] := by
      dsimp?! [h4]
    obtain ⟨s4', ih⟩ := holds_loop k a0 b n fs idx a2 hb hfs hi ls (.sh (litD l)) (fun l h => hl l (List.mem_cons_of_mem _ h)) rfl
    cases hs : stands b fs l with
    | true =>
      rw [hs] at e
      have hbd : execs (callF TB (k + 2)) false l1_holds_by [a0, .sh (.dict b), a2, .sh (.dict idx), .sh (litD l)] = .next [a0, .sh (.dict b), a2, .sh (.dict idx), .sh (litD l)] := by
        dsimp?! [l1_holds_by, e]
      refine ⟨s4', ?_⟩
      rw [List.map_cons, forS_cons, hset, kF1_ok, hbd, kF2_next, ih, List.all_cons, hs, Bool.true_and]
    | false =>
      rw [hs] at e
      have hbd : execs (callF TB (k + 2)) false l1_holds_by [a0, .sh (.dict b), a2, .sh (.dict idx), .sh (litD l)] = .ret (.bool false) [a0, .sh (.dict b), a2, .sh (.dict idx), .sh (litD l)] := by
        dsimp?! [l1_holds_by, e]
      refine ⟨.sh (litD l), ?_⟩
      rw [List.map_cons, forS_cons, hset, kF1_ok, hbd, kF2_ret, List.all_cons, hs, Bool.false_and, if_neg Bool.false_ne_true]
theorem holds_ok (k : Nat) (body : List Lit) (b : Dc) (n : Nat) (fs : List Fact) (hl : ∀ l ∈ body, litAts l) (hb : Bnd n b) (hfs : ∀ f ∈ fs, okF f ∧ f.2.length ≤ 1000) (hfl : fs.length ≤ 50000) : callF TB (k + 3) (Str.ofString "holds_by") [.tuple (body.map litD), .dict b, .list (fs.map factD)] = .ok (.bool (body.all (stands b fs))) [] := by
  rw [cl_holds_by]
  obtain ⟨idx, ei, hi⟩ := index_ok (k + 1) fs hfs hfl
  obtain ⟨s4, e⟩ := holds_loop k (.sh (.tuple (body.map litD))) b n fs idx (.sh (.list (fs.map factD))) hb (fun f h => (hfs f h).1) hi body .un hl rfl
  cases h : body.all (stands b fs) <;> rw [h] at e <;> simp only [isi_str, isi_tuple, isi_list, isi_bool, isi_int, isi_dict, asB_bool, asI_int, guard_tt, guard_ff, lenL, lenT, lenS, shp_int, shp_str, shp_bool, shp_none, cmp_eq_int, cmp_ne_int, cmp_eq_bool, cmp_ne_bool, cmp_eq_str, cmp_ne_str, cmp_lt_int, cmp_gt_int, cmp_le_int, cmp_ge_int, cmp_le_str, cmp_ge_str, cmp_gt_str, cmp_lt_str, cmp_in, cmp_nin, cmp_is, cmp_isn, isD_bool, isD_none, bin_add, bin_sub, bin_adds, bin_addl, bin_addt, ix_list, ix_tup, ix_str, items_list, items_tup, items_str, notOw_sh, notOw_un, notOw_succ, b_beq_false, szl0, szl1, szl2, szl3, szl4, szl5, szl6, szl7, szl8, szl9, szl10, szl11, szl12, szl13, szl14, szl15, szl16, eob_some, eob_none, nxO_some, newS_int, newS_str, newS_bool, newS_none, newS_tup, newS_lst, newS_dic, newS_ff, setS_k, kSS_un, kSS_sh, kSS_ow, kSS_bo, setB_sh, setB_un, setB_ow, kSS_pl, setTg_one, setTg_tup, setAll_nil, setAll_cons, kSA_some, kLk_sh, kLk_owt, kLk_owf, kLk_io, kLk_lk, kLk_pkt, kLk_pk_tup, kLk_pk_int, kLk_pk_str, notOw_0, plainS_sh, plainS_un, owL_ow, owL_io, owD_ow, owD_io, withD_ow, withD_io, slotD_ow, slotD_io, slotP_sh, slotP_ow, slotP_io, slotP_pk, slotP_lk, execs_nil, execs_cons, kSeq_next, kSeq_ret, kSeq_exc, kSeq_brk, kSeq_cont, x_set, kSet_ok, kSet_exc, x_setT, kSetT_ok, kSetT_exc, x_exp, kExp_ok, kExp_exc, x_app, kApC_ff, kApD_tt, kApB_ok, kApC_tt, kApp_ok, kAv_ok, x_ext, kExC_tt, kExt_ok, kExt_okt, kEv_ok, isSome_some, x_ret, kRet_ok, kRet_exc, vr_cst, fe_cst, vr_gl, fe_gl, fe_var, vr_tup, fe_tup, vr_lst, fe_lst, vr_dic0, fe_dic0, vr_bin, fe_bin, vr_neg, fe_neg, vr_cmp, fe_cmp, vr_chn, fe_chn, vr_and_, fe_and_, vr_or_, fe_or_, vr_not_, fe_not_, vr_ife, fe_ife, vr_call, fe_call, vr_callF, fe_callF, vr_srt, fe_srt, vr_bi, fe_bi, vr_isi, fe_isi, vr_rev, fe_rev, vr_joi, fe_joi, vr_mget, fe_mget, vr_ix, fe_ix, vr_slc, fe_slc, vr_lc, fe_lc, vr_pop0, fe_pop0, vr_pop1, fe_pop1, vr_setd, fe_setd, x_retF, kRf_int, kRf_bool, kRf_none, kRf_tup, kRf_str, kRf_exc, x_retV, kRv_ow, kRv_tup, kRv_int, kRv_str, kRv_bool, kRv_none, x_retN, x_iff, kTst_ok, kTst_exc, kIf_tt, kIf_ff, x_for, kFor_ok, x_forV, kFV_sh, kFV_pk, kFV_lk, kFV_ow, kFV_io, kFi_some, unlk_k, kUl_ow, kUl_io, unl_next, unl_ret, unl_exc, x_pass, x_brk, x_cont, x_whl, x_par, kPar1_ok, kPar2_ok, kPar3_ok, kPutC_ff, kPutL_tt, kPutM_ok, owD_owl, owD_iol, x_put, kPut1_ok, kPutC_tt, kPut2_ok, kPv_ok, boOf_bo, odOf_od, lsOf_l, dcOf_d, shOf_sh, deepOf_od, deepOf_0, owL_bo, isSome_none, emptyB_t, emptyB_f, deepV_k, x_bor, kBoC_tt, kBo1_ok, kBo2_ok, x_bo0, kB0C_tt, kB01_ok, x_boP, kBP0_ok, kBP1_tt, kBP2_ok, kBP3_ok, kBP4_ok, putBo_k, unbo_nil, unbo_cons, ubS_un, ubS_sh, ubS_ow, ubS_io, ubS_pk, ubS_lk, ubS_od, ubS_bo, e_cst, e_glo, ev_var, ev_tup, ev_lst, kTup_ok, kLst_ok, ev_dic, ev_bin, kBin1_ok, kBin2_ok, ev_neg, kNeg_ok, ev_cmp, kCmp1_ok, kCmp2_ok, kBl_some, ev_chn, kCh1_ok, kCh2_ok, kCh3_tt, kCh3_ff, ev_and, ev_or, ev_not, ev_ife, kAnd_tt, kAnd_ff, kOr_tt, kOr_ff, kNot_ok, kIfe_tt, kIfe_ff, ev_call, kCall_ok, kCall_exc, kCv1_ok, kCv2_ok, kCv2_exc, ev_callF, kCF1_l, kCF1_d, kCF2_ok, kCw1_ok, kCw2_ok, kCw2_exc, slOk_nil, slOk_a, io_nil, io_cons, io_io, io_pk, fill_nil, fill_a, fill_s, fill_p, kFl_ok, kFs_ok, put_nil, put_a, put_p, put_s, put_00, ev_bi, kBi_ok, ev_isi, kIsi_ok, ev_ix, kIx1_ok, kIx2_ok, ev_slc, kSl1_ok, kSl2_ok, kSl3_ok, eo_no, eo_so, kOi_ok, et_no, et_so, el_nil, el_cons, el_io, el_pk, kLc0_tt, kL1_ok, kL1_exc, kL2_ok, ep_nil, ep_cons, kP1_ok, ev_rev, kRev_ok, ev_srt, kSrt_ok, kSr2_ok, ev_joi, kJo1_ok, kJo2_ok, ev_mget, kMg1_ok, kMg2_ok, ev_pop0, ev_pop1, kPoC_tt, kPo_ok, ev_setd, kSdC_tt, kSd1_ok, kSd2_ok, ei_val, kIt_ok, ei_rng1, kR1_ok, ei_rng2, kR2_ok, kR3_ok, ei_zip, kZ1_ok, kZ2_ok, ei_enm, kEn_ok, ev_lc, lcB_k, kB1_ok, kOne_tt, kOne_ff, kSm_ok, kF1_ok, kF2_next, kF2_cont, kF2_brk, kF2_ret, kF2_exc, kW1_tt, kW1_ff, kW2_next, kW2_cont, kW2_brk, kW2_ret, out_next, out_ret, out_exc, crO_ok, outK_no, outK_s, outs_nil, outs_a, outs_p, outs_s, kOs_ok, ix_dict, in_dict, dict_of, bq_tupl, bq_tupt, bq_lisl, bq_list, bq_inti, bq_min, bq_max, bq_sort, slc_list, slc_tup, get_2, get_1, zip_tup, zip_list, items_dict, cmp_eq_dct, cmp_ne_dct, List.tail_cons, kRv_od, kLk_od, kRf_tt, forS_nil, forS_cons, b_beq_true, pureE, pureL, pureO, pureI, wipeR, backR, List.getElem?_cons_zero, List.getElem?_cons_succ, List.set_cons_zero, List.set_cons_succ, List.append_nil, List.nil_append, List.cons_append, reduceIte, Bool.false_eq_true, Option.map_some, Option.map_none, Bool.false_and, Bool.true_and, Bool.and_false, Bool.and_true, Bool.or_false, Bool.or_true, Bool.false_or, Bool.true_or, Bool.not_true, Bool.not_false, List.all_cons, List.all_nil, List.length_cons, List.length_nil, Nat.reduceAdd, beq_self_eq_true, pu_x1_replaced_by, pu_x1__law_names, pu_x2__law_names, pu_x1__law_literal, pu_q1__law_literal, pu_x2__law_literal, pu_x3__law_literal, pu_q1__law_body, pu_x1__law_body, pu_x1__law_stands, pu_q1_law, pu_x1_law, so_0, so_1, so_2, so_3, oc_a, oc_aa, oc_aaa, oc_aaaa, oc_ap, oc_apa, oc_saa, oc_sas] at e <;> dsimp?! [b_holds_by, ei, e]
/-! the law's bindings -/
theorem Bnd.old {n : Nat} {w : Dc} (h : Bnd n w) {t p : D} (ht : isAt t = true) (hm : nkOf t ∈ nks w) (hp : isAt p = true) : Bnd n (putN w t p) := by
  obtain ⟨q, hq, e⟩ := List.mem_map.mp hm
  have htv : isVar t = true := by
    have := h.ks q hq
    rw [nk_at (var_at this) ht e] at this
    exact this
  have h1 := h.put htv hp
  refine ⟨h1.sd, h1.ks, h1.vs, ?_⟩
  have : (putN w t p).length = w.length := by
    unfold putN
    rw [if_pos (any_nks.mpr hm), List.length_map]
  rw [this]
  exact h.ln
theorem bindA_loop (cf : Str → List D → CR) (xs : List Int) (body known facts : Sl) (ps : List Str) (ws : List Int) (cs vs : List D) (hcs : ∀ c ∈ cs, isAt c = true) (hcl : 0 < cs.length) (hvs : ∀ v ∈ vs, isVar v = true) (s6 s7 s8 s9 s10 : Sl) : ∀ (ks : List Int), (∀ i ∈ ks, 0 ≤ i ∧ i < vs.length ∧ i < xs.length) → ∀ (w : Dc) (n : Nat) (s5 : Sl), Bnd n w → n + ks.length ≤ 900 → setB s5 = true →
    ∃ (w' : Dc) (s5' : Sl), forS (setTg [5] false) (execs cf true l3__law_binding) (ks.map PyData.int) [.sh (.list (xs.map .int)), body, .sh (kd ps ws cs vs), facts, .ow (.dict w), s5, s6, s7, s8, s9, s10] = .next [.sh (.list (xs.map .int)), body, .sh (kd ps ws cs vs), facts, .ow (.dict w'), s5', s6, s7, s8, s9, s10] ∧ Bnd (n + ks.length) w'
  | [], _, w, n, s5, hw, _, _ => ⟨w, s5, by rw [List.map_nil, forS_nil], hw⟩
  | i :: ks, hk, w, n, s5, hw, hn, h5 => by
    rw [List.length_cons] at hn
    obtain ⟨h0, h1, h2⟩ := hk i List.mem_cons_self
    obtain ⟨v, ev, gv⟩ := atI_in vs h0 h1
    obtain ⟨x, ex, gx⟩ := atI_in (xs.map PyData.int) h0 (by rw [List.length_map]; exact h2)
    obtain ⟨x, _, rfl⟩ := List.mem_map.mp gx
    have mx := bin_mod x (cs.length : Int) (by omega)
    obtain ⟨c, ec, gc⟩ := atI_mod cs (n := (cs.length : Int)) x rfl (by omega)
    have hset : setTg [5] false (.int i) [.sh (.list (xs.map .int)), body, .sh (kd ps ws cs vs), facts, .ow (.dict w), s5, s6, s7, s8, s9, s10] = some [.sh (.list (xs.map .int)), body, .sh (kd ps ws cs vs), facts, .ow (.dict w), .sh (.int i), s6, s7, s8, s9, s10] := by
      dsimp?! [h5]
    have hf := hw.sd.fit (var_at (hvs v gv))
    have hd := (hw.sd.put (v := c) (var_at (hvs v gv))).dOk (Nat.le_trans (put_len w v c) (by have := hw.ln; omega))
    have hb : execs cf true l3__law_binding [.sh (.list (xs.map .int)), body, .sh (kd ps ws cs vs), facts, .ow (.dict w), .sh (.int i), s6, s7, s8, s9, s10] = .next [.sh (.list (xs.map .int)), body, .sh (kd ps ws cs vs), facts, .ow (.dict (putN w v c)), .sh (.int i), s6, s7, s8, s9, s10] := by
      dsimp?! [l3__law_binding, kd, at_2, at_3, ex, mx, ec, ev, hf, hd]
    obtain ⟨w', s5', e, hw'⟩ := bindA_loop cf xs body known facts ps ws cs vs hcs hcl hvs s6 s7 s8 s9 s10 ks (fun i hi => hk i (List.mem_cons_of_mem _ hi)) (putN w v c) (n + 1) (.sh (.int i)) (hw.put (hvs v gv) (hcs c gc)) (by omega) rfl
    refine ⟨w', s5', ?_, by rw [List.length_cons]; exact hw'.more (by omega)⟩
    rw [List.map_cons, forS_cons, hset, kF1_ok, hb, kF2_next, e]
theorem bindB_loop (cf : Str → List D → CR) (a0 a1 a2 a3 s5 s6 s7 s8 : Sl) : ∀ (ts qs : List D) (w : Dc) (n : Nat) (s9 s10 : Sl), (∀ t ∈ ts, isAt t = true) → (∀ t ∈ qs, isAt t = true) → Bnd n w → n ≤ 900 → setB s9 = true → setB s10 = true →
    ∃ (w' : Dc) (s9' s10' : Sl), forS (setTg [9, 10] true) (execs cf true l1__law_binding) (List.zipWith (fun x y => PyData.tuple [x, y]) ts qs) [a0, a1, a2, a3, .ow (.dict w), s5, s6, s7, s8, s9, s10] = .next [a0, a1, a2, a3, .ow (.dict w'), s5, s6, s7, s8, s9', s10'] ∧ Bnd n w' ∧ setB s9' = true ∧ setB s10' = true
  | [], _, w, n, s9, s10, _, _, hw, _, h9, h10 => ⟨w, s9, s10, rfl, hw, h9, h10⟩
  | _ :: _, [], w, n, s9, s10, _, _, hw, _, h9, h10 => ⟨w, s9, s10, rfl, hw, h9, h10⟩
  | t :: ts, q :: qs, w, n, s9, s10, ht, hq, hw, hn, h9, h10 => by
    have h1 := ht t List.mem_cons_self
    have h2 := hq q List.mem_cons_self
    have hset : setTg [9, 10] true (.tuple [t, q]) [a0, a1, a2, a3, .ow (.dict w), s5, s6, s7, s8, s9, s10] = some [a0, a1, a2, a3, .ow (.dict w), s5, s6, s7, s8, .sh t, .sh q] := by
      rw [setTg_tup _ _ _ rfl]
      dsimp?! [h9, h10]
    have hf := hw.sd.fit h1
    cases e : (getN w (nkOf t)).isSome with
    | true =>
      have hw' := hw.old h1 (getN_some.mp e) h2
      have hd := hw'.sd.dOk (Nat.le_trans hw'.ln (by omega))
      have hb : execs cf true l1__law_binding [a0, a1, a2, a3, .ow (.dict w), s5, s6, s7, s8, .sh t, .sh q] = .next [a0, a1, a2, a3, .ow (.dict (putN w t q)), s5, s6, s7, s8, .sh t, .sh q] := by
        dsimp?! [l1__law_binding, hf, e, hd]
      obtain ⟨w', s9', s10', g, g1, g2, g3⟩ := bindB_loop cf a0 a1 a2 a3 s5 s6 s7 s8 ts qs (putN w t q) n (.sh t) (.sh q) (fun t h => ht t (List.mem_cons_of_mem _ h)) (fun t h => hq t (List.mem_cons_of_mem _ h)) hw' hn rfl rfl
      refine ⟨w', s9', s10', ?_, g1, g2, g3⟩
      rw [List.zipWith_cons_cons, forS_cons, hset, kF1_ok, hb, kF2_next, g]
    | false =>
      have hb : execs cf true l1__law_binding [a0, a1, a2, a3, .ow (.dict w), s5, s6, s7, s8, .sh t, .sh q] = .next [a0, a1, a2, a3, .ow (.dict w), s5, s6, s7, s8, .sh t, .sh q] := by
        dsimp?! [l1__law_binding, hf, e]
      obtain ⟨w', s9', s10', g, g1, g2, g3⟩ := bindB_loop cf a0 a1 a2 a3 s5 s6 s7 s8 ts qs w n (.sh t) (.sh q) (fun t h => ht t (List.mem_cons_of_mem _ h)) (fun t h => hq t (List.mem_cons_of_mem _ h)) hw hn rfl rfl
      refine ⟨w', s9', s10', ?_, g1, g2, g3⟩
      rw [List.zipWith_cons_cons, forS_cons, hset, kF1_ok, hb, kF2_next, g]
theorem bindC_loop (cf : Str → List D → CR) (a0 a1 a2 a3 s5 : Sl) (p : Str) (qs : List D) (hq : ∀ t ∈ qs, isAt t = true) : ∀ (ls : List Lit) (w : Dc) (n : Nat) (s8 s9 s10 : Sl), (∀ l ∈ ls, litAts l) → Bnd n w → n ≤ 900 → setB s8 = true → setB s9 = true → setB s10 = true →
    ∃ (w' : Dc) (s8' s9' s10' : Sl), forS (setTg [8] false) (execs cf true l2__law_binding) (ls.map litD) [a0, a1, a2, a3, .ow (.dict w), s5, .sh (.str p), .sh (.tuple qs), s8, s9, s10] = .next [a0, a1, a2, a3, .ow (.dict w'), s5, .sh (.str p), .sh (.tuple qs), s8', s9', s10'] ∧ Bnd n w'
  | [], w, n, s8, s9, s10, _, hw, _, _, _, _ => ⟨w, s8, s9, s10, by rw [List.map_nil, forS_nil], hw⟩
  | l :: ls, w, n, s8, s9, s10, hl, hw, hn, h8, h9, h10 => by
    have hset : setTg [8] false (litD l) [a0, a1, a2, a3, .ow (.dict w), s5, .sh (.str p), .sh (.tuple qs), s8, s9, s10] = some [a0, a1, a2, a3, .ow (.dict w), s5, .sh (.str p), .sh (.tuple qs), .sh (litD l), s9, s10] := by
      dsimp?! [h8]
    have hla := hl l List.mem_cons_self
    have step : ∃ (w' : Dc) (s9' s10' : Sl), execs cf true l2__law_binding [a0, a1, a2, a3, .ow (.dict w), s5, .sh (.str p), .sh (.tuple qs), .sh (litD l), s9, s10] = .next [a0, a1, a2, a3, .ow (.dict w'), s5, .sh (.str p), .sh (.tuple qs), .sh (litD l), s9', s10'] ∧ Bnd n w' ∧ setB s9' = true ∧ setB s10' = true := by
      have h0 := lit_0 l
      have hy := lit_yes l
      cases hyl : isYesL l with
      | false =>
        refine ⟨w, s9, s10, ?_, hw, h9, h10⟩
        dsimp?! [l2__law_binding, h0, hy, hyl]
      | true =>
        cases l with
        | yes q ts =>
          cases hpq : q == p with
          | false =>
            refine ⟨w, s9, s10, ?_, hw, h9, h10⟩
            dsimp?! [l2__law_binding, litD, at_0, at_1, hpq]
          | true =>
            obtain ⟨w', s9', s10', g, g1, g2, g3⟩ := bindB_loop cf a0 a1 a2 a3 s5 (.sh (.str p)) (.sh (.tuple qs)) (.sh (litD (.yes q ts))) ts qs w n s9 s10 hla.2 hq hw hn h9 h10
            refine ⟨w', s9', s10', ?_, g1, g2, g3⟩
            simp only [litD] at g
            dsimp?! [l2__law_binding, litD, at_0, at_1, at_2, hpq, g]
        | _ => cases hyl
    obtain ⟨w', s9', s10', e, e1, e2, e3⟩ := step
    obtain ⟨w'', s8'', s9'', s10'', g, g1⟩ := bindC_loop cf a0 a1 a2 a3 s5 p qs hq ls w' n (.sh (litD l)) s9' s10' (fun l h => hl l (List.mem_cons_of_mem _ h)) e1 hn rfl e2 e3
    refine ⟨w'', s8'', s9'', s10'', ?_, g1⟩
    rw [List.map_cons, forS_cons, hset, kF1_ok, e, kF2_next, g]
theorem binding_ok (k : Nat) (xs : List Int) (hx : ∀ x ∈ xs, 0 ≤ x) (hxl : xs.length = 6) (body : List Lit) (hl : ∀ l ∈ body, litAts l) (ps : List Str) (ws : List Int) (cs vs : List D) (hcs : ∀ c ∈ cs, isAt c = true) (hcl : 0 < cs.length) (hvs : ∀ v ∈ vs, isVar v = true) (hvl : vs.length ≤ 4) (fs : List Fact) (hfs : ∀ f ∈ fs, okF f) :
    ∃ b : Dc, callF TB (k + 1) (Str.ofString "_law_binding") [.list (xs.map .int), .tuple (body.map litD), kd ps ws cs vs, .list (fs.map factD)] = .ok (.dict b) [] ∧ Bnd 4 b := by
  rw [cl__law_binding]
  obtain ⟨w, s5, ew, hw⟩ := bindA_loop (callF TB k) xs (.sh (.tuple (body.map litD))) .un (.sh (.list (fs.map factD))) ps ws cs vs hcs hcl hvs .un .un .un .un .un ((List.range (vs.length : Int).toNat).map fun (k : Nat) => 0 + (k : Int)) (fun i hi => by
    rw [List.mem_map] at hi
    obtain ⟨j, hj, rfl⟩ := hi
    rw [List.mem_range] at hj
    omega) [] 0 .un Bnd.nil (by simp; omega) rfl
  have hw4 : Bnd 4 w := hw.more (by simp; omega)
  have hr := rng_small (vs.length : Int) (by omega) (by omega)
  rw [range_ints] at hr
  obtain ⟨x4, e4, _⟩ := xs_at hx hxl 4 (by decide) (by decide)
  obtain ⟨x5, e5, _⟩ := xs_at hx hxl 5 (by decide) (by decide)
  have m2 := bin_mod x4 2 (by decide)
  have hne := cmp_ne_nilS (smps_facts hfs) (dep_facts hfs)
  by_cases c : x4 % 2 = 1 ∧ (fs.map factD).isEmpty = false
  · obtain ⟨c1, c2⟩ := c
    have hp : 0 < fs.length := by cases fs with | nil => simp at c2 | cons f fs => simp
    have m5 := bin_mod x5 (fs.length : Int) (by omega)
    obtain ⟨d, ed, gd⟩ := atI_mod (fs.map factD) (n := (fs.length : Int)) x5 (by rw [List.length_map]) (by omega)
    obtain ⟨f, hf, rfl⟩ := List.mem_map.mp gd
    obtain ⟨p, qs⟩ := f
    have hq : ∀ t ∈ qs, isAt t = true := hfs _ hf
    have st : ∀ ρ : Rho, setTg [6, 7] true (factD (p, qs)) ρ = setAll [6, 7] [.str p, .tuple qs] ρ := fun ρ => setTg_tup _ _ _ rfl
    obtain ⟨b, s8, s9, s10, eb, hb⟩ := bindC_loop (callF TB k) (.sh (.list (xs.map .int))) (.sh (.tuple (body.map litD))) (.sh (kd ps ws cs vs)) (.sh (.list (fs.map factD))) s5 p qs hq body w 4 .un .un .un hl hw4 (by decide) rfl rfl rfl
    refine ⟨b, ?_, hb⟩
    simp only [kd] at ew eb
    dsimp?! [b__law_binding, kd, at_3, hr, ew, e4, e5, m2, c1, c2, hne, decide_true, List.length_map, m5, ed, st, eb]
  · refine ⟨w, ?_, hw4⟩
    simp only [kd] at ew
    by_cases c1 : x4 % 2 = 1
    · have c2 : (fs.map factD).isEmpty = true := by
        cases h : (fs.map factD).isEmpty with
        | true => rfl
        | false => exact absurd ⟨c1, h⟩ c
      dsimp?! [b__law_binding, kd, at_3, hr, ew, e4, m2, c1, c2, hne, decide_true]
    · dsimp?! [b__law_binding, kd, at_3, hr, ew, e4, m2, c1, decide_false]
end DI
set_option Elab.async false
set_option linter.all false
set_option maxRecDepth 100000
set_option maxHeartbeats 4000000
namespace DI
open PySem PySem.Spec PyProof.Rows L2
local macro_rules | `(tactic| dsimp?! [$es,*]) => `(tactic| simp only [isi_str, isi_tuple, isi_list, isi_bool, isi_int, isi_dict, asB_bool, asI_int, guard_tt, guard_ff, lenL, lenT, lenS, shp_int, shp_str, shp_bool, shp_none, cmp_eq_int, cmp_ne_int, cmp_eq_bool, cmp_ne_bool, cmp_eq_str, cmp_ne_str, cmp_lt_int, cmp_gt_int, cmp_le_int, cmp_ge_int, cmp_le_str, cmp_ge_str, cmp_gt_str, cmp_lt_str, cmp_in, cmp_nin, cmp_is, cmp_isn, isD_bool, isD_none, bin_add, bin_sub, bin_adds, bin_addl, bin_addt, ix_list, ix_tup, ix_str, items_list, items_tup, items_str, notOw_sh, notOw_un, notOw_succ, b_beq_false, szl0, szl1, szl2, szl3, szl4, szl5, szl6, szl7, szl8, szl9, szl10, szl11, szl12, szl13, szl14, szl15, szl16, eob_some, eob_none, nxO_some, newS_int, newS_str, newS_bool, newS_none, newS_tup, newS_lst, newS_dic, newS_ff, setS_k, kSS_un, kSS_sh, kSS_ow, kSS_bo, setB_sh, setB_un, setB_ow, kSS_pl, setTg_one, setTg_tup, setAll_nil, setAll_cons, kSA_some, kLk_sh, kLk_owt, kLk_owf, kLk_io, kLk_lk, kLk_pkt, kLk_pk_tup, kLk_pk_int, kLk_pk_str, notOw_0, plainS_sh, plainS_un, owL_ow, owL_io, owD_ow, owD_io, withD_ow, withD_io, slotD_ow, slotD_io, slotP_sh, slotP_ow, slotP_io, slotP_pk, slotP_lk, execs_nil, execs_cons, kSeq_next, kSeq_ret, kSeq_exc, kSeq_brk, kSeq_cont, x_set, kSet_ok, kSet_exc, x_setT, kSetT_ok, kSetT_exc, x_exp, kExp_ok, kExp_exc, x_app, kApC_ff, kApD_tt, kApB_ok, kApC_tt, kApp_ok, kAv_ok, x_ext, kExC_tt, kExt_ok, kExt_okt, kEv_ok, isSome_some, x_ret, kRet_ok, kRet_exc, vr_cst, fe_cst, vr_gl, fe_gl, fe_var, vr_tup, fe_tup, vr_lst, fe_lst, vr_dic0, fe_dic0, vr_bin, fe_bin, vr_neg, fe_neg, vr_cmp, fe_cmp, vr_chn, fe_chn, vr_and_, fe_and_, vr_or_, fe_or_, vr_not_, fe_not_, vr_ife, fe_ife, vr_call, fe_call, vr_callF, fe_callF, vr_srt, fe_srt, vr_bi, fe_bi, vr_isi, fe_isi, vr_rev, fe_rev, vr_joi, fe_joi, vr_mget, fe_mget, vr_ix, fe_ix, vr_slc, fe_slc, vr_lc, fe_lc, vr_pop0, fe_pop0, vr_pop1, fe_pop1, vr_setd, fe_setd, x_retF, kRf_int, kRf_bool, kRf_none, kRf_tup, kRf_str, kRf_exc, x_retV, kRv_ow, kRv_tup, kRv_int, kRv_str, kRv_bool, kRv_none, x_retN, x_iff, kTst_ok, kTst_exc, kIf_tt, kIf_ff, x_for, kFor_ok, x_forV, kFV_sh, kFV_pk, kFV_lk, kFV_ow, kFV_io, kFi_some, unlk_k, kUl_ow, kUl_io, unl_next, unl_ret, unl_exc, x_pass, x_brk, x_cont, x_whl, x_par, kPar1_ok, kPar2_ok, kPar3_ok, kPutC_ff, kPutL_tt, kPutM_ok, owD_owl, owD_iol, x_put, kPut1_ok, kPutC_tt, kPut2_ok, kPv_ok, boOf_bo, odOf_od, lsOf_l, dcOf_d, shOf_sh, deepOf_od, deepOf_0, owL_bo, isSome_none, emptyB_t, emptyB_f, deepV_k, x_bor, kBoC_tt, kBo1_ok, kBo2_ok, x_bo0, kB0C_tt, kB01_ok, x_boP, kBP0_ok, kBP1_tt, kBP2_ok, kBP3_ok, kBP4_ok, putBo_k, unbo_nil, unbo_cons, ubS_un, ubS_sh, ubS_ow, ubS_io, ubS_pk, ubS_lk, ubS_od, ubS_bo, e_cst, e_glo, ev_var, ev_tup, ev_lst, kTup_ok, kLst_ok, ev_dic, ev_bin, kBin1_ok, kBin2_ok, ev_neg, kNeg_ok, ev_cmp, kCmp1_ok, kCmp2_ok, kBl_some, ev_chn, kCh1_ok, kCh2_ok, kCh3_tt, kCh3_ff, ev_and, ev_or, ev_not, ev_ife, kAnd_tt, kAnd_ff, kOr_tt, kOr_ff, kNot_ok, kIfe_tt, kIfe_ff, ev_call, kCall_ok, kCall_exc, kCv1_ok, kCv2_ok, kCv2_exc, ev_callF, kCF1_l, kCF1_d, kCF2_ok, kCw1_ok, kCw2_ok, kCw2_exc, slOk_nil, slOk_a, io_nil, io_cons, io_io, io_pk, fill_nil, fill_a, fill_s, fill_p, kFl_ok, kFs_ok, put_nil, put_a, put_p, put_s, put_00, ev_bi, kBi_ok, ev_isi, kIsi_ok, ev_ix, kIx1_ok, kIx2_ok, ev_slc, kSl1_ok, kSl2_ok, kSl3_ok, eo_no, eo_so, kOi_ok, et_no, et_so, el_nil, el_cons, el_io, el_pk, kLc0_tt, kL1_ok, kL1_exc, kL2_ok, ep_nil, ep_cons, kP1_ok, ev_rev, kRev_ok, ev_srt, kSrt_ok, kSr2_ok, ev_joi, kJo1_ok, kJo2_ok, ev_mget, kMg1_ok, kMg2_ok, ev_pop0, ev_pop1, kPoC_tt, kPo_ok, ev_setd, kSdC_tt, kSd1_ok, kSd2_ok, ei_val, kIt_ok, ei_rng1, kR1_ok, ei_rng2, kR2_ok, kR3_ok, ei_zip, kZ1_ok, kZ2_ok, ei_enm, kEn_ok, ev_lc, lcB_k, kB1_ok, kOne_tt, kOne_ff, kSm_ok, kF1_ok, kF2_next, kF2_cont, kF2_brk, kF2_ret, kF2_exc, kW1_tt, kW1_ff, kW2_next, kW2_cont, kW2_brk, kW2_ret, out_next, out_ret, out_exc, crO_ok, outK_no, outK_s, outs_nil, outs_a, outs_p, outs_s, kOs_ok, ix_dict, in_dict, dict_of, bq_tupl, bq_tupt, bq_lisl, bq_list, bq_inti, bq_min, bq_max, bq_sort, slc_list, slc_tup, get_2, get_1, zip_tup, zip_list, items_dict, cmp_eq_dct, cmp_ne_dct, List.tail_cons, kRv_od, kLk_od, kRf_tt, forS_nil, forS_cons, b_beq_true, pureE, pureL, pureO, pureI, wipeR, backR, List.getElem?_cons_zero, List.getElem?_cons_succ, List.set_cons_zero, List.set_cons_succ, List.append_nil, List.nil_append, List.cons_append, reduceIte, Bool.false_eq_true, Option.map_some, Option.map_none, Bool.false_and, Bool.true_and, Bool.and_false, Bool.and_true, Bool.or_false, Bool.or_true, Bool.false_or, Bool.true_or, Bool.not_true, Bool.not_false, List.all_cons, List.all_nil, List.length_cons, List.length_nil, Nat.reduceAdd, beq_self_eq_true, pu_x1_replaced_by, pu_x1__law_names, pu_x2__law_names, pu_x1__law_literal, pu_q1__law_literal, pu_x2__law_literal, pu_x3__law_literal, pu_q1__law_body, pu_x1__law_body, pu_x1__law_stands, pu_q1_law, pu_x1_law, so_0, so_1, so_2, so_3, oc_a, oc_aa, oc_aaa, oc_aaaa, oc_ap, oc_apa, oc_saa, oc_sas, $es,*])
theorem smp_lit {l : Lit} (h : litAts l) : smp (litD l) = true ∧ (litD l).depth ≤ 3 := by
  have d1 : ∀ {ts : List D}, (∀ t ∈ ts, isAt t = true) → PyData.depthAll ts = 0 := fun {ts} h => Nat.le_zero.mp (depth_all fun d hd => by rw [dep_at (h d hd)]; exact Nat.le_refl _)
  cases l with
  | yes p ts => exact ⟨by simp only [litD, smp, smps, smps_at h.2, Bool.and_self], by simp only [litD, PyData.depth, PyData.depthAll, d1 h.2]; decide⟩
  | no p ts => exact ⟨by simp only [litD, smp, smps, smps_at h.2, Bool.and_self], by simp only [litD, PyData.depth, PyData.depthAll, d1 h.2]; decide⟩
  | und a b => exact ⟨by simp only [litD, smp, smps, smp_at h.1, smp_at h.2, Bool.and_self], by simp only [litD, PyData.depth, PyData.depthAll, dep_at h.1, dep_at h.2]; decide⟩
  | unl a b => exact ⟨by simp only [litD, smp, smps, smp_at h.1, smp_at h.2, Bool.and_self], by simp only [litD, PyData.depth, PyData.depthAll, dep_at h.1, dep_at h.2]; decide⟩
def gL (k : Nat) (b F : D) (d : D) : Option D := match callF TB k (Str.ofString "_law_stands") [d, b, F] with
  | .ok (.bool true) _ => none
  | _ => some d
theorem gL_lit (k : Nat) (l : Lit) (b : Dc) (n : Nat) (fs : List Fact) (hl : litAts l) (hb : Bnd n b) (hfs : ∀ f ∈ fs, okF f) : gL (k + 2) (.dict b) (.list (fs.map factD)) (litD l) = if stands b fs l = true then none else some (litD l) := by
  unfold gL
  rw [lstands_ok k l b n fs hl hb hfs]
  cases stands b fs l <;> rfl
theorem gL_all (k : Nat) (b : Dc) (n : Nat) (fs : List Fact) (hb : Bnd n b) (hfs : ∀ f ∈ fs, okF f) : ∀ ls : List Lit, (∀ l ∈ ls, litAts l) → ((ls.map litD).filterMap (gL (k + 2) (.dict b) (.list (fs.map factD)))).isEmpty = ls.all (stands b fs) ∧ smps ((ls.map litD).filterMap (gL (k + 2) (.dict b) (.list (fs.map factD)))) = true ∧ PyData.depthAll ((ls.map litD).filterMap (gL (k + 2) (.dict b) (.list (fs.map factD)))) ≤ 3
  | [], _ => ⟨rfl, rfl, by simp [PyData.depthAll]⟩
  | l :: ls, h => by
    obtain ⟨i1, i2, i3⟩ := gL_all k b n fs hb hfs ls fun l hl => h l (List.mem_cons_of_mem _ hl)
    obtain ⟨j1, j2⟩ := smp_lit (h l List.mem_cons_self)
    rw [List.map_cons, List.filterMap_cons, gL_lit k l b n fs (h l List.mem_cons_self) hb hfs, List.all_cons]
    cases stands b fs l with
    | true => exact ⟨by rw [Bool.true_and]; exact i1, i2, i3⟩
    | false =>
      refine ⟨rfl, ?_, ?_⟩
      · show (smp (litD l) && smps _) = true
        rw [j1]
        exact i2
      · exact Nat.max_le.mpr ⟨j2, i3⟩
theorem law_step (k : Nat) (ns : List Int) (body : List Lit) (bound : List D) (hl : ∀ l ∈ body, litAts l) (hbl : body.length ≤ 100) (ps : List Str) (ws : List Int) (cs vs : List D) (hcs : ∀ c ∈ cs, isAt c = true) (hcl : 0 < cs.length) (hvs : ∀ v ∈ vs, isVar v = true) (hvl : vs.length ≤ 4) (fs : List Fact) (hfs : ∀ f ∈ fs, okF f ∧ f.2.length ≤ 1000) (hfl : fs.length ≤ 5000)
    (i : Int) (hi0 : 0 ≤ i) (hi1 : i ≤ 1000) (l4 s6 s7 s8 s9 : Sl) (h4 : l4 = .ow (.list (fs.map factD)) ∨ l4 = .sh (.list (fs.map factD))) (h6 : setB s6 = true) (h7 : setB s7 = true) (h8 : setB s8 = true) (h9 : setB s9 = true) :
    ∃ s6' s7' s8' s9', execs (callF TB (k + 4)) false l1_law [.sh (.list (ns.map .int)), .sh (kd ps ws cs vs), .sh (.tuple (body.map litD)), .sh (.list bound), l4, .sh (.int i), s6, s7, s8, s9, .un] =
      .next [.sh (.list (ns.map .int)), .sh (kd ps ws cs vs), .sh (.tuple (body.map litD)), .sh (.list bound), .sh (.list (fs.map factD)), .sh (.int i), s6', s7', s8', s9', .un] ∧ setB s6' = true ∧ setB s7' = true ∧ setB s8' = true ∧ setB s9' = true := by
  obtain ⟨c, ecell⟩ := law_cell_ok (k + 3) ns i hi0 hi1
  obtain ⟨xs, est, hxl, hx⟩ := law_stream_ok (k + 3) c 6 (by decide) (by decide)
  have hxl : xs.length = 6 := hxl
  have hfs' : ∀ f ∈ fs, okF f := fun f h => (hfs f h).1
  obtain ⟨b, eb, hb⟩ := binding_ok (k + 3) xs hx hxl body hl ps ws cs vs hcs hcl hvs hvl fs hfs'
  have hk := hb.sd.key
  have eh := holds_ok (k + 1) body b 4 fs hl hb hfs (by omega)
  obtain ⟨g1, g2, g3⟩ := gL_all (k + 2) b 4 fs hb hfs' body hl
  have hceq := cmp_eq_nilS g2 (by show PyData.depthAll _ + 1 ≤ 60; omega)
  rw [g1] at hceq
  have hself := (cmp_list_self (xs := [.dict b, .list (fs.map factD)]) (by
    intro x hx
    simp only [List.mem_cons, List.not_mem_nil, or_false] at hx
    rcases hx with rfl | rfl
    · exact .inr (.inr ⟨b, rfl, hb.sd, fun p hp => .inl ⟨smp_at (hb.vs p hp), by rw [dep_at (hb.vs p hp)]; decide⟩⟩)
    · exact .inl ⟨smps_facts hfs', dep_facts hfs'⟩)).2
  have hz : szOk (body.map litD).length = true := szOk_of (by rw [List.length_map]; omega)
  have one : ∀ (sl : Sl), (sl = .ow (.dict b) ∨ sl = .sh (.dict b)) → ∀ d ∈ body.map litD, ∀ ρ0, ∃ ρ', lcB (callF TB (k + 4)) [10] false (.so q1_law) x1_law ρ0 d [.sh (.list (ns.map .int)), .sh (kd ps ws cs vs), .sh (.tuple (body.map litD)), .sh (.list bound), .sh (.list (fs.map factD)), .sh (.int i), sl, .ow (.list [.dict b, .list (fs.map factD)]), .sh (.bool (body.all (stands b fs))), s9, .un] = .ok (gL (k + 4) (.dict b) (.list (fs.map factD)) d) ρ' ∧
      wipeR ρ' [10] = [.sh (.list (ns.map .int)), .sh (kd ps ws cs vs), .sh (.tuple (body.map litD)), .sh (.list bound), .sh (.list (fs.map factD)), .sh (.int i), .sh (.dict b), .ow (.list [.dict b, .list (fs.map factD)]), .sh (.bool (body.all (stands b fs))), s9, .un] ∧ ([10].all (notOw ρ')) = true := fun sl hsl d hd ρ0 => by
    obtain ⟨l, hll, rfl⟩ := List.mem_map.mp hd
    have e := lstands_ok (k + 2) l b 4 fs (hl l hll) hb hfs'
    rw [gL_lit (k + 2) l b 4 fs (hl l hll) hb hfs']
    refine ⟨[.sh (.list (ns.map .int)), .sh (kd ps ws cs vs), .sh (.tuple (body.map litD)), .sh (.list bound), .sh (.list (fs.map factD)), .sh (.int i), .sh (.dict b), .ow (.list [.dict b, .list (fs.map factD)]), .sh (.bool (body.all (stands b fs))), s9, .sh (litD l)], ?_, by dsimp?! [], by dsimp?! []⟩
    rcases hsl with rfl | rfl <;> cases hs : stands b fs l <;> rw [hs] at e <;> dsimp?! [q1_law, x1_law, lcB_k, e]
  by_cases hne : body = []
  · subst hne
    simp only [List.all_nil] at eh
    simp only [List.map_nil] at eh eb
    have hc0 : cmpD .Eq (.list []) (.list []) = some true := by kernel_rfl
    have h0 : ∀ ρ : Rho, ([10].all (notOw ρ)) = true → kLc (callF TB (k + 4)) [10] [10] false (.so q1_law) x1_law (.ok [] ρ) = eob (guardP (szOk 0) (some (.list []))) (backR ρ ρ [10]) := fun ρ hρ => by
      rw [kLc_ok]
      simp only [lcLoop]
      rw [kLc2_ok, hρ, Bool.and_self, kLc3_tt]
      rfl
    have hn0 : ∀ a b c d e f g h i j : Sl, ([10].all (notOw [a, b, c, d, e, f, g, h, i, j, .un])) = true := fun a b c d e f g h i j => by dsimp?! []
    refine ⟨.sh (.dict b), .ow (.list [.dict b, .list (fs.map factD)]), .sh (.bool true), .sh (.bool true), ?_, rfl, rfl, rfl, rfl⟩
    rcases h4 with rfl | rfl <;> dsimp?! [l1_law, List.map_nil, ecell, est, eb, h6, h7, h8, h9, dict_of, hk, at_0, at_1, eh, h0, hn0, hc0, isB, hself]
  · have e1 := lc_fz (cf := callF TB (k + 4)) (own := [10]) (tg := [10]) (isT := false) (ifs := .so q1_law) (elt := x1_law) (ρ := [.sh (.list (ns.map .int)), .sh (kd ps ws cs vs), .sh (.tuple (body.map litD)), .sh (.list bound), .sh (.list (fs.map factD)), .sh (.int i), .ow (.dict b), .ow (.list [.dict b, .list (fs.map factD)]), .sh (.bool (body.all (stands b fs))), s9, .un])
      (ρ1 := [.sh (.list (ns.map .int)), .sh (kd ps ws cs vs), .sh (.tuple (body.map litD)), .sh (.list bound), .sh (.list (fs.map factD)), .sh (.int i), .sh (.dict b), .ow (.list [.dict b, .list (fs.map factD)]), .sh (.bool (body.all (stands b fs))), s9, .un]) (ds := body.map litD) (gL (k + 4) (.dict b) (.list (fs.map factD))) (by dsimp?! []) (by dsimp?! []) rfl (by intro i hi; rw [List.mem_singleton] at hi; subst hi; rfl) (by simpa using hne)
      (fun d hd ρ0 => one _ (.inl rfl) d hd ρ0) (fun d hd ρ0 => one _ (.inr rfl) d hd ρ0)
    rw [hz, guard_tt, eob_some] at e1
    refine ⟨.sh (.dict b), .ow (.list [.dict b, .list (fs.map factD)]), .sh (.bool (body.all (stands b fs))), .sh (.bool (body.all (stands b fs))), ?_, rfl, rfl, rfl, rfl⟩
    rcases h4 with rfl | rfl <;> dsimp?! [l1_law, ecell, est, eb, h6, h7, h8, h9, dict_of, hk, at_0, at_1, eh, e1, hceq, isB, hself]
theorem law_loop (k : Nat) (ns : List Int) (body : List Lit) (bound : List D) (hl : ∀ l ∈ body, litAts l) (hbl : body.length ≤ 100) (ps : List Str) (ws : List Int) (cs vs : List D) (hcs : ∀ c ∈ cs, isAt c = true) (hcl : 0 < cs.length) (hvs : ∀ v ∈ vs, isVar v = true) (hvl : vs.length ≤ 4) (fs : List Fact) (hfs : ∀ f ∈ fs, okF f ∧ f.2.length ≤ 1000) (hfl : fs.length ≤ 5000) :
    ∀ (ks : List Int), (∀ i ∈ ks, 0 ≤ i ∧ i ≤ 1000) → ∀ (l4 s5 s6 s7 s8 s9 : Sl), (l4 = .ow (.list (fs.map factD)) ∨ l4 = .sh (.list (fs.map factD))) → setB s5 = true → setB s6 = true → setB s7 = true → setB s8 = true → setB s9 = true →
    ∃ ρ, forS (setTg [5] false) (execs (callF TB (k + 4)) false l1_law) (ks.map PyData.int) [.sh (.list (ns.map .int)), .sh (kd ps ws cs vs), .sh (.tuple (body.map litD)), .sh (.list bound), l4, s5, s6, s7, s8, s9, .un] = .next ρ
  | [], _, l4, s5, s6, s7, s8, s9, _, _, _, _, _, _ => ⟨_, by rw [List.map_nil, forS_nil]⟩
  | i :: ks, hk, l4, s5, s6, s7, s8, s9, h4, h5, h6, h7, h8, h9 => by
    obtain ⟨hi0, hi1⟩ := hk i List.mem_cons_self
    obtain ⟨s6', s7', s8', s9', e, g6, g7, g8, g9⟩ := law_step k ns body bound hl hbl ps ws cs vs hcs hcl hvs hvl fs hfs hfl i hi0 hi1 l4 s6 s7 s8 s9 h4 h6 h7 h8 h9
    obtain ⟨ρ, e2⟩ := law_loop k ns body bound hl hbl ps ws cs vs hcs hcl hvs hvl fs hfs hfl ks (fun i hi => hk i (List.mem_cons_of_mem _ hi)) (.sh (.list (fs.map factD))) (.sh (.int i)) s6' s7' s8' s9' (.inr rfl) rfl g6 g7 g8 g9
    refine ⟨ρ, ?_⟩
    have hset : setTg [5] false (.int i) [.sh (.list (ns.map .int)), .sh (kd ps ws cs vs), .sh (.tuple (body.map litD)), .sh (.list bound), l4, s5, s6, s7, s8, s9, .un] = some [.sh (.list (ns.map .int)), .sh (kd ps ws cs vs), .sh (.tuple (body.map litD)), .sh (.list bound), l4, .sh (.int i), s6, s7, s8, s9, .un] := by
      dsimp?! [h5]
    rw [List.map_cons, forS_cons, hset, kF1_ok, e, kF2_next, e2]
theorem litAts_of {vs cs : List D} (hvs : ∀ v ∈ vs, isAt v = true) (hcs : ∀ c ∈ cs, isAt c = true) {l : Lit} (h : litOk vs cs vs l) : litAts l := by
  have hh : ∀ t, t ∈ vs ∨ t ∈ cs → isAt t = true := fun t z => z.elim (hvs t) (hcs t)
  cases l with
  | yes p ts => exact ⟨by have := h.1; omega, fun t ht => hh t (h.2 t ht)⟩
  | no p ts => exact ⟨by have := h.1; omega, fun t ht => hh t (h.2 t ht)⟩
  | und a b => exact ⟨hh a h.1, hh b h.2⟩
  | unl a b => exact ⟨hh a h.1, hh b h.2⟩
theorem law_true : ∀ ns : List Int, ns.length ≤ 63 → callF TB 16 (Str.ofString "law") [.list (ns.map PyData.int)] = .ok (.bool true) [] := by
  intro ns hn
  have hlaw : ∀ k, callF TB (k + 5) (Str.ofString "law") [.list (ns.map PyData.int)] = .ok (.bool true) [] := fun k => by
    obtain ⟨ps, ws, cs, vs, ek, hpl, hps, hwl, hw, hcl, hcl2, hcs, hvl, hvs⟩ := known_ok k ns 4 (by decide) (by decide)
    obtain ⟨c4, e4⟩ := law_cell_ok (k + 3) ns 4 (by decide) (by decide)
    obtain ⟨c5, e5⟩ := law_cell_ok (k + 3) ns 5 (by decide) (by decide)
    obtain ⟨c6, e6⟩ := law_cell_ok (k + 3) ns 6 (by decide) (by decide)
    obtain ⟨xs, est, hxl, _⟩ := law_stream_ok (k + 3) c4 24 (by decide) (by decide)
    have hxl : xs.length = 24 := hxl
    have m6 := bin_mod c5 6 (by decide)
    have hq0 := Int.emod_nonneg c5 (b := 6) (by decide)
    have hq1 := Int.emod_lt_of_pos c5 (b := 6) (by decide)
    have hvat : ∀ v ∈ vs, isAt v = true := fun v h => var_at (hvs v h)
    have hcat : ∀ c ∈ cs, isAt c = true := fun c h => at_const (hcs c h)
    obtain ⟨xs', body, bound, eb, hbody, hbl, _⟩ := body_ok (k + 1) xs (1 + c5 % 6) ps ws cs vs (by omega) (by omega) (by rw [hxl]; omega) hvat hcat (by omega) hw hwl (by omega)
    obtain ⟨fs, ef, hfl, hfs⟩ := facts_ok (k + 2) c6 ps ws cs (fun w h => ⟨(hw w h).1, by have := (hw w h).2; omega⟩) hwl hcl2 (by omega)
    have hl : ∀ l ∈ body, litAts l := fun l h => litAts_of hvat hcat (hbody.lits l h).1
    have hfs' : ∀ f ∈ fs, okF f ∧ f.2.length ≤ 1000 := fun f h => ⟨fun d hd => hcat d ((hfs f h).2 d hd), by have := (hfs f h).1; omega⟩
    let top : Int := if (if (ns.length : Int) < 40 then (ns.length : Int) else 40) > 12 then (if (ns.length : Int) < 40 then (ns.length : Int) else 40) else 12
    have ht0 : 0 ≤ top := by simp only [top]; split <;> split <;> omega
    have ht1 : top ≤ 100 := by simp only [top]; split <;> split <;> omega
    have hr := rng_two 7 top (by decide) (by decide) ht0 (by omega)
    rw [range_ints] at hr
    obtain ⟨ρ, e⟩ := law_loop k ns body bound hl (by omega) ps ws cs vs hcat (by omega) hvs hvl fs hfs' (by omega) ((List.range (top - 7).toNat).map fun (k : Nat) => 7 + (k : Int)) (range_bd (by decide) (by omega)) (.ow (.list (fs.map factD))) .un .un .un .un .un (.inl rfl) rfl rfl rfl rfl rfl
    simp only [top] at hr e
    have st : ∀ ρ : Rho, setTg [2, 3] true (.tuple [.tuple (body.map litD), .list bound]) ρ = setAll [2, 3] [.tuple (body.map litD), .list bound] ρ := fun ρ => setTg_tup _ _ _ rfl
    simp only [kd] at ek eb e
    rw [cl_law]
    dsimp?! [b_law, ek, e4, e5, e6, est, m6, eb, st, at_0, at_1, at_2, ef, List.length_map, hr, e]
  exact hlaw 11
end DI
set_option Elab.async false
set_option linter.all false
set_option maxRecDepth 100000
set_option maxHeartbeats 4000000
/-! the end: what the top has written -/
namespace DI
open PySem PySem.Spec PyProof.Rows L2
theorem sc_replaced_by : FnScope nn_replaced_by ps_replaced_by (defScope (topS 1)) := ⟨rfl, rfl, rfl, by decide +kernel, by decide +kernel, by decide +kernel, by decide +kernel⟩
theorem cb_replaced_by : compSs (compS GIv nn_replaced_by (defScope (topS 1)) false 100) (defBody (topS 1)) = some b_replaced_by := by kernel_rfl
theorem sc_index_of : FnScope nn_index_of ps_index_of (defScope (topS 2)) := ⟨rfl, rfl, rfl, by decide +kernel, by decide +kernel, by decide +kernel, by decide +kernel⟩
theorem cb_index_of : compSs (compS GIv nn_index_of (defScope (topS 2)) false 100) (defBody (topS 2)) = some b_index_of := by kernel_rfl
theorem sc_there_are : FnScope nn_there_are ps_there_are (defScope (topS 3)) := ⟨rfl, rfl, rfl, by decide +kernel, by decide +kernel, by decide +kernel, by decide +kernel⟩
theorem cb_there_are : compSs (compS GIv nn_there_are (defScope (topS 3)) false 100) (defBody (topS 3)) = some b_there_are := by kernel_rfl
theorem sc_stands_by : FnScope nn_stands_by ps_stands_by (defScope (topS 4)) := ⟨rfl, rfl, rfl, by decide +kernel, by decide +kernel, by decide +kernel, by decide +kernel⟩
theorem cb_stands_by : compSs (compS GIv nn_stands_by (defScope (topS 4)) false 100) (defBody (topS 4)) = some b_stands_by := by kernel_rfl
theorem sc_holds_by : FnScope nn_holds_by ps_holds_by (defScope (topS 5)) := ⟨rfl, rfl, rfl, by decide +kernel, by decide +kernel, by decide +kernel, by decide +kernel⟩
theorem cb_holds_by : compSs (compS GIv nn_holds_by (defScope (topS 5)) false 100) (defBody (topS 5)) = some b_holds_by := by kernel_rfl
theorem sc__law_cell : FnScope nn__law_cell ps__law_cell (defScope (topS 7)) := ⟨rfl, rfl, rfl, by decide +kernel, by decide +kernel, by decide +kernel, by decide +kernel⟩
theorem cb__law_cell : compSs (compS GIv nn__law_cell (defScope (topS 7)) false 100) (defBody (topS 7)) = some b__law_cell := by kernel_rfl
theorem sc__law_stream : FnScope nn__law_stream ps__law_stream (defScope (topS 8)) := ⟨rfl, rfl, rfl, by decide +kernel, by decide +kernel, by decide +kernel, by decide +kernel⟩
theorem cb__law_stream : compSs (compS GIv nn__law_stream (defScope (topS 8)) true 100) (defBody (topS 8)) = some b__law_stream := by kernel_rfl
theorem sc__law_names : FnScope nn__law_names ps__law_names (defScope (topS 9)) := ⟨rfl, rfl, rfl, by decide +kernel, by decide +kernel, by decide +kernel, by decide +kernel⟩
theorem cb__law_names : compSs (compS GIv nn__law_names (defScope (topS 9)) true 100) (defBody (topS 9)) = some b__law_names := by kernel_rfl
theorem sc__law_constants : FnScope nn__law_constants ps__law_constants (defScope (topS 10)) := ⟨rfl, rfl, rfl, by decide +kernel, by decide +kernel, by decide +kernel, by decide +kernel⟩
theorem cb__law_constants : compSs (compS GIv nn__law_constants (defScope (topS 10)) true 100) (defBody (topS 10)) = some b__law_constants := by kernel_rfl
theorem sc__law_variables : FnScope nn__law_variables ps__law_variables (defScope (topS 11)) := ⟨rfl, rfl, rfl, by decide +kernel, by decide +kernel, by decide +kernel, by decide +kernel⟩
theorem cb__law_variables : compSs (compS GIv nn__law_variables (defScope (topS 11)) true 100) (defBody (topS 11)) = some b__law_variables := by kernel_rfl
theorem sc__law_all : FnScope nn__law_all ps__law_all (defScope (topS 12)) := ⟨rfl, rfl, rfl, by decide +kernel, by decide +kernel, by decide +kernel, by decide +kernel⟩
theorem cb__law_all : compSs (compS GIv nn__law_all (defScope (topS 12)) false 100) (defBody (topS 12)) = some b__law_all := by kernel_rfl
theorem sc__law_facts : FnScope nn__law_facts ps__law_facts (defScope (topS 13)) := ⟨rfl, rfl, rfl, by decide +kernel, by decide +kernel, by decide +kernel, by decide +kernel⟩
theorem cb__law_facts : compSs (compS GIv nn__law_facts (defScope (topS 13)) true 100) (defBody (topS 13)) = some b__law_facts := by kernel_rfl
theorem sc__law_term : FnScope nn__law_term ps__law_term (defScope (topS 14)) := ⟨rfl, rfl, rfl, by decide +kernel, by decide +kernel, by decide +kernel, by decide +kernel⟩
theorem cb__law_term : compSs (compS GIv nn__law_term (defScope (topS 14)) false 100) (defBody (topS 14)) = some b__law_term := by kernel_rfl
theorem sc__law_literal : FnScope nn__law_literal ps__law_literal (defScope (topS 15)) := ⟨rfl, rfl, rfl, by decide +kernel, by decide +kernel, by decide +kernel, by decide +kernel⟩
theorem cb__law_literal : compSs (compS GIv nn__law_literal (defScope (topS 15)) false 100) (defBody (topS 15)) = some b__law_literal := by kernel_rfl
theorem sc__law_body : FnScope nn__law_body ps__law_body (defScope (topS 16)) := ⟨rfl, rfl, rfl, by decide +kernel, by decide +kernel, by decide +kernel, by decide +kernel⟩
theorem cb__law_body : compSs (compS GIv nn__law_body (defScope (topS 16)) false 100) (defBody (topS 16)) = some b__law_body := by kernel_rfl
theorem sc__law_terms : FnScope nn__law_terms ps__law_terms (defScope (topS 17)) := ⟨rfl, rfl, rfl, by decide +kernel, by decide +kernel, by decide +kernel, by decide +kernel⟩
theorem cb__law_terms : compSs (compS GIv nn__law_terms (defScope (topS 17)) false 100) (defBody (topS 17)) = some b__law_terms := by kernel_rfl
theorem sc__law_stands : FnScope nn__law_stands ps__law_stands (defScope (topS 18)) := ⟨rfl, rfl, rfl, by decide +kernel, by decide +kernel, by decide +kernel, by decide +kernel⟩
theorem cb__law_stands : compSs (compS GIv nn__law_stands (defScope (topS 18)) false 100) (defBody (topS 18)) = some b__law_stands := by kernel_rfl
theorem sc__law_known : FnScope nn__law_known ps__law_known (defScope (topS 19)) := ⟨rfl, rfl, rfl, by decide +kernel, by decide +kernel, by decide +kernel, by decide +kernel⟩
theorem cb__law_known : compSs (compS GIv nn__law_known (defScope (topS 19)) false 100) (defBody (topS 19)) = some b__law_known := by kernel_rfl
theorem sc__law_binding : FnScope nn__law_binding ps__law_binding (defScope (topS 20)) := ⟨rfl, rfl, rfl, by decide +kernel, by decide +kernel, by decide +kernel, by decide +kernel⟩
theorem cb__law_binding : compSs (compS GIv nn__law_binding (defScope (topS 20)) true 100) (defBody (topS 20)) = some b__law_binding := by kernel_rfl
theorem sc_law : FnScope nn_law ps_law (defScope (topS 21)) := ⟨rfl, rfl, rfl, by decide +kernel, by decide +kernel, by decide +kernel, by decide +kernel⟩
theorem cb_law : compSs (compS GIv nn_law (defScope (topS 21)) false 100) (defBody (topS 21)) = some b_law := by kernel_rfl
theorem fns_tb : ∀ x fr ks, GIv.fns.lookup x = some (fr, ks) → ∃ fd, TB.find? (fun fd => fd.nm == x) = some fd ∧ fd.fr = fr ∧ fd.ks = ks := by
  intro x fr ks h
  have h1 := lookup_mem h
  have key : ∀ p ∈ GIv.fns, (match TB.find? (fun fd => fd.nm == p.1) with | some fd => decide (fd.fr = p.2.1) && decide (fd.ks = p.2.2) | none => false) = true := by decide +kernel
  have k1 := key _ h1
  dsimp only at k1
  split at k1
  · rename_i fd e
    rw [Bool.and_eq_true, decide_eq_true_eq, decide_eq_true_eq] at k1
    exact ⟨fd, e, k1.1, k1.2⟩
  · cases k1
set_option maxHeartbeats 0 in
theorem mod_ok {K : PySem.W.Frag} {h : Heap} {mg : Str → Option Value} {w : World} (X : K.In h) (G : h.Ns mainGlobals mg)
  {f0 f1 f2 f3 f4 f5 f6 f7 f8 f9 f10 f11 f12 f13 f14 f15 f16 f17 f18 f19 : Addr} {oc0 kV0 dc0 pm0 cd0 ct0 : Value} {od0 an0 : Option Addr} {sl0 : Array (Option Value)} {oc1 kV1 dc1 pm1 cd1 ct1 : Value} {od1 an1 : Option Addr} {sl1 : Array (Option Value)} {oc2 kV2 dc2 pm2 cd2 ct2 : Value} {od2 an2 : Option Addr} {sl2 : Array (Option Value)} {oc3 kV3 dc3 pm3 cd3 ct3 : Value} {od3 an3 : Option Addr} {sl3 : Array (Option Value)} {oc4 kV4 dc4 pm4 cd4 ct4 : Value} {od4 an4 : Option Addr} {sl4 : Array (Option Value)} {oc5 kV5 dc5 pm5 cd5 ct5 : Value} {od5 an5 : Option Addr} {sl5 : Array (Option Value)} {oc6 kV6 dc6 pm6 cd6 ct6 : Value} {od6 an6 : Option Addr} {sl6 : Array (Option Value)} {oc7 kV7 dc7 pm7 cd7 ct7 : Value} {od7 an7 : Option Addr} {sl7 : Array (Option Value)} {oc8 kV8 dc8 pm8 cd8 ct8 : Value} {od8 an8 : Option Addr} {sl8 : Array (Option Value)} {oc9 kV9 dc9 pm9 cd9 ct9 : Value} {od9 an9 : Option Addr} {sl9 : Array (Option Value)} {oc10 kV10 dc10 pm10 cd10 ct10 : Value} {od10 an10 : Option Addr} {sl10 : Array (Option Value)} {oc11 kV11 dc11 pm11 cd11 ct11 : Value} {od11 an11 : Option Addr} {sl11 : Array (Option Value)} {oc12 kV12 dc12 pm12 cd12 ct12 : Value} {od12 an12 : Option Addr} {sl12 : Array (Option Value)} {oc13 kV13 dc13 pm13 cd13 ct13 : Value} {od13 an13 : Option Addr} {sl13 : Array (Option Value)} {oc14 kV14 dc14 pm14 cd14 ct14 : Value} {od14 an14 : Option Addr} {sl14 : Array (Option Value)} {oc15 kV15 dc15 pm15 cd15 ct15 : Value} {od15 an15 : Option Addr} {sl15 : Array (Option Value)} {oc16 kV16 dc16 pm16 cd16 ct16 : Value} {od16 an16 : Option Addr} {sl16 : Array (Option Value)} {oc17 kV17 dc17 pm17 cd17 ct17 : Value} {od17 an17 : Option Addr} {sl17 : Array (Option Value)} {oc18 kV18 dc18 pm18 cd18 ct18 : Value} {od18 an18 : Option Addr} {sl18 : Array (Option Value)} {oc19 kV19 dc19 pm19 cd19 ct19 : Value} {od19 an19 : Option Addr} {sl19 : Array (Option Value)} 
  (a0 : PySem.W.nsIn K mainGlobals (Str.ofString "replaced_by") = some (some (.ref f0))) (l0 : K.lookup f0 = some ⟨oc0, od0, .func (PySem.W.fnOf (Str.ofString "replaced_by") (Str.ofString "replaced_by") (defArgs (topS 1)) (defBody (topS 1)) (defScope (topS 1)) .none kV0 dc0 pm0 an0 cd0 ct0), sl0⟩) (c0 : PySem.W.codeIn K cd0 (Str.ofString "replaced_by") = true) (k0 : PySem.W.keepIn K (.ref f0) = true)
  (a1 : PySem.W.nsIn K mainGlobals (Str.ofString "index_of") = some (some (.ref f1))) (l1 : K.lookup f1 = some ⟨oc1, od1, .func (PySem.W.fnOf (Str.ofString "index_of") (Str.ofString "index_of") (defArgs (topS 2)) (defBody (topS 2)) (defScope (topS 2)) .none kV1 dc1 pm1 an1 cd1 ct1), sl1⟩) (c1 : PySem.W.codeIn K cd1 (Str.ofString "index_of") = true) (k1 : PySem.W.keepIn K (.ref f1) = true)
  (a2 : PySem.W.nsIn K mainGlobals (Str.ofString "there_are") = some (some (.ref f2))) (l2 : K.lookup f2 = some ⟨oc2, od2, .func (PySem.W.fnOf (Str.ofString "there_are") (Str.ofString "there_are") (defArgs (topS 3)) (defBody (topS 3)) (defScope (topS 3)) .none kV2 dc2 pm2 an2 cd2 ct2), sl2⟩) (c2 : PySem.W.codeIn K cd2 (Str.ofString "there_are") = true) (k2 : PySem.W.keepIn K (.ref f2) = true)
  (a3 : PySem.W.nsIn K mainGlobals (Str.ofString "stands_by") = some (some (.ref f3))) (l3 : K.lookup f3 = some ⟨oc3, od3, .func (PySem.W.fnOf (Str.ofString "stands_by") (Str.ofString "stands_by") (defArgs (topS 4)) (defBody (topS 4)) (defScope (topS 4)) .none kV3 dc3 pm3 an3 cd3 ct3), sl3⟩) (c3 : PySem.W.codeIn K cd3 (Str.ofString "stands_by") = true) (k3 : PySem.W.keepIn K (.ref f3) = true)
  (a4 : PySem.W.nsIn K mainGlobals (Str.ofString "holds_by") = some (some (.ref f4))) (l4 : K.lookup f4 = some ⟨oc4, od4, .func (PySem.W.fnOf (Str.ofString "holds_by") (Str.ofString "holds_by") (defArgs (topS 5)) (defBody (topS 5)) (defScope (topS 5)) .none kV4 dc4 pm4 an4 cd4 ct4), sl4⟩) (c4 : PySem.W.codeIn K cd4 (Str.ofString "holds_by") = true) (k4 : PySem.W.keepIn K (.ref f4) = true)
  (a5 : PySem.W.nsIn K mainGlobals (Str.ofString "_law_cell") = some (some (.ref f5))) (l5 : K.lookup f5 = some ⟨oc5, od5, .func (PySem.W.fnOf (Str.ofString "_law_cell") (Str.ofString "_law_cell") (defArgs (topS 7)) (defBody (topS 7)) (defScope (topS 7)) .none kV5 dc5 pm5 an5 cd5 ct5), sl5⟩) (c5 : PySem.W.codeIn K cd5 (Str.ofString "_law_cell") = true) (k5 : PySem.W.keepIn K (.ref f5) = true)
  (a6 : PySem.W.nsIn K mainGlobals (Str.ofString "_law_stream") = some (some (.ref f6))) (l6 : K.lookup f6 = some ⟨oc6, od6, .func (PySem.W.fnOf (Str.ofString "_law_stream") (Str.ofString "_law_stream") (defArgs (topS 8)) (defBody (topS 8)) (defScope (topS 8)) .none kV6 dc6 pm6 an6 cd6 ct6), sl6⟩) (c6 : PySem.W.codeIn K cd6 (Str.ofString "_law_stream") = true) (k6 : PySem.W.keepIn K (.ref f6) = true)
  (a7 : PySem.W.nsIn K mainGlobals (Str.ofString "_law_names") = some (some (.ref f7))) (l7 : K.lookup f7 = some ⟨oc7, od7, .func (PySem.W.fnOf (Str.ofString "_law_names") (Str.ofString "_law_names") (defArgs (topS 9)) (defBody (topS 9)) (defScope (topS 9)) .none kV7 dc7 pm7 an7 cd7 ct7), sl7⟩) (c7 : PySem.W.codeIn K cd7 (Str.ofString "_law_names") = true) (k7 : PySem.W.keepIn K (.ref f7) = true)
  (a8 : PySem.W.nsIn K mainGlobals (Str.ofString "_law_constants") = some (some (.ref f8))) (l8 : K.lookup f8 = some ⟨oc8, od8, .func (PySem.W.fnOf (Str.ofString "_law_constants") (Str.ofString "_law_constants") (defArgs (topS 10)) (defBody (topS 10)) (defScope (topS 10)) .none kV8 dc8 pm8 an8 cd8 ct8), sl8⟩) (c8 : PySem.W.codeIn K cd8 (Str.ofString "_law_constants") = true) (k8 : PySem.W.keepIn K (.ref f8) = true)
  (a9 : PySem.W.nsIn K mainGlobals (Str.ofString "_law_variables") = some (some (.ref f9))) (l9 : K.lookup f9 = some ⟨oc9, od9, .func (PySem.W.fnOf (Str.ofString "_law_variables") (Str.ofString "_law_variables") (defArgs (topS 11)) (defBody (topS 11)) (defScope (topS 11)) .none kV9 dc9 pm9 an9 cd9 ct9), sl9⟩) (c9 : PySem.W.codeIn K cd9 (Str.ofString "_law_variables") = true) (k9 : PySem.W.keepIn K (.ref f9) = true)
  (a10 : PySem.W.nsIn K mainGlobals (Str.ofString "_law_all") = some (some (.ref f10))) (l10 : K.lookup f10 = some ⟨oc10, od10, .func (PySem.W.fnOf (Str.ofString "_law_all") (Str.ofString "_law_all") (defArgs (topS 12)) (defBody (topS 12)) (defScope (topS 12)) .none kV10 dc10 pm10 an10 cd10 ct10), sl10⟩) (c10 : PySem.W.codeIn K cd10 (Str.ofString "_law_all") = true) (k10 : PySem.W.keepIn K (.ref f10) = true)
  (a11 : PySem.W.nsIn K mainGlobals (Str.ofString "_law_facts") = some (some (.ref f11))) (l11 : K.lookup f11 = some ⟨oc11, od11, .func (PySem.W.fnOf (Str.ofString "_law_facts") (Str.ofString "_law_facts") (defArgs (topS 13)) (defBody (topS 13)) (defScope (topS 13)) .none kV11 dc11 pm11 an11 cd11 ct11), sl11⟩) (c11 : PySem.W.codeIn K cd11 (Str.ofString "_law_facts") = true) (k11 : PySem.W.keepIn K (.ref f11) = true)
  (a12 : PySem.W.nsIn K mainGlobals (Str.ofString "_law_term") = some (some (.ref f12))) (l12 : K.lookup f12 = some ⟨oc12, od12, .func (PySem.W.fnOf (Str.ofString "_law_term") (Str.ofString "_law_term") (defArgs (topS 14)) (defBody (topS 14)) (defScope (topS 14)) .none kV12 dc12 pm12 an12 cd12 ct12), sl12⟩) (c12 : PySem.W.codeIn K cd12 (Str.ofString "_law_term") = true) (k12 : PySem.W.keepIn K (.ref f12) = true)
  (a13 : PySem.W.nsIn K mainGlobals (Str.ofString "_law_literal") = some (some (.ref f13))) (l13 : K.lookup f13 = some ⟨oc13, od13, .func (PySem.W.fnOf (Str.ofString "_law_literal") (Str.ofString "_law_literal") (defArgs (topS 15)) (defBody (topS 15)) (defScope (topS 15)) .none kV13 dc13 pm13 an13 cd13 ct13), sl13⟩) (c13 : PySem.W.codeIn K cd13 (Str.ofString "_law_literal") = true) (k13 : PySem.W.keepIn K (.ref f13) = true)
  (a14 : PySem.W.nsIn K mainGlobals (Str.ofString "_law_body") = some (some (.ref f14))) (l14 : K.lookup f14 = some ⟨oc14, od14, .func (PySem.W.fnOf (Str.ofString "_law_body") (Str.ofString "_law_body") (defArgs (topS 16)) (defBody (topS 16)) (defScope (topS 16)) .none kV14 dc14 pm14 an14 cd14 ct14), sl14⟩) (c14 : PySem.W.codeIn K cd14 (Str.ofString "_law_body") = true) (k14 : PySem.W.keepIn K (.ref f14) = true)
  (a15 : PySem.W.nsIn K mainGlobals (Str.ofString "_law_terms") = some (some (.ref f15))) (l15 : K.lookup f15 = some ⟨oc15, od15, .func (PySem.W.fnOf (Str.ofString "_law_terms") (Str.ofString "_law_terms") (defArgs (topS 17)) (defBody (topS 17)) (defScope (topS 17)) .none kV15 dc15 pm15 an15 cd15 ct15), sl15⟩) (c15 : PySem.W.codeIn K cd15 (Str.ofString "_law_terms") = true) (k15 : PySem.W.keepIn K (.ref f15) = true)
  (a16 : PySem.W.nsIn K mainGlobals (Str.ofString "_law_stands") = some (some (.ref f16))) (l16 : K.lookup f16 = some ⟨oc16, od16, .func (PySem.W.fnOf (Str.ofString "_law_stands") (Str.ofString "_law_stands") (defArgs (topS 18)) (defBody (topS 18)) (defScope (topS 18)) .none kV16 dc16 pm16 an16 cd16 ct16), sl16⟩) (c16 : PySem.W.codeIn K cd16 (Str.ofString "_law_stands") = true) (k16 : PySem.W.keepIn K (.ref f16) = true)
  (a17 : PySem.W.nsIn K mainGlobals (Str.ofString "_law_known") = some (some (.ref f17))) (l17 : K.lookup f17 = some ⟨oc17, od17, .func (PySem.W.fnOf (Str.ofString "_law_known") (Str.ofString "_law_known") (defArgs (topS 19)) (defBody (topS 19)) (defScope (topS 19)) .none kV17 dc17 pm17 an17 cd17 ct17), sl17⟩) (c17 : PySem.W.codeIn K cd17 (Str.ofString "_law_known") = true) (k17 : PySem.W.keepIn K (.ref f17) = true)
  (a18 : PySem.W.nsIn K mainGlobals (Str.ofString "_law_binding") = some (some (.ref f18))) (l18 : K.lookup f18 = some ⟨oc18, od18, .func (PySem.W.fnOf (Str.ofString "_law_binding") (Str.ofString "_law_binding") (defArgs (topS 20)) (defBody (topS 20)) (defScope (topS 20)) .none kV18 dc18 pm18 an18 cd18 ct18), sl18⟩) (c18 : PySem.W.codeIn K cd18 (Str.ofString "_law_binding") = true) (k18 : PySem.W.keepIn K (.ref f18) = true)
  (a19 : PySem.W.nsIn K mainGlobals (Str.ofString "law") = some (some (.ref f19))) (l19 : K.lookup f19 = some ⟨oc19, od19, .func (PySem.W.fnOf (Str.ofString "law") (Str.ofString "law") (defArgs (topS 21)) (defBody (topS 21)) (defScope (topS 21)) .none kV19 dc19 pm19 an19 cd19 ct19), sl19⟩) (c19 : PySem.W.codeIn K cd19 (Str.ofString "law") = true) (k19 : PySem.W.keepIn K (.ref f19) = true)
  (z0 : PySem.W.nsIn K mainGlobals (Str.ofString "len") = some none)
  (z1 : PySem.W.nsIn K mainGlobals (Str.ofString "list") = some none)
  (z2 : PySem.W.nsIn K mainGlobals (Str.ofString "tuple") = some none)
  (z3 : PySem.W.nsIn K mainGlobals (Str.ofString "int") = some none)
  (z4 : PySem.W.nsIn K mainGlobals (Str.ofString "min") = some none)
  (z5 : PySem.W.nsIn K mainGlobals (Str.ofString "max") = some none)
  (z6 : PySem.W.nsIn K mainGlobals (Str.ofString "bool") = some none)
  (z7 : PySem.W.nsIn K mainGlobals (Str.ofString "dict") = some none)
  (z8 : PySem.W.nsIn K mainGlobals (Str.ofString "isinstance") = some none)
  (z9 : PySem.W.nsIn K mainGlobals (Str.ofString "range") = some none)
  (z10 : PySem.W.nsIn K mainGlobals (Str.ofString "zip") = some none) : ModOk K w mg TB GIv := by
  refine ⟨fun x d hx => ?_, fun t ht => ?_, fun x fr ks hx => ?_, fun fd hfd => ?_⟩
  · have := lookup_mem hx
    simp only [GIv, List.mem_cons, List.not_mem_nil, or_false, Prod.mk.injEq] at this
    
  · simp only [GIv, List.mem_cons, List.not_mem_nil, or_false] at ht
    rcases ht with rfl | rfl | rfl | rfl | rfl | rfl | rfl | rfl | rfl | rfl | rfl
    · exact PySem.W.mg_none_of X G z0
    · exact PySem.W.mg_none_of X G z1
    · exact PySem.W.mg_none_of X G z2
    · exact PySem.W.mg_none_of X G z3
    · exact PySem.W.mg_none_of X G z4
    · exact PySem.W.mg_none_of X G z5
    · exact PySem.W.mg_none_of X G z6
    · exact PySem.W.mg_none_of X G z7
    · exact PySem.W.mg_none_of X G z8
    · exact PySem.W.mg_none_of X G z9
    · exact PySem.W.mg_none_of X G z10
  · exact fns_tb x fr ks hx
  · simp only [TB, List.mem_cons, List.not_mem_nil, or_false] at hfd
    rcases hfd with rfl | rfl | rfl | rfl | rfl | rfl | rfl | rfl | rfl | rfl | rfl | rfl | rfl | rfl | rfl | rfl | rfl | rfl | rfl | rfl
    · exact ⟨⟨_, _, topS 1, Str.ofString "replaced_by", PySem.W.mg_of X G a0, fun_mk (st := topS 1) l0 c0 k0, sc_replaced_by, fun us hl => (match us, hl with | [_, _], _ => rfl), cb_replaced_by⟩, by decide +kernel, rfl⟩
    · exact ⟨⟨_, _, topS 2, Str.ofString "index_of", PySem.W.mg_of X G a1, fun_mk (st := topS 2) l1 c1 k1, sc_index_of, fun us hl => (match us, hl with | [_], _ => rfl), cb_index_of⟩, by decide +kernel, rfl⟩
    · exact ⟨⟨_, _, topS 3, Str.ofString "there_are", PySem.W.mg_of X G a2, fun_mk (st := topS 3) l2 c2 k2, sc_there_are, fun us hl => (match us, hl with | [_, _, _], _ => rfl), cb_there_are⟩, by decide +kernel, rfl⟩
    · exact ⟨⟨_, _, topS 4, Str.ofString "stands_by", PySem.W.mg_of X G a3, fun_mk (st := topS 4) l3 c3 k3, sc_stands_by, fun us hl => (match us, hl with | [_, _, _], _ => rfl), cb_stands_by⟩, by decide +kernel, rfl⟩
    · exact ⟨⟨_, _, topS 5, Str.ofString "holds_by", PySem.W.mg_of X G a4, fun_mk (st := topS 5) l4 c4 k4, sc_holds_by, fun us hl => (match us, hl with | [_, _, _], _ => rfl), cb_holds_by⟩, by decide +kernel, rfl⟩
    · exact ⟨⟨_, _, topS 7, Str.ofString "_law_cell", PySem.W.mg_of X G a5, fun_mk (st := topS 7) l5 c5 k5, sc__law_cell, fun us hl => (match us, hl with | [_, _], _ => rfl), cb__law_cell⟩, by decide +kernel, rfl⟩
    · exact ⟨⟨_, _, topS 8, Str.ofString "_law_stream", PySem.W.mg_of X G a6, fun_mk (st := topS 8) l6 c6 k6, sc__law_stream, fun us hl => (match us, hl with | [_, _], _ => rfl), cb__law_stream⟩, by decide +kernel, rfl⟩
    · exact ⟨⟨_, _, topS 9, Str.ofString "_law_names", PySem.W.mg_of X G a7, fun_mk (st := topS 9) l7 c7 k7, sc__law_names, fun us hl => (match us, hl with | [_, _], _ => rfl), cb__law_names⟩, by decide +kernel, rfl⟩
    · exact ⟨⟨_, _, topS 10, Str.ofString "_law_constants", PySem.W.mg_of X G a8, fun_mk (st := topS 10) l8 c8 k8, sc__law_constants, fun us hl => (match us, hl with | [_, _], _ => rfl), cb__law_constants⟩, by decide +kernel, rfl⟩
    · exact ⟨⟨_, _, topS 11, Str.ofString "_law_variables", PySem.W.mg_of X G a9, fun_mk (st := topS 11) l9 c9 k9, sc__law_variables, fun us hl => (match us, hl with | [_], _ => rfl), cb__law_variables⟩, by decide +kernel, rfl⟩
    · exact ⟨⟨_, _, topS 12, Str.ofString "_law_all", PySem.W.mg_of X G a10, fun_mk (st := topS 12) l10 c10 k10, sc__law_all, fun us hl => (match us, hl with | [_, _], _ => rfl), cb__law_all⟩, by decide +kernel, rfl⟩
    · exact ⟨⟨_, _, topS 13, Str.ofString "_law_facts", PySem.W.mg_of X G a11, fun_mk (st := topS 13) l11 c11 k11, sc__law_facts, fun us hl => (match us, hl with | [_, _, _, _], _ => rfl), cb__law_facts⟩, by decide +kernel, rfl⟩
    · exact ⟨⟨_, _, topS 14, Str.ofString "_law_term", PySem.W.mg_of X G a12, fun_mk (st := topS 14) l12 c12 k12, sc__law_term, fun us hl => (match us, hl with | [_, _, _], _ => rfl), cb__law_term⟩, by decide +kernel, rfl⟩
    · exact ⟨⟨_, _, topS 15, Str.ofString "_law_literal", PySem.W.mg_of X G a13, fun_mk (st := topS 15) l13 c13 k13, sc__law_literal, fun us hl => (match us, hl with | [_, _, _], _ => rfl), cb__law_literal⟩, by decide +kernel, rfl⟩
    · exact ⟨⟨_, _, topS 16, Str.ofString "_law_body", PySem.W.mg_of X G a14, fun_mk (st := topS 16) l14 c14 k14, sc__law_body, fun us hl => (match us, hl with | [_, _, _], _ => rfl), cb__law_body⟩, by decide +kernel, rfl⟩
    · exact ⟨⟨_, _, topS 17, Str.ofString "_law_terms", PySem.W.mg_of X G a15, fun_mk (st := topS 17) l15 c15 k15, sc__law_terms, fun us hl => (match us, hl with | [_], _ => rfl), cb__law_terms⟩, by decide +kernel, rfl⟩
    · exact ⟨⟨_, _, topS 18, Str.ofString "_law_stands", PySem.W.mg_of X G a16, fun_mk (st := topS 18) l16 c16 k16, sc__law_stands, fun us hl => (match us, hl with | [_, _, _], _ => rfl), cb__law_stands⟩, by decide +kernel, rfl⟩
    · exact ⟨⟨_, _, topS 19, Str.ofString "_law_known", PySem.W.mg_of X G a17, fun_mk (st := topS 19) l17 c17 k17, sc__law_known, fun us hl => (match us, hl with | [_, _], _ => rfl), cb__law_known⟩, by decide +kernel, rfl⟩
    · exact ⟨⟨_, _, topS 20, Str.ofString "_law_binding", PySem.W.mg_of X G a18, fun_mk (st := topS 20) l18 c18 k18, sc__law_binding, fun us hl => (match us, hl with | [_, _, _, _], _ => rfl), cb__law_binding⟩, by decide +kernel, rfl⟩
    · exact ⟨⟨_, _, topS 21, Str.ofString "law", PySem.W.mg_of X G a19, fun_mk (st := topS 21) l19 c19 k19, sc_law, fun us hl => (match us, hl with | [_], _ => rfl), cb_law⟩, by decide +kernel, rfl⟩
theorem find_law : TB.find? (fun fd => fd.nm == Str.ofString "law") = some f_law := by kernel_rfl
end DI
open PySem PySem.W PyProof.Rows
set_option maxHeartbeats 0 in
theorem PySem.Challenge.cw_reason_k12_holds_holds : PySem.Challenge.rw_reason_k12_holds.Holds := by
  w_on; o_law; k_head; (case hw => w_witness2)
  k_fill
  refine L2.walk_of (l := PySem.Challenge.rw_reason_k12_holds) (n := 63) (k := 2 * 16) (x := Str.ofString "_law_script") (CX := fun w => L2.CX (PySem.Challenge.rw_reason_k12_holds).prog w) (sp := fun w => DI.spL _) rfl (by decide) rfl ⟨rfl, by decide, by decide⟩ (fun w h Y => PySem.W.kIn_of Y) ?F (fun _ _ a ns hl _ hS => ⟨a, ns, rfl, hS, hl, fun _ => rfl⟩) (fun w H s e s' q => DI.cx_no q)
  case F =>
    intro w mg fa h KX G hmg
    refine DI.end_ok (T := DI.TB) (G := DI.GIv) (fd := DI.f_law) (k := 16) ?modok KX G hmg DI.find_law rfl rfl DI.law_true
    refine' DI.mod_ok KX G ?a0 ?l0 ?c0 ?k0 ?a1 ?l1 ?c1 ?k1 ?a2 ?l2 ?c2 ?k2 ?a3 ?l3 ?c3 ?k3 ?a4 ?l4 ?c4 ?k4 ?a5 ?l5 ?c5 ?k5 ?a6 ?l6 ?c6 ?k6 ?a7 ?l7 ?c7 ?k7 ?a8 ?l8 ?c8 ?k8 ?a9 ?l9 ?c9 ?k9 ?a10 ?l10 ?c10 ?k10 ?a11 ?l11 ?c11 ?k11 ?a12 ?l12 ?c12 ?k12 ?a13 ?l13 ?c13 ?k13 ?a14 ?l14 ?c14 ?k14 ?a15 ?l15 ?c15 ?k15 ?a16 ?l16 ?c16 ?k16 ?a17 ?l17 ?c17 ?k17 ?a18 ?l18 ?c18 ?k18 ?a19 ?l19 ?c19 ?k19 ?z0 ?z1 ?z2 ?z3 ?z4 ?z5 ?z6 ?z7 ?z8 ?z9 ?z10
    (case a0 => k_is); (case l0 => k_is); (case c0 => k_is); (case k0 => k_is); (case a1 => k_is); (case l1 => k_is); (case c1 => k_is); (case k1 => k_is); (case a2 => k_is); (case l2 => k_is); (case c2 => k_is); (case k2 => k_is); (case a3 => k_is); (case l3 => k_is); (case c3 => k_is); (case k3 => k_is); (case a4 => k_is); (case l4 => k_is); (case c4 => k_is); (case k4 => k_is); (case a5 => k_is); (case l5 => k_is); (case c5 => k_is); (case k5 => k_is); (case a6 => k_is); (case l6 => k_is); (case c6 => k_is); (case k6 => k_is); (case a7 => k_is); (case l7 => k_is); (case c7 => k_is); (case k7 => k_is); (case a8 => k_is); (case l8 => k_is); (case c8 => k_is); (case k8 => k_is); (case a9 => k_is); (case l9 => k_is); (case c9 => k_is); (case k9 => k_is); (case a10 => k_is); (case l10 => k_is); (case c10 => k_is); (case k10 => k_is); (case a11 => k_is); (case l11 => k_is); (case c11 => k_is); (case k11 => k_is); (case a12 => k_is); (case l12 => k_is); (case c12 => k_is); (case k12 => k_is); (case a13 => k_is); (case l13 => k_is); (case c13 => k_is); (case k13 => k_is); (case a14 => k_is); (case l14 => k_is); (case c14 => k_is); (case k14 => k_is); (case a15 => k_is); (case l15 => k_is); (case c15 => k_is); (case k15 => k_is); (case a16 => k_is); (case l16 => k_is); (case c16 => k_is); (case k16 => k_is); (case a17 => k_is); (case l17 => k_is); (case c17 => k_is); (case k17 => k_is); (case a18 => k_is); (case l18 => k_is); (case c18 => k_is); (case k18 => k_is); (case a19 => k_is); (case l19 => k_is); (case c19 => k_is); (case k19 => k_is); (case z0 => k_is); (case z1 => k_is); (case z2 => k_is); (case z3 => k_is); (case z4 => k_is); (case z5 => k_is); (case z6 => k_is); (case z7 => k_is); (case z8 => k_is); (case z9 => k_is); (case z10 => k_is)
