import PyProof.Rows.All
import Wide.All
import OpenK.AllK
import Wide.FinOn
import HandS.ForMost
import HandS.ForExc
import HandS.Wide
import HandS.Lambda
import HandS.EndTab
import HandS.Deep
import HandS.ExcCtx
import HandS.NoneIn
import HandS.Style
import HandS.IsInst
import HandS.HotCalls
import HandS.ExcIs
import HandS.Hot
import HandS.Defaults
import KE.KDictZip
import KE.GoesZip
import KE.GoesMore
import HandS.Zip
import HandS.Head0
import HandS.Head1
import HandS.Head2
import HandS.HeadEnd
import HandS.HeadHook1
import HandS.HeadHook2
import HandS.HeadHook3
import HandS.HeadHook4
import HandS.HeadWalk
import PySem.Challenge.RW_rimway_k30_ways_looked_at
set_option Elab.async false
set_option linter.all false
set_option maxRecDepth 100000
set_option maxHeartbeats 4000000
/-! Mini, part 1: results, heaps under a mask, data in a heap -/
namespace Mn
open PySem PySem.Spec PyProof.Rows L2

/-- what a piece of code comes to -/
inductive Rs (α : Type) where
  | ok (a : α)
  | exn (c : Nat)
  | no
namespace Rs
def bind {α β : Type} (r : Rs α) (f : α → Rs β) : Rs β := match r with
  | .ok a => f a
  | .exn c => .exn c
  | .no => .no
def post {α : Type} (r : Rs α) (q : α → Prop) (x : Nat → Prop) : Prop := match r with
  | .ok a => q a
  | .exn c => x c
  | .no => False
def ofO {α : Type} : Option α → Rs α
  | some a => .ok a
  | none => .no
theorem post_bind {α β : Type} {r : Rs α} {f : α → Rs β} {q : β → Prop} {x : Nat → Prop} : (r.bind f).post q x ↔ r.post (fun a => (f a).post q x) x := by
  cases r <;> exact Iff.rfl
theorem post_mono {α : Type} {r : Rs α} {q q' : α → Prop} {x x' : Nat → Prop} (h : r.post q x) (h1 : ∀ a, q a → q' a) (h2 : ∀ c, x c → x' c) : r.post q' x' := by
  cases r with
  | ok a => exact h1 a h
  | exn c => exact h2 c h
  | no => exact h
theorem post_ofO {α : Type} {o : Option α} {q : α → Prop} {x : Nat → Prop} (h : (ofO o).post q x) : ∃ a, o = some a ∧ q a := by
  cases o with
  | some a => exact ⟨a, rfl, h⟩
  | none => exact h.elim
@[simp] theorem bind_ok {α β : Type} (a : α) (f : α → Rs β) : (Rs.ok a).bind f = f a := rfl
@[simp] theorem bind_exn {α β : Type} (c : Nat) (f : α → Rs β) : (Rs.exn c).bind f = .exn c := rfl
@[simp] theorem bind_no {α β : Type} (f : α → Rs β) : (Rs.no).bind f = .no := rfl
@[simp] theorem ofO_some {α : Type} (a : α) : ofO (some a) = .ok a := rfl
@[simp] theorem ofO_none {α : Type} : ofO (none : Option α) = .no := rfl
end Rs

abbrev D := PyData

/-! ### heaps -/
/-- all but the tables stays -/
abbrev Ext (H H' : Hp) : Prop := LamX.ExtN H H'
theorem Ext.refl (H : Hp) : Ext H H := LamX.ExtN.refl H
theorem Ext.trans {H H1 H2 : Hp} (a : Ext H H1) (b : Ext H1 H2) : Ext H H2 := LamX.ExtN.trans a b
theorem Ext.new {H : Hp} {p : Addr} {o : HO} (h : H p = none) : Ext H (upd H p o) := fun a u e _ => by
  rw [upd_ne (ne_of_none e h)]
  exact e
def mask (H : Hp) (O : List Addr) : Hp := fun a => if a ∈ O then none else H a
theorem mask_in {H : Hp} {O : List Addr} {a : Addr} {o : HO} (h : mask H O a = some o) : a ∉ O ∧ H a = some o := by
  unfold mask at h
  split at h
  · cases h
  · exact ⟨‹_›, h⟩
theorem mask_of {H : Hp} {O : List Addr} {a : Addr} (h : a ∉ O) : mask H O a = H a := by
  unfold mask
  rw [if_neg h]
theorem Ext.mask {H H' : Hp} (e : Ext H H') (O : List Addr) : Ext (mask H O) (mask H' O) := fun b o h n => by
  obtain ⟨h1, h2⟩ := mask_in h
  rw [mask_of h1]
  exact e b o h2 n
theorem mask_le (H : Hp) (O : List Addr) : Ext (mask H O) H := fun b o h _ => (mask_in h).2
theorem mask_mono {H : Hp} {O O' : List Addr} (h : ∀ a ∈ O, a ∈ O') : Ext (mask H O') (mask H O) := fun b o q _ => by
  obtain ⟨h1, h2⟩ := mask_in q
  rw [mask_of fun z => h1 (h b z)]
  exact h2
def OIn (H : Hp) (O : List Addr) : Prop := ∀ p ∈ O, ∃ o, H p = some o ∧ ∀ ps, o ≠ .tbl ps
theorem OIn.ext {H H' : Hp} {O : List Addr} (h : OIn H O) (e : Ext H H') : OIn H' O := fun p hp => by
  obtain ⟨o, h1, h2⟩ := h p hp
  exact ⟨o, e p o h1 h2, h2⟩
theorem OIn.fresh {H : Hp} {O : List Addr} (h : OIn H O) {p : Addr} (hp : H p = none) : p ∉ O := fun z => by
  obtain ⟨o, h1, _⟩ := h p z
  rw [hp] at h1
  cases h1
theorem mask_new {H : Hp} {O : List Addr} (h : OIn H O) {p : Addr} (hp : H p = none) {o : HO} : mask (upd H p o) O p = some o := by
  rw [mask_of (h.fresh hp), upd_same]
theorem Rd.ext {H H' : Hp} {a : Addr} {u : HO} (e : Ext H H') (hu : ∀ ps, u ≠ .tbl ps) (h : Rd H a u) : Rd H' a u := by
  rcases h with h | ⟨o, h⟩
  · exact .inl (e a _ h hu)
  · exact .inr ⟨o, e a _ h (fun ps z => by cases z)⟩
theorem SqL.ext {K : PySem.W.Frag} {H H' : Hp} {a : Addr} {xs : List V} (e : Ext H H') (h : SqL K H a xs) : SqL K H' a xs := by
  rcases h with h | h
  · exact .inl (Rd.ext e (fun ps z => by cases z) h)
  · exact .inr h
theorem SqT.ext {K : PySem.W.Frag} {H H' : Hp} {a : Addr} {xs : List V} (e : Ext H H') (h : SqT K H a xs) : SqT K H' a xs := by
  rcases h with h | h
  · exact .inl (Rd.ext e (fun ps z => by cases z) h)
  · exact .inr h

/-! ### data in a heap -/
mutual
inductive Rp (K : PySem.W.Frag) (H : Hp) : V → D → Prop
  | non : Rp K H .non .none
  | bl (b : Bool) : Rp K H (.bl b) (.bool b)
  | int (i : Int) : Rp K H (.int i) (.int i)
  | str (x : Str) : Rp K H (.str x) (.str x)
  | lst {a : Addr} {xs : List V} {ds : List D} : Rd H a (.lst xs) → RpAll K H xs ds → Rp K H (.ref a) (.list ds)
  | tup {a : Addr} {xs : List V} {ds : List D} : SqT K H a xs → RpAll K H xs ds → Rp K H (.ref a) (.tuple ds)
  /-- the script: a list of ints that is read alone; told as a dict of its ints -/
  | scr {a : Addr} (ns : List Int) : SqL K H a (ns.map V.int) → Rp K H (.ref a) (.dict (ns.map fun n => (.int n, .none)))
inductive RpAll (K : PySem.W.Frag) (H : Hp) : List V → List D → Prop
  | nil : RpAll K H [] []
  | cons {v : V} {vs : List V} {d : D} {ds : List D} : Rp K H v d → RpAll K H vs ds → RpAll K H (v :: vs) (d :: ds)
end
mutual
theorem Rp.ext {K : PySem.W.Frag} {H H' : Hp} (e : Ext H H') : ∀ {v : V} {d : D}, Rp K H v d → Rp K H' v d
  | _, _, .non => .non
  | _, _, .bl b => .bl b
  | _, _, .int i => .int i
  | _, _, .str x => .str x
  | _, _, .lst h t => .lst (Rd.ext e (fun ps z => by cases z) h) (RpAll.ext e t)
  | _, _, .tup h t => .tup (SqT.ext e h) (RpAll.ext e t)
  | _, _, .scr ns h => .scr ns (SqL.ext e h)
theorem RpAll.ext {K : PySem.W.Frag} {H H' : Hp} (e : Ext H H') : ∀ {vs : List V} {ds : List D}, RpAll K H vs ds → RpAll K H' vs ds
  | _, _, .nil => .nil
  | _, _, .cons h t => .cons (Rp.ext e h) (RpAll.ext e t)
end
mutual
theorem Rp.dp {K : PySem.W.Frag} {H : Hp} : ∀ {v : V} {d : D}, Rp K H v d → d.canLay0 = true → Dp K H v d
  | _, _, .non, _ => .non
  | _, _, .bl b, _ => .bl b
  | _, _, .int i, _ => .int i
  | _, _, .str x, _ => .str x
  | _, _, .lst h t, c => .lst (.inl h) (RpAll.dp t (by simpa only [PyData.canLay0] using c))
  | _, _, .tup h t, c => .tup h (RpAll.dp t (by simpa only [PyData.canLay0] using c))
  | _, _, .scr ns h, c => by simp [PyData.canLay0] at c
theorem RpAll.dp {K : PySem.W.Frag} {H : Hp} : ∀ {vs : List V} {ds : List D}, RpAll K H vs ds → PyData.canLayAll0 ds = true → DpAll K H vs ds
  | _, _, .nil, _ => .nil
  | _, _, .cons h t, c => by
    simp only [PyData.canLayAll0, Bool.and_eq_true] at c
    exact .cons (Rp.dp h c.1) (RpAll.dp t c.2)
end
theorem ints_dp {K : PySem.W.Frag} {H : Hp} : ∀ ns : List Int, DpAll K H (ns.map V.int) (ns.map PyData.int)
  | [] => .nil
  | n :: ns => .cons (.int n) (ints_dp ns)
theorem ints_lay : ∀ ns : List Int, PyData.canLayAll0 (ns.map PyData.int) = true ∧ PyData.depthAll (ns.map PyData.int) = 0
  | [] => ⟨rfl, rfl⟩
  | n :: ns => by simp [PyData.canLayAll0, PyData.canLay0, PyData.depthAll, PyData.depth, ints_lay ns]
theorem ints_shaped (ns : List Int) : SeqAt.shaped (.list (ns.map PyData.int)) = true := by
  unfold SeqAt.shaped
  rw [PyData.canLay0, PyData.depth, (ints_lay ns).1, (ints_lay ns).2]
  rfl
theorem Rp.scr_of {K : PySem.W.Frag} {H : Hp} {v : V} {kvs : List (D × D)} (r : Rp K H v (.dict kvs)) : ∃ (a : Addr) (ns : List Int), v = .ref a ∧ kvs = ns.map (fun n => (PyData.int n, PyData.none)) ∧ SqL K H a (ns.map V.int) := by
  cases r with
  | scr ns h => exact ⟨_, ns, rfl, rfl, h⟩
section
variable {K : PySem.W.Frag} {H : Hp}
theorem RpAll.length : ∀ {vs : List V} {ds : List D}, RpAll K H vs ds → vs.length = ds.length
  | _, _, .nil => rfl
  | _, _, .cons _ t => congrArg (· + 1) (RpAll.length t)
theorem RpAll.append : ∀ {vs ws : List V} {ds es : List D}, RpAll K H vs ds → RpAll K H ws es → RpAll K H (vs ++ ws) (ds ++ es)
  | _, _, _, _, .nil, s => s
  | _, _, _, _, .cons h t, s => .cons h (RpAll.append t s)
theorem RpAll.get : ∀ {vs : List V} {ds : List D} {i : Nat} {d : D}, RpAll K H vs ds → ds[i]? = some d → ∃ v, vs[i]? = some v ∧ Rp K H v d
  | _, _, _, _, .nil, e => by simp at e
  | _, _, 0, _, .cons h _, e => by simp at e; subst e; exact ⟨_, rfl, h⟩
  | _, _, i + 1, d, .cons _ t, e => by
    obtain ⟨v, h1, h2⟩ := RpAll.get (i := i) (d := d) t (by simpa using e)
    exact ⟨v, by simpa using h1, h2⟩
theorem RpAll.getV : ∀ {vs : List V} {ds : List D} {i : Nat} {v : V}, RpAll K H vs ds → vs[i]? = some v → ∃ d, ds[i]? = some d ∧ Rp K H v d
  | _, _, _, _, .nil, e => by simp at e
  | _, _, 0, _, .cons h _, e => by simp at e; subst e; exact ⟨_, rfl, h⟩
  | _, _, i + 1, d, .cons _ t, e => by
    obtain ⟨v, h1, h2⟩ := RpAll.getV (i := i) (v := d) t (by simpa using e)
    exact ⟨v, by simpa using h1, h2⟩
theorem RpAll.drop : ∀ {vs : List V} {ds : List D} (n : Nat), RpAll K H vs ds → RpAll K H (vs.drop n) (ds.drop n)
  | _, _, 0, h => h
  | _, _, _ + 1, .nil => .nil
  | _, _, n + 1, .cons _ t => RpAll.drop n t
theorem RpAll.take : ∀ {vs : List V} {ds : List D} (n : Nat), RpAll K H vs ds → RpAll K H (vs.take n) (ds.take n)
  | _, _, 0, _ => .nil
  | _, _, _ + 1, .nil => .nil
  | _, _, n + 1, .cons h t => .cons h (RpAll.take n t)
theorem RpAll.reverse : ∀ {vs : List V} {ds : List D}, RpAll K H vs ds → RpAll K H vs.reverse ds.reverse
  | _, _, .nil => .nil
  | _, _, .cons h t => by
    rw [List.reverse_cons, List.reverse_cons]
    exact RpAll.append (RpAll.reverse t) (.cons h .nil)
theorem RpAll.rep {vs : List V} {ds : List D} (h : RpAll K H vs ds) : ∀ k : Nat, RpAll K H (List.replicate k vs).flatten (List.replicate k ds).flatten
  | 0 => .nil
  | k + 1 => by
    rw [List.replicate_succ, List.replicate_succ, List.flatten_cons, List.flatten_cons]
    exact RpAll.append h (RpAll.rep h k)
theorem RpAll.set : ∀ {vs : List V} {ds : List D} {v : V} {d : D} (i : Nat), RpAll K H vs ds → Rp K H v d → RpAll K H (vs.set i v) (ds.set i d)
  | _, _, _, _, _, .nil, _ => .nil
  | _, _, _, _, 0, .cons _ t, h => .cons h t
  | _, _, _, _, i + 1, .cons a t, h => .cons a (RpAll.set i t h)
theorem RpAll.dropLast {vs : List V} {ds : List D} (h : RpAll K H vs ds) : RpAll K H vs.dropLast ds.dropLast := by
  rw [List.dropLast_eq_take, List.dropLast_eq_take, h.length]
  exact h.take _
theorem RpAll.eraseIdx : ∀ {vs : List V} {ds : List D} (i : Nat), RpAll K H vs ds → RpAll K H (vs.eraseIdx i) (ds.eraseIdx i)
  | _, _, _, .nil => .nil
  | _, _, 0, .cons _ t => t
  | _, _, i + 1, .cons h t => .cons h (RpAll.eraseIdx i t)
theorem RpAll.bools : ∀ {vs : List V} {bs : List Bool}, RpAll K H vs (bs.map PyData.bool) → vs = bs.map V.bl
  | _, [], h => by cases h; rfl
  | _, b :: bs, h => by
    cases h with
    | cons h t =>
      cases h
      rw [RpAll.bools t]
      rfl
theorem RpAll.ints : ∀ {vs : List V} {ns : List Int}, RpAll K H vs (ns.map PyData.int) → vs = ns.map V.int
  | _, [], h => by cases h; rfl
  | _, b :: bs, h => by
    cases h with
    | cons h t =>
      cases h
      rw [RpAll.ints t]
      rfl
theorem RpAll.of_ints : ∀ ns : List Int, RpAll K H (ns.map V.int) (ns.map PyData.int)
  | [] => .nil
  | n :: ns => .cons (.int n) (RpAll.of_ints ns)
theorem atI_rel {vs : List V} {ds : List D} {i : Int} {d : D} (h : RpAll K H vs ds) (e : atI ds i = some d) : ∃ v, atI vs i = some v ∧ Rp K H v d := by
  unfold atI at e ⊢
  rw [h.length]
  cases q : ixN ds.length i with
  | none => rw [q] at e; cases e
  | some j =>
    rw [q] at e
    exact h.get (show ds[j]? = some d from e)
end
end Mn
/-! Mini, part 2: the terms, what they come to, and how a row's text is held against them -/
namespace Mn
open PySem PySem.Spec PyProof.Rows L2

inductive T where
  | name (i : Nat) | tup (ts : T) | nil | cons (t ts : T)
inductive B where
  | len | abs | int | max | min | any | all | sum | tuple | list
  deriving DecidableEq
inductive E where
  | var (i : Nat) | int (n : Int) | str (x : Str) | bl (b : Bool) | non | glob (k : Nat)
  | nil | cons (e es : E) | tup (es : E) | lst (es : E)
  | bin (op : Operator) (a b : E) | neg (a : E)
  | cmp (op : CmpOp) (a b : E) | chain (o1 o2 : CmpOp) (a b c : E) | isN (a : E) | notN (a : E)
  | and (a b : E) | or (a b : E) | not (a : E) | ite (c a b : E)
  | ix (a i : E) | sl (a lo hi : E) | rev (a : E)
  | call (f : Nat) (es : E) | bi (b : B) (es : E) | idx (a b : E)
  | isi (a : E) (t : Nat) | told (n : Nat) (a : E) | lzip (a b : E)
  | comp (own : List (Str × Nat)) (tg : T) (it c e : E)
  | iseq (a : E) | irange (es : E) | ienum (a : E) | izip (a b : E) | irev (a : E)
  | olen (i : Nat) | oix (i : Nat) (e : E) | oemp (i : Nat) (neg : Bool)
inductive S where
  | nil | cons (s ss : S)
  | asg (tg : T) (e : E) | par (i j : Nat) (a b : E)
  | own (i : Nat) (e : E) | frz (i : Nat)
  | app (i : Nat) (e : E) | extd (i : Nat) (e : E) | pop (i : Nat) | popTo (j i : Nat) | ins (i : Nat) (a e : E)
  | if_ (c : E) (a b : S) | for_ (tg : T) (it : E) (b : S) | while_ (c : E) (b : S)
  | ret (e : E) | raise (c : Nat) | exp (e : E) | brk | cont | pass

/-! ### what they come to -/
inductive Sl where
  | un | dt (d : D) | own (xs : List D)
abbrev En := List Sl
def lim : Nat := 1000000
structure G where
  fs : List (Nat × (List D → Rs D))
  cs : List D

def mulOk (i j : Int) : Bool := (decide (-(2 ^ 64) < i) && decide (i < 2 ^ 64)) || (decide (-(2 ^ 64) < j) && decide (j < 2 ^ 64)) || decide (i.natAbs.log2 + j.natAbs.log2 < 1000000)
def binD : Operator → D → D → Rs D
  | .Add, .int i, .int j => .ok (.int (i + j))
  | .Add, .list a, .list b => if a.length + b.length ≤ lim then .ok (.list (a ++ b)) else .no
  | .Add, .tuple a, .tuple b => if a.length + b.length ≤ lim ∧ a ≠ [] then .ok (.tuple (a ++ b)) else .no
  | .Sub, .int i, .int j => .ok (.int (i - j))
  | .Mult, .int i, .int j => if mulOk i j then .ok (.int (i * j)) else .no
  | .Mult, .list a, .int k => if a.length * k.toNat ≤ lim ∧ -(2 ^ 63) ≤ k ∧ k < 2 ^ 63 then .ok (.list (List.replicate k.toNat a).flatten) else .no
  | .FloorDiv, .int i, .int j => if 0 < j ∧ j.natAbs.log2 < 9000 then .ok (.int (i / j)) else .no
  | .Mod, .int i, .int j => if 0 < j then .ok (.int (i % j)) else .no
  | .Pow, .int i, .int j => if 0 ≤ j ∧ j ≤ 1000000 ∧ i.natAbs < 2 ^ 64 then .ok (.int (i ^ j.toNat)) else .no
  | .LShift, .int i, .int j => if 0 ≤ j ∧ j ≤ 1000000 ∧ i.natAbs < 2 ^ 64 then .ok (.int (i * 2 ^ j.toNat)) else .no
  | _, _, _ => .no
def shp (d : D) : Bool := SeqAt.shaped d
def cmpD : CmpOp → D → D → Rs D
  | .Eq, .dict kvs, .list [] => .ok (.bool kvs.isEmpty)
  | .Lt, .int i, .int j => .ok (.bool (decide (i < j)))
  | .LtE, .int i, .int j => .ok (.bool (decide (i ≤ j)))
  | .Gt, .int i, .int j => .ok (.bool (decide (j < i)))
  | .GtE, .int i, .int j => .ok (.bool (decide (j ≤ i)))
  | .Eq, x, y => if shp x && shp y then .ok (.bool (PyData.eqv x y)) else .no
  | .NotEq, x, y => if shp x && shp y then .ok (.bool (!PyData.eqv x y)) else .no
  | .In, x, .list ds => if shp x && shp (.list ds) then .ok (.bool (ds.any fun z => PyData.eqv z x)) else .no
  | .NotIn, x, .list ds => if shp x && shp (.list ds) then .ok (.bool (!ds.any fun z => PyData.eqv z x)) else .no
  | _, _, _ => .no
def boolsOf : List D → Option (List Bool)
  | [] => some []
  | .bool b :: r => (boolsOf r).map (b :: ·)
  | _ :: _ => none
def intsOf : List D → Option (List Int)
  | [] => some []
  | .int b :: r => (intsOf r).map (b :: ·)
  | _ :: _ => none
def biD : B → List D → Rs D
  | .len, [.list ds] => .ok (.int ds.length)
  | .len, [.tuple ds] => .ok (.int ds.length)
  | .len, [.dict kvs] => .ok (.int kvs.length)
  | .abs, [.int i] => .ok (.int (if i < 0 then -i else i))
  | .int, [.bool b] => .ok (.int (if b then 1 else 0))
  | .int, [.int i] => .ok (.int i)
  | .max, [.int i, .int j] => .ok (.int (if j > i then j else i))
  | .min, [.int i, .int j] => .ok (.int (if j < i then j else i))
  | .any, [.list ds] => match boolsOf ds with | some bs => .ok (.bool (bs.any id)) | none => .no
  | .all, [.list ds] => match boolsOf ds with | some bs => .ok (.bool (bs.all id)) | none => .no
  | .sum, [.list ds] => match intsOf ds with | some ns => .ok (.int ns.sum) | none => .no
  | .tuple, [.list ds] => .ok (.tuple ds)
  | .tuple, [.tuple ds] => .ok (.tuple ds)
  | .list, [.list ds] => .ok (.list ds)
  | .list, [.tuple ds] => .ok (.list ds)
  | _, _ => .no
def ixD : D → D → Rs D
  | .list ds, .int i => .ofO (atI ds i)
  | .tuple ds, .int i => .ofO (atI ds i)
  | .dict kvs, .int i => .ofO (atI (kvs.map (·.1)) i)
  | _, _ => .no
def cutD {α : Type} (xs : List α) (lo hi : Option Int) : List α := (xs.drop (HT.sIx xs.length 0 lo)).take (HT.sIx xs.length xs.length hi - HT.sIx xs.length 0 lo)
def slD : D → Option Int → Option Int → Rs D
  | .list ds, lo, hi => .ok (.list (cutD ds lo hi))
  | _, _, _ => .no
/-- the first place -/
def idxOf (x : D) : List D → Nat → Option Nat
  | [], _ => none
  | d :: ds, n => if PyData.eqv d x then some n else idxOf x ds (n + 1)
def isiD : Nat → D → Bool
  | 0, .bool _ => true
  | 1, .list _ => true
  | 1, .dict _ => true
  | 2, .tuple _ => true
  | 3, .str _ => true
  | _, _ => false
def isNone : D → Bool
  | .none => true
  | _ => false
def enumD : Nat → List D → List D
  | _, [] => []
  | n, d :: ds => .tuple [.int n, d] :: enumD (n + 1) ds
def rangeD (lo : Int) : Nat → List D
  | 0 => []
  | n + 1 => .int lo :: rangeD (lo + 1) n
mutual
def asgT : T → D → En → Option En
  | .name i, d, ρ => if i < ρ.length then some (ρ.set i (.dt d)) else none
  | .tup ts, .tuple ds, ρ => asgTs ts ds ρ
  | .tup _, _, _ => none
  | .nil, _, _ => none
  | .cons _ _, _, _ => none
def asgTs : T → List D → En → Option En
  | .nil, [], ρ => some ρ
  | .cons t ts, d :: ds, ρ => (asgT t d ρ).bind fun ρ' => asgTs ts ds ρ'
  | .nil, _ :: _, _ => none
  | .cons _ _, [], _ => none
  | .name _, _, _ => none
  | .tup _, _, _ => none
end
/-- a, b, .. = a list, at the top of a target -/
def asgL : T → D → En → Option En
  | .tup ts, .list ds, ρ => asgTs ts ds ρ
  | t, d, ρ => asgT t d ρ
def wipeE (ρ : En) : List Nat → En
  | [] => ρ
  | v :: vs => (wipeE ρ vs).set v .un
def compRun (as : D → Option En) (c e : En → Rs D) : List D → Rs (List D)
  | [] => .ok []
  | d :: ds => match as d with
    | none => .no
    | some ρ => match c ρ with
      | .ok (.bool true) => match e ρ with
        | .ok x => match compRun as c e ds with
          | .ok xs => .ok (x :: xs)
          | _ => .no
        | _ => .no
      | .ok (.bool false) => compRun as c e ds
      | _ => .no
def zipD : List D → List D → List D
  | a :: as, b :: bs => .tuple [a, b] :: zipD as bs
  | _, _ => []
/-- the words of the error classes -/
def wordsAll : List Str := [("BadReach" : Str), ("NoRoom" : Str), ("NoWall" : Str), ("TooMany" : Str), ("Nothing" : Str)]
def toldD (n : Nat) (r : Rs D) : Rs D := match r with
  | .ok d => .ok d
  | .exn j => (match (wordsAll.take n)[j]? with | some w => .ok (.str w) | none => .no)
  | .no => .no
mutual
def ev (Γ : G) : E → En → Rs D
  | .var i, ρ => match ρ[i]? with | some (.dt d) => .ok d | _ => .no
  | .int n, _ => .ok (.int n)
  | .str x, _ => .ok (.str x)
  | .bl b, _ => .ok (.bool b)
  | .non, _ => .ok .none
  | .glob k, _ => .ofO Γ.cs[k]?
  | .tup es, ρ => (evs Γ es ρ).bind fun ds => if ds.length ≤ lim then .ok (.tuple ds) else .no
  | .lst es, ρ => (evs Γ es ρ).bind fun ds => if ds.length ≤ lim then .ok (.list ds) else .no
  | .bin op a b, ρ => (ev Γ a ρ).bind fun x => (ev Γ b ρ).bind fun y => binD op x y
  | .neg a, ρ => (ev Γ a ρ).bind fun x => match x with | .int i => .ok (.int (-i)) | _ => .no
  | .cmp op a b, ρ => (ev Γ a ρ).bind fun x => (ev Γ b ρ).bind fun y => cmpD op x y
  | .chain o1 o2 a b c, ρ => (ev Γ a ρ).bind fun x => (ev Γ b ρ).bind fun y => (cmpD o1 x y).bind fun r => match r with
    | .bool true => (ev Γ c ρ).bind fun z => cmpD o2 y z
    | .bool false => .ok (.bool false)
    | _ => .no
  | .isN a, ρ => (ev Γ a ρ).bind fun x => .ok (.bool (isNone x))
  | .notN a, ρ => (ev Γ a ρ).bind fun x => .ok (.bool (!isNone x))
  | .and a b, ρ => (ev Γ a ρ).bind fun x => match x with | .bool true => ev Γ b ρ | .bool false => .ok (.bool false) | _ => .no
  | .or a b, ρ => (ev Γ a ρ).bind fun x => match x with | .bool true => .ok (.bool true) | .bool false => ev Γ b ρ | _ => .no
  | .not a, ρ => (ev Γ a ρ).bind fun x => match x with | .bool b => .ok (.bool (!b)) | _ => .no
  | .ite c a b, ρ => (ev Γ c ρ).bind fun x => match x with | .bool true => ev Γ a ρ | .bool false => ev Γ b ρ | _ => .no
  | .ix a i, ρ => (ev Γ a ρ).bind fun x => (ev Γ i ρ).bind fun y => ixD x y
  | .sl a lo hi, ρ => (ev Γ a ρ).bind fun x => (evO Γ lo ρ).bind fun l => (evO Γ hi ρ).bind fun h => slD x l h
  | .rev a, ρ => (ev Γ a ρ).bind fun x => match x with | .list ds => .ok (.list ds.reverse) | _ => .no
  | .call f es, ρ => match Γ.fs[f]? with | some g => ((evs Γ es ρ).bind fun ds => if ds.length = g.1 then g.2 ds else .no) | none => .no
  | .bi b es, ρ => (evs Γ es ρ).bind fun ds => biD b ds
  | .idx a b, ρ => (ev Γ a ρ).bind fun x => match x with
    | .list ds => ((ev Γ b ρ).bind fun y => if shp y && shp (.list ds) then (match idxOf y ds 0 with | some j => .ok (.int j) | none => .no) else .no)
    | _ => .no
  | .isi a t, ρ => (ev Γ a ρ).bind fun x => .ok (.bool (isiD t x))
  | .told n a, ρ => toldD n (ev Γ a ρ)
  | .lzip a b, ρ => (ev Γ a ρ).bind fun x => (ev Γ b ρ).bind fun y => match x, y with | .list ds, .list es => .ok (.list (zipD ds es)) | _, _ => .no
  | .comp own tg it c e, ρ => (evI Γ it ρ).bind fun ds => if ds.length ≤ lim then
      (compRun (fun d => asgT tg d (wipeE ρ (own.map (·.2)))) (fun ρ' => evC Γ c ρ') (fun ρ' => ev Γ e ρ') ds).bind fun xs => .ok (.list xs) else .no
  | .olen i, ρ => match ρ[i]? with | some (.own xs) => .ok (.int xs.length) | _ => .no
  | .oix i e, ρ => match ρ[i]? with | some (.own xs) => ((ev Γ e ρ).bind fun y => match y with | .int k => .ofO (atI xs k) | _ => .no) | _ => .no
  | .oemp i neg, ρ => match ρ[i]? with | some (.own xs) => if shp (.list xs) then .ok (.bool (if neg then !xs.isEmpty else xs.isEmpty)) else .no | _ => .no
  | .nil, _ => .no
  | .cons _ _, _ => .no
  | .iseq _, _ => .no
  | .irange _, _ => .no
  | .ienum _, _ => .no
  | .izip _ _, _ => .no
  | .irev _, _ => .no
def evs (Γ : G) : E → En → Rs (List D)
  | .nil, _ => .ok []
  | .cons e es, ρ => (ev Γ e ρ).bind fun x => (evs Γ es ρ).bind fun xs => .ok (x :: xs)
  | _, _ => .no
/-- a test that may be left out -/
def evC (Γ : G) : E → En → Rs D
  | .nil, _ => .ok (.bool true)
  | .cons e _, ρ => ev Γ e ρ
  | _, _ => .no
/-- a part of a slice -/
def evO (Γ : G) : E → En → Rs (Option Int)
  | .nil, _ => .ok none
  | .cons e _, ρ => (ev Γ e ρ).bind fun x => match x with | .int i => .ok (some i) | _ => .no
  | _, _ => .no
/-- what is walked -/
def evI (Γ : G) : E → En → Rs (List D)
  | .iseq a, ρ => (ev Γ a ρ).bind fun x => match x with | .list ds => .ok ds | .tuple ds => .ok ds | _ => .no
  | .irange es, ρ => (evs Γ es ρ).bind fun ds => match ds with
    | [.int j] => if -(2 ^ 62) ≤ j ∧ j < 2 ^ 62 then .ok (rangeD 0 j.toNat) else .no
    | [.int i, .int j] => if -(2 ^ 62) ≤ i ∧ i < 2 ^ 62 ∧ -(2 ^ 62) ≤ j ∧ j < 2 ^ 62 then .ok (rangeD i (j - i).toNat) else .no
    | _ => .no
  | .ienum a, ρ => (ev Γ a ρ).bind fun x => match x with | .list ds => .ok (enumD 0 ds) | _ => .no
  | .izip a b, ρ => (ev Γ a ρ).bind fun x => (ev Γ b ρ).bind fun y => match x, y with | .list ds, .list es => .ok (zipD ds es) | .tuple ds, .tuple es => .ok (zipD ds es) | _, _ => .no
  | .irev a, ρ => (ev Γ a ρ).bind fun x => match x with | .list ds => .ok ds.reverse | _ => .no
  | _, _ => .no
end

/-! ### statements -/
inductive Fl where
  | next (ρ : En) | ret (d : D) | brk (ρ : En) | cont (ρ : En) | exn (c : Nat) | no
def Rs.fl {α : Type} (r : Rs α) (f : α → Fl) : Fl := match r with
  | .ok a => f a
  | .exn c => .exn c
  | .no => .no
@[simp] theorem Rs.fl_ok {α : Type} (a : α) (f : α → Fl) : (Rs.ok a).fl f = f a := rfl
@[simp] theorem Rs.fl_exn {α : Type} (c : Nat) (f : α → Fl) : (Rs.exn c).fl f = .exn c := rfl
@[simp] theorem Rs.fl_no {α : Type} (f : α → Fl) : (Rs.no).fl f = .no := rfl
def Fl.seq (x : Fl) (f : En → Fl) : Fl := match x with
  | .next ρ => f ρ
  | .ret d => .ret d
  | .brk ρ => .brk ρ
  | .cont ρ => .cont ρ
  | .exn c => .exn c
  | .no => .no
@[simp] theorem Fl.seq_next (ρ : En) (f : En → Fl) : (Fl.next ρ).seq f = f ρ := rfl
@[simp] theorem Fl.seq_ret (d : D) (f : En → Fl) : (Fl.ret d).seq f = .ret d := rfl
@[simp] theorem Fl.seq_brk (ρ : En) (f : En → Fl) : (Fl.brk ρ).seq f = .brk ρ := rfl
@[simp] theorem Fl.seq_cont (ρ : En) (f : En → Fl) : (Fl.cont ρ).seq f = .cont ρ := rfl
@[simp] theorem Fl.seq_exn (c : Nat) (f : En → Fl) : (Fl.exn c).seq f = .exn c := rfl
@[simp] theorem Fl.seq_no (f : En → Fl) : (Fl.no).seq f = .no := rfl
def forRun (as : D → En → Option En) (b : En → Fl) : List D → En → Fl
  | [], ρ => .next ρ
  | d :: ds, ρ => match as d ρ with
    | none => .no
    | some ρ' => match b ρ' with
      | .next ρ2 => forRun as b ds ρ2
      | .cont ρ2 => forRun as b ds ρ2
      | .brk ρ2 => .next ρ2
      | .ret d => .ret d
      | .exn c => .exn c
      | .no => .no
def whileRun (c : En → Rs D) (b : En → Fl) : Nat → En → Fl
  | 0, _ => .no
  | n + 1, ρ => (c ρ).fl fun x => match x with
    | .bool true => (match b ρ with
      | .next ρ2 => whileRun c b n ρ2
      | .cont ρ2 => whileRun c b n ρ2
      | .brk ρ2 => .next ρ2
      | .ret d => .ret d
      | .exn c => .exn c
      | .no => .no)
    | .bool false => .next ρ
    | _ => .no
open Classical in
/-- a while comes to what some number of turns comes to -/
noncomputable def whileDen (c : En → Rs D) (b : En → Fl) (ρ : En) : Fl :=
  if h : ∃ n, whileRun c b n ρ ≠ .no then whileRun c b (Classical.choose h) ρ else .no
theorem whileRun_more {c : En → Rs D} {b : En → Fl} : ∀ {n : Nat} {ρ : En} {r : Fl}, whileRun c b n ρ = r → r ≠ .no → ∀ m, n ≤ m → whileRun c b m ρ = r
  | 0, _, _, h, hr, _, _ => absurd h.symm hr
  | n + 1, ρ, r, h, hr, 0, hm => absurd hm (by omega)
  | n + 1, ρ, r, h, hr, m + 1, hm => by
    unfold whileRun at h ⊢
    cases hc : c ρ with
    | exn x => rw [hc] at h; exact h
    | no => rw [hc] at h; exact h
    | ok x =>
      rw [hc] at h
      simp only [Rs.fl_ok] at h ⊢
      cases x with
      | bool t =>
        cases t with
        | false => exact h
        | true =>
          dsimp only at h ⊢
          cases hb : b ρ with
          | next ρ2 => rw [hb] at h; exact whileRun_more h hr m (by omega)
          | cont ρ2 => rw [hb] at h; exact whileRun_more h hr m (by omega)
          | brk ρ2 => rw [hb] at h; exact h
          | ret d => rw [hb] at h; exact h
          | exn d => rw [hb] at h; exact h
          | no => rw [hb] at h; exact h
      | _ => exact h
theorem whileDen_of {c : En → Rs D} {b : En → Fl} {n : Nat} {ρ : En} {r : Fl} (h : whileRun c b n ρ = r) (hr : r ≠ .no) : whileDen c b ρ = r := by
  have hx : ∃ n, whileRun c b n ρ ≠ .no := ⟨n, by rw [h]; exact hr⟩
  unfold whileDen
  rw [dif_pos hx]
  have hm := Classical.choose_spec hx
  have e1 := whileRun_more (n := n) h hr (max n (Classical.choose hx)) (Nat.le_max_left _ _)
  have e2 := whileRun_more (n := Classical.choose hx) rfl hm (max n (Classical.choose hx)) (Nat.le_max_right _ _)
  rw [← e2, e1]
theorem whileDen_run {c : En → Rs D} {b : En → Fl} {ρ : En} (h : whileDen c b ρ ≠ .no) : ∃ n, whileRun c b n ρ = whileDen c b ρ := by
  unfold whileDen at h ⊢
  split at h
  · rename_i hx
    rw [dif_pos hx]
    exact ⟨_, rfl⟩
  · exact absurd rfl h

noncomputable def ex (Γ : G) : S → En → Fl
  | .nil, ρ => .next ρ
  | .cons s ss, ρ => (ex Γ s ρ).seq fun ρ' => ex Γ ss ρ'
  | .asg tg e, ρ => (ev Γ e ρ).fl fun d => match asgL tg d ρ with | some ρ' => .next ρ' | none => .no
  | .par i j a b, ρ => (ev Γ a ρ).fl fun x => (ev Γ b ρ).fl fun y => if i < ρ.length ∧ j < ρ.length then .next ((ρ.set i (.dt x)).set j (.dt y)) else .no
  | .own i e, ρ => (ev Γ e ρ).fl fun d => match d with | .list xs => (if i < ρ.length then .next (ρ.set i (.own xs)) else .no) | _ => .no
  | .frz i, ρ => match ρ[i]? with | some (.own xs) => .next (ρ.set i (.dt (.list xs))) | _ => .next ρ
  | .app i e, ρ => match ρ[i]? with | some (.own xs) => ((ev Γ e ρ).fl fun d => if xs.length < lim then .next (ρ.set i (.own (xs ++ [d]))) else .no) | _ => .no
  | .extd i e, ρ => match ρ[i]? with | some (.own xs) => ((ev Γ e ρ).fl fun d => match d with | .list ds => (if xs.length + ds.length ≤ lim then .next (ρ.set i (.own (xs ++ ds))) else .no) | _ => .no) | _ => .no
  | .pop i, ρ => match ρ[i]? with | some (.own xs) => (if xs = [] then .no else .next (ρ.set i (.own xs.dropLast))) | _ => .no
  | .popTo j i, ρ => match ρ[i]? with
    | some (.own xs) => (match xs.getLast? with | some d => (if j < ρ.length ∧ i ≠ j then .next ((ρ.set i (.own xs.dropLast)).set j (.dt d)) else .no) | none => .no)
    | _ => .no
  | .ins i a e, ρ => .no
  | .if_ c a b, ρ => (ev Γ c ρ).fl fun x => match x with | .bool true => ex Γ a ρ | .bool false => ex Γ b ρ | _ => .no
  | .for_ tg it b, ρ => (evI Γ it ρ).fl fun ds => forRun (fun d ρ' => asgT tg d ρ') (fun ρ' => ex Γ b ρ') ds ρ
  | .while_ c b, ρ => whileDen (fun ρ' => ev Γ c ρ') (fun ρ' => ex Γ b ρ') ρ
  | .ret e, ρ => (ev Γ e ρ).fl fun d => .ret d
  | .raise c, _ => .exn c
  | .exp e, ρ => (ev Γ e ρ).fl fun _ => .next ρ
  | .brk, ρ => .brk ρ
  | .cont, ρ => .cont ρ
  | .pass, ρ => .next ρ

/-- a def: its parameters come first among n names -/
noncomputable def runDef (Γ : G) (n : Nat) (b : S) (ds : List D) : Rs D :=
  match ex Γ b (ds.map Sl.dt ++ List.replicate (n - ds.length) Sl.un) with
  | .next _ => .ok .none
  | .ret d => .ok d
  | .exn c => .exn c
  | _ => .no
end Mn
/-! Mini, part 3: readings, operators -/
namespace Mn
open PySem PySem.Spec PyProof.Rows L2 LamX

def SlOk (K : PySem.W.Frag) (O : List Addr) (H : Hp) (x : Option V) : Sl → Prop
  | .un => True
  | .dt d => ∃ v, x = some v ∧ Rp K (mask H O) v d
  | .own xs => ∃ p vs, x = some (.ref p) ∧ p ∈ O ∧ H p = some (.lst vs) ∧ RpAll K (mask H O) vs xs
structure EnOk (K : PySem.W.Frag) (T : List (Addr × Str)) (O : List Addr) (H : Hp) (σ : L2.St) (ρ : En) : Prop where
  len : σ.length = ρ.length
  at_ : ∀ (i : Nat) (s : Sl), ρ[i]? = some s → ∃ o, σ[i]? = some o ∧ SlOk K O H o s
  dis : ∀ (i j : Nat) (xs ys : List D), i ≠ j → ρ[i]? = some (.own xs) → ρ[j]? = some (.own ys) → σ[i]? ≠ σ[j]?
  oin : OIn H O
  tabs : Tabs T H
theorem SlOk.ext {K : PySem.W.Frag} {O : List Addr} {H H' : Hp} {x : Option V} (e : Ext H H') : ∀ {s : Sl}, SlOk K O H x s → SlOk K O H' x s
  | .un, _ => True.intro
  | .dt _, ⟨v, h1, h2⟩ => ⟨v, h1, h2.ext (e.mask O)⟩
  | .own _, ⟨p, vs, h1, h2, h3, h4⟩ => ⟨p, vs, h1, h2, e p _ h3 (fun ps z => by cases z), h4.ext (e.mask O)⟩
theorem EnOk.ext {K : PySem.W.Frag} {T : List (Addr × Str)} {O : List Addr} {H H' : Hp} {σ : L2.St} {ρ : En} (en : EnOk K T O H σ ρ) (e : Ext H H') (t : Tabs T H') : EnOk K T O H' σ ρ :=
  ⟨en.len, fun i s h => let ⟨o, h1, h2⟩ := en.at_ i s h; ⟨o, h1, h2.ext e⟩, en.dis, en.oin.ext e, t⟩
theorem Tabs.new {T : List (Addr × Str)} {H : Hp} {p : Addr} {o : HO} (t : Tabs T H) (h : H p = none) : Tabs T (upd H p o) := t.ext fun b u e => by
  rw [upd_ne (ne_of_none e h)]
  exact e

theorem _root_.L2.PE.imp {X : Cx} {e : Expr} {t t' : TE} (h : PE X e t) (k : ∀ σ H Q, t' σ H Q → t σ H Q) : PE X e t' := ⟨fun pins s σ H Q I q => h.run pins s σ H Q I (k σ H Q q)⟩
theorem _root_.L2.PT.imp {X : Cx} {e : Expr} {t t' : TT} (h : PT X e t) (k : ∀ σ H Q, t' σ H Q → t σ H Q) : PT X e t' := ⟨fun pins s σ H Q I q => h.run pins s σ H Q I (k σ H Q q)⟩
theorem _root_.L2.PW.imp {X : Cx} {e : Expr} {t t' : TT} (h : PW X e t) (k : ∀ σ H Q, t' σ H Q → t σ H Q) : PW X e t' := ⟨fun wh pins s σ H Q I q => h.run wh pins s σ H Q I (k σ H Q q)⟩
theorem _root_.L2.PA.imp {X : Cx} {e : List Expr} {t t' : TA} (h : PA X e t) (k : ∀ σ H Q, t' σ H Q → t σ H Q) : PA X e t' := ⟨fun pos pins s σ H Q I q => h.run pos pins s σ H Q I (k σ H Q q)⟩
theorem _root_.L2.PI.imp {X : Cx} {tg e : Expr} {t t' : TI} (h : PI X tg e t) (k : ∀ σ H Q, t' σ H Q → t σ H Q) : PI X tg e t' := ⟨fun pins s σ H Q I q => h.run pins s σ H Q I (k σ H Q q)⟩
theorem _root_.L2.PG.imp {X : Cx} {tg : Expr} {t t' : TG} (h : PG X tg t) (k : ∀ v σ H Q, t' v σ H Q → t v σ H Q) : PG X tg t' := ⟨fun pins s σ H v u Q I r q => h.run pins s σ H v u Q I r (k v σ H Q q)⟩
theorem _root_.L2.PGs.imp {X : Cx} {tg : List Expr} {t t' : TGs} (h : PGs X tg t) (k : ∀ v σ H Q, t' v σ H Q → t v σ H Q) : PGs X tg t' := ⟨fun pins s σ H v u Q I r q => h.run pins s σ H v u Q I r (k v σ H Q q)⟩
theorem _root_.L2.PS.imp {X : Cx} {e : Stmt} {t t' : TS} (h : PS X e t) (k : ∀ D σ H, t' D σ H → t D σ H) : PS X e t' := ⟨fun pins s σ H D I q => h.run pins s σ H D I (k D σ H q)⟩
theorem _root_.L2.PSs.imp {X : Cx} {e : List Stmt} {t t' : TS} (h : PSs X e t) (k : ∀ D σ H, t' D σ H → t D σ H) : PSs X e t' := ⟨fun pins s σ H D I q => h.run pins s σ H D I (k D σ H q)⟩

/-! ### a step on values: from a heap H on -/
/-- what is wanted of a value d that comes of H under O; of a raise -/
abbrev Wv (K : PySem.W.Frag) (T : List (Addr × Str)) (O : List Addr) (H : Hp) (Q : VK) (d : D) : Prop := ∀ v H', Ext H H' → Tabs T H' → Rp K (mask H' O) v d → Q v H'
abbrev Wx (T : List (Addr × Str)) (cl : Nat → Addr) (Ew : XK) (H : Hp) (c : Nat) : Prop := ∀ H', Ext H H' → Tabs T H' → Ew (.ref (cl c)) none H'
theorem Wv.from {K : PySem.W.Frag} {T : List (Addr × Str)} {O : List Addr} {H H1 : Hp} {Q : VK} {d : D} (h : Wv K T O H Q d) (e : Ext H H1) : Wv K T O H1 Q d := fun v H' e' t r => h v H' (e.trans e') t r
theorem Wx.from {T : List (Addr × Str)} {cl : Nat → Addr} {Ew : XK} {H H1 : Hp} {c : Nat} (h : Wx T cl Ew H c) (e : Ext H H1) : Wx T cl Ew H1 c := fun H' e' t => h H' (e.trans e') t

section ops
variable {K : PySem.W.Frag} {T : List (Addr × Str)} {O : List Addr} {H : Hp} {Q : VK} {x : Nat → Prop}
/-- a new list | tuple with known items -/
theorem Wv.lst {ds : List D} {vs : List V} (h : Wv K T O H Q (.list ds)) (oin : OIn H O) (t : Tabs T H) (r : RpAll K (mask H O) vs ds) {p : Addr} (hp : H p = none) : Q (.ref p) (upd H p (.lst vs)) :=
  h _ _ (Ext.new hp) (Tabs.new t hp) (.lst (.inl (mask_new oin hp)) (r.ext ((Ext.new hp).mask O)))
theorem Wv.tup {ds : List D} {vs : List V} (h : Wv K T O H Q (.tuple ds)) (oin : OIn H O) (t : Tabs T H) (r : RpAll K (mask H O) vs ds) {p : Addr} (hp : H p = none) : Q (.ref p) (upd H p (.tup vs)) :=
  h _ _ (Ext.new hp) (Tabs.new t hp) (.tup (.inl (.inl (mask_new oin hp))) (r.ext ((Ext.new hp).mask O)))
theorem Wv.int {i : Int} (h : Wv K T O H Q (.int i)) (t : Tabs T H) : Q (.int i) H := h _ _ (Ext.refl H) t (.int i)
theorem Wv.bool {b : Bool} (h : Wv K T O H Q (.bool b)) (t : Tabs T H) : Q (.bl b) H := h _ _ (Ext.refl H) t (.bl b)

/-- lists that may be read: tracked or frozen -/
def rCatR : R2 := fun x y H Q => ∃ l b xs zs, x = .ref l ∧ y = .ref b ∧ Rd H l (.lst xs) ∧ Rd H b (.lst zs) ∧ xs.length + zs.length ≤ sizeLine ∧ ∀ p, H p = none → Q (.ref p) (upd H p (.lst (xs ++ zs)))
theorem rd_lstM {X : Cx} {pins : List (Addr × Obj)} {s : Shared} {σ : L2.St} {H : Hp} {l : Addr} {xs : List V} (I : Inv X pins σ H s) (hH : Rd H l (.lst xs)) : xs.length ≤ sizeLine ∧ ∃ (its : List Value) (n : Nat), Vals xs its ∧ xs.length = its.length ∧ s.heap.get? l = some { cls := .type "list", data := .seq its.toArray n } := by
  obtain ⟨z, its, n, r, e⟩ := hH.ok I.hok
  exact ⟨z, its, n, r, r.length, e⟩
theorem op_catR {X : Cx} : OpR X (binaryOp .Add) rCatR := by
  intro pins s σ H x y v u Q I rx ry h
  obtain ⟨l, b, xs, zs, rfl, rfl, hH, hB, hz, q⟩ := h
  cases rx
  cases ry
  obtain ⟨z, its, n, r, hl, e⟩ := rd_lstM I hH
  obtain ⟨z2, its2, n2, r2, hl2, e2⟩ := rd_lstM I hB
  refine PySem.P.add_list e e2 ?_ (by rw [List.size_toArray, List.size_toArray]; omega)
  have ea : its.toArray ++ its2.toArray = (its ++ its2).toArray := by simp
  rw [ea]
  exact ⟨.ref _, _, I.lnew (t' := s.toks) (r.append r2) (by rw [List.length_append]; omega), rfl, q _ I.fresh⟩
def rRepR : R2 := fun x y H Q => ∃ l k xs, x = .ref l ∧ y = .int k ∧ Rd H l (.lst xs) ∧ -(2 ^ 63) ≤ k ∧ k < 2 ^ 63 ∧ xs.length * k.toNat ≤ sizeLine ∧
  ∀ p, H p = none → Q (.ref p) (upd H p (.lst (List.replicate k.toNat xs).flatten))
theorem op_repR {X : Cx} : OpR X (binaryOp .Mult) rRepR := by
  intro pins s σ H x y v u Q I rx ry h
  obtain ⟨l, k, xs, rfl, rfl, hH, h1, h2, hz, q⟩ := h
  cases rx
  obtain ⟨t, rfl⟩ := ry
  obtain ⟨z, its, n, r, hl, e⟩ := rd_lstM I hH
  have hlen : its.toArray.size * k.toNat ≤ sizeLine := by rw [List.size_toArray, ← hl]; exact hz
  have hcap : ¬ its.toArray.size * k.toNat > (2 ^ 63 - 1) / 8 := by
    have : (sizeLine : Nat) ≤ (2 ^ 63 - 1) / 8 := by decide
    omega
  have hfit : ¬ (!Builtin.List.listFitsIndex k) = true := by
    rw [fitsIndex_both h1 h2]
    exact Bool.false_ne_true
  have hlong : ¬ Builtin.List.listTooLong (its.toArray.size * k.toNat) = true := by
    rw [notLongL hlen]
    exact Bool.false_ne_true
  have hnew : List.foldl (fun x1 x2 => x1 ++ x2) #[] (List.replicate (if its.toArray.isEmpty = true then 0 else k.toNat) its.toArray) = (List.replicate k.toNat its).flatten.toArray := by
    have f0 : ∀ m : Nat, List.foldl (fun x1 x2 => x1 ++ x2) #[] (List.replicate m its.toArray) = (List.replicate m its).flatten.toArray := fun m => by
      have := foldl_rep its m []
      rw [List.nil_append] at this
      exact this
    rw [f0]
    cases its with
    | nil => simp
    | cons a r' => rw [if_neg (by simp)]
  refine wpAny_binaryOp_repeat_ref (T := "list") (U := "int") (by decide) ⟨_, e, rfl⟩ (fun s' => typeIs_int s' k t) noFill_list_mul F.fills_int_mul F.slot_int_rmul repeat_list F.slot_int_index.lookup
    (call_meets F.slot_int_rmul (typeIs_int s k t) F.entry_int_rmul (F.args_int_rmul_2 _ _) (int___rmul___int_list k t l its.toArray n)
      ⟨e, rfl, ⟨_, e, rfl⟩, call_meets F.slot_list_mul ⟨_, e, rfl⟩ F.entry_list_mul (F.args_list_mul_2 _ _) (AutoListH.list___mul___list_int_3 l its.toArray n k t hfit hcap hlong) ⟨e, ?_⟩⟩)
  rw [hnew]
  exact ⟨.ref _, _, I.lnew (t' := s.toks) (r.rep k.toNat) (by rw [PyProof.Rows.lm_len_rep_flat, Nat.mul_comm]; exact hz), rfl, q _ I.fresh⟩

def CMulB (i j : Int) : Prop := mulOk i j = true
theorem CMulB.ok {i j : Int} (h : CMulB i j) : IntMulOk i j := by
  unfold CMulB mulOk at h
  simp only [Bool.or_eq_true, Bool.and_eq_true, decide_eq_true_eq] at h
  rcases h with (⟨h1, h2⟩ | ⟨h1, h2⟩) | h
  · exact .of_left (intBits_le_64 h1 h2)
  · exact .of_right (intBits_le_64 h1 h2)
  · exact CMulW.ok h
theorem op_mulB {X : Cx} : OpR X (binaryOp .Mult) (rI CMulB fun i j => .int (i * j)) := opI fun _ _ _ _ _ _ _ hc q => mul_int q hc.ok

def rNo : R2 := fun _ _ _ _ => False
theorem op_no {X : Cx} {f : Value → Value → Sem Value} : OpR X f rNo := fun _ _ _ _ _ _ _ _ _ _ _ _ h => h.elim
def rBin (K : PySem.W.Frag) : Operator → R2
  | .Add => fun x y H Q => rI0 (fun i j => .int (i + j)) x y H Q ∨ rCatR x y H Q ∨ rCatT K x y H Q
  | .Sub => rI0 fun i j => .int (i - j)
  | .Mult => fun x y H Q => rI CMulB (fun i j => .int (i * j)) x y H Q ∨ rRepR x y H Q
  | .FloorDiv => rI CDivW fun i j => .int (i / j)
  | .Mod => rI (fun _ j => 0 < j) fun i j => .int (i % j)
  | .Pow => rI CPow fun i j => .int (i ^ j.toNat)
  | .LShift => rI CPow fun i j => .int (i * 2 ^ j.toNat)
  | _ => rNo
theorem op_bin {X : Cx} : ∀ op, OpR X (binaryOp op) (rBin X.K op)
  | .Add => op_add.or (op_catR.or op_catT)
  | .Sub => op_sub
  | .Mult => op_mulB.or op_repR
  | .FloorDiv => op_fdivW
  | .Mod => op_mod
  | .Pow => op_pow
  | .LShift => op_shl
  | .MatMult => op_no
  | .Div => op_no
  | .RShift => op_no
  | .BitOr => op_no
  | .BitXor => op_no
  | .BitAnd => op_no
theorem lim_size {n : Nat} (h : n ≤ lim) : n ≤ sizeLine := Nat.le_trans h (by decide)
theorem lim_lt {n : Nat} (h : n < lim) : n < sizeLine := Nat.lt_of_lt_of_le h (by decide)
theorem rBin_of {op : Operator} {a b : D} {v w : V} (oin : OIn H O) (t : Tabs T H) (ra : Rp K (mask H O) v a) (rb : Rp K (mask H O) w b) (h : (binD op a b).post (Wv K T O H Q) x) : rBin K op v w H Q := by
  have le := mask_le H O
  unfold binD at h
  split at h
  · cases ra; cases rb; exact .inl ⟨_, _, rfl, rfl, h.int t⟩
  · rename_i xs ys
    split at h
    · rename_i hl
      cases ra with
      | lst h1 r1 =>
        cases rb with
        | lst h2 r2 =>
          exact .inr (.inl ⟨_, _, _, _, rfl, rfl, Rd.ext le (fun _ z => by cases z) h1, Rd.ext le (fun _ z => by cases z) h2, lim_size (by rw [r1.length, r2.length]; exact hl), fun p hp => Wv.lst h oin t (r1.append r2) hp⟩)
    · exact h.elim
  · rename_i xs ys
    split at h
    · rename_i hl
      obtain ⟨hl, hne⟩ := hl
      cases ra with
      | tup h1 r1 =>
        cases rb with
        | tup h2 r2 =>
          refine .inr (.inr ⟨_, _, _, _, rfl, rfl, SqT.ext le h1, SqT.ext le h2, ?_, lim_size (by rw [r1.length, r2.length]; exact hl), ?_⟩)
          · intro z
            subst z
            have := r1.length
            exact hne (List.eq_nil_of_length_eq_zero this.symm)
          · refine ⟨fun z => ?_, fun z p hp => Wv.tup h oin t (r1.append r2) hp⟩
            subst z
            cases r2
            have h' : Wv K T O H Q (.tuple (xs ++ [])) := h
            rw [List.append_nil] at h'
            exact h' _ _ (Ext.refl H) t (.tup h1 r1)
    · exact h.elim
  · cases ra; cases rb; exact ⟨_, _, rfl, rfl, h.int t⟩
  · split at h
    · rename_i hm
      cases ra; cases rb; exact .inl ⟨_, _, rfl, rfl, hm, h.int t⟩
    · exact h.elim
  · split at h
    · rename_i hl
      cases rb
      cases ra with
      | lst h1 r1 =>
        exact .inr ⟨_, _, _, rfl, rfl, Rd.ext le (fun _ z => by cases z) h1, hl.2.1, hl.2.2, lim_size (by rw [r1.length]; exact hl.1), fun p hp => Wv.lst h oin t (r1.rep _) hp⟩
    · exact h.elim
  · split at h
    · rename_i hm
      cases ra; cases rb; exact ⟨_, _, rfl, rfl, hm, h.int t⟩
    · exact h.elim
  · split at h
    · rename_i hm
      cases ra; cases rb; exact ⟨_, _, rfl, rfl, hm, h.int t⟩
    · exact h.elim
  · split at h
    · rename_i hm
      cases ra; cases rb; exact ⟨_, _, rfl, rfl, hm, h.int t⟩
    · exact h.elim
  · split at h
    · rename_i hm
      cases ra; cases rb; exact ⟨_, _, rfl, rfl, hm, h.int t⟩
    · exact h.elim
  · exact h.elim

def rCmp (K : PySem.W.Frag) : CmpOp → R2
  | .Lt => rI0 fun i j => .bl (decide (i < j))
  | .LtE => rI0 fun i j => .bl (decide (i ≤ j))
  | .Gt => rI0 fun i j => .bl (decide (j < i))
  | .GtE => rI0 fun i j => .bl (decide (j ≤ i))
  | .Eq => rEqD K
  | .NotEq => rNeD K
  | .In => rInD K
  | .NotIn => rNotInD K
  | _ => rNo
theorem op_cmp {X : Cx} (hu : X.A.units + 65 < cLine) : ∀ op, OpR X (compareOp op) (rCmp X.K op)
  | .Lt => op_lt
  | .LtE => op_le
  | .Gt => op_gt
  | .GtE => op_ge
  | .Eq => op_eqD (by omega)
  | .NotEq => op_neD (by omega)
  | .In => op_inD hu
  | .NotIn => op_notInD hu
  | .Is => op_no
  | .IsNot => op_no
theorem cmpD_bool {op : CmpOp} {a b r : D} (h : cmpD op a b = .ok r) : ∃ k, r = .bool k := by
  unfold cmpD at h
  split at h <;> first
    | (cases h; exact ⟨_, rfl⟩)
    | (split at h <;> first | (cases h; exact ⟨_, rfl⟩) | cases h)
    | cases h
theorem rCmp_of {op : CmpOp} {a b : D} {v w : V} (t : Tabs T H) (ra : Rp K (mask H O) v a) (rb : Rp K (mask H O) w b) (h : (cmpD op a b).post (Wv K T O H Q) x) : rCmp K op v w H Q := by
  have le := mask_le H O
  unfold cmpD at h
  split at h
  · rename_i kvs
    obtain ⟨a, ns, rfl, rfl, hs⟩ := ra.scr_of
    have d2 : Dp K H w (.list []) := (rb.ext le).dp rfl
    refine ⟨_, _, .lst (SqL.ext le hs) (ints_dp ns), d2, ints_shaped ns, by decide, ?_⟩
    have e : PyData.eqv (.list (ns.map PyData.int)) (.list []) = (ns.map fun n => (PyData.int n, PyData.none)).isEmpty := by cases ns <;> rfl
    rw [e]
    exact h.bool t
  · cases ra; cases rb; exact ⟨_, _, rfl, rfl, h.bool t⟩
  · cases ra; cases rb; exact ⟨_, _, rfl, rfl, h.bool t⟩
  · cases ra; cases rb; exact ⟨_, _, rfl, rfl, h.bool t⟩
  · cases ra; cases rb; exact ⟨_, _, rfl, rfl, h.bool t⟩
  · split at h
    · rename_i hs
      rw [Bool.and_eq_true] at hs
      exact ⟨_, _, (ra.ext le).dp (SeqAt.canLay_of_shaped hs.1), (rb.ext le).dp (SeqAt.canLay_of_shaped hs.2), hs.1, hs.2, h.bool t⟩
    · exact h.elim
  · split at h
    · rename_i hs
      rw [Bool.and_eq_true] at hs
      exact ⟨_, _, (ra.ext le).dp (SeqAt.canLay_of_shaped hs.1), (rb.ext le).dp (SeqAt.canLay_of_shaped hs.2), hs.1, hs.2, h.bool t⟩
    · exact h.elim
  · split at h
    · rename_i hs
      rw [Bool.and_eq_true] at hs
      exact ⟨_, _, (ra.ext le).dp (SeqAt.canLay_of_shaped hs.1), (rb.ext le).dp (SeqAt.canLay_of_shaped hs.2), hs.1, hs.2, h.bool t⟩
    · exact h.elim
  · split at h
    · rename_i hs
      rw [Bool.and_eq_true] at hs
      exact ⟨_, _, (ra.ext le).dp (SeqAt.canLay_of_shaped hs.1), (rb.ext le).dp (SeqAt.canLay_of_shaped hs.2), hs.1, hs.2, h.bool t⟩
    · exact h.elim
  · exact h.elim
theorem rIx_of {a b : D} {v w : V} (t : Tabs T H) (ra : Rp K (mask H O) v a) (rb : Rp K (mask H O) w b) (h : (ixD a b).post (Wv K T O H Q) x) : rIx K v w H Q := by
  have le := mask_le H O
  unfold ixD at h
  split at h
  · obtain ⟨d, e, q⟩ := Rs.post_ofO h
    cases rb
    cases ra with
    | lst h1 r1 =>
      obtain ⟨y, h2, h3⟩ := atI_rel r1 e
      exact .inl ⟨_, _, _, _, rfl, rfl, .inl (Rd.ext le (fun _ z => by cases z) h1), h2, q _ _ (Ext.refl H) t h3⟩
  · obtain ⟨d, e, q⟩ := Rs.post_ofO h
    cases rb
    cases ra with
    | tup h1 r1 =>
      obtain ⟨y, h2, h3⟩ := atI_rel r1 e
      exact .inr (.inl ⟨_, _, _, _, rfl, rfl, SqT.ext le h1, h2, q _ _ (Ext.refl H) t h3⟩)
  · rename_i kvs i
    obtain ⟨d, e, q⟩ := Rs.post_ofO h
    cases rb
    obtain ⟨a, ns, rfl, rfl, hs⟩ := ra.scr_of
    have e' : atI (ns.map PyData.int) i = some d := by
      have : (ns.map fun n => (PyData.int n, PyData.none)).map (·.1) = ns.map PyData.int := by rw [List.map_map]; rfl
      rw [this] at e
      exact e
    obtain ⟨y, h2, h3⟩ := atI_rel (RpAll.of_ints ns) e'
    exact .inl ⟨_, _, _, _, rfl, rfl, SqL.ext le hs, h2, q _ _ (Ext.refl H) t h3⟩
  · exact h.elim
theorem RpAll.cut {H : Hp} {vs : List V} {ds : List D} (h : RpAll K H vs ds) (lo hi : Option Int) : RpAll K H (cutV vs lo hi) (cutD ds lo hi) := by
  unfold cutV cutD
  rw [h.length]
  exact (h.drop _).take _
theorem rSl_of {a : D} {lo hi : Option Int} {v : V} (oin : OIn H O) (t : Tabs T H) (ra : Rp K (mask H O) v a) (h : (slD a lo hi).post (Wv K T O H Q) x) : rSlL K v lo hi H Q := by
  have le := mask_le H O
  unfold slD at h
  split at h
  · cases ra with
    | lst h1 r1 => exact ⟨_, _, rfl, .inl (Rd.ext le (fun _ z => by cases z) h1), fun p hp => Wv.lst h oin t (r1.cut lo hi) hp⟩
  · exact h.elim
end ops
end Mn
/-! Hot, part 1: lists walked while an exception is handled -/
namespace Mn
open PySem PySem.Spec PyProof.Rows L2 HotX
section
variable {prog : Program} {w : World} {A : Around} {E : Value → Shared → Prop} {s : Shared}
/-- a list's iterator ends while an exception is handled -/
theorem endHot {j b x1 : Addr} {i : Nat} {its : Array Value} {Q : Option Value → Shared → Prop} (hot : HotAt A x1 s.heap) (hj : s.heap.IsListIter j b i) (hb : s.heap.IsList b its) (hx : its[i]? = none) (hne : x1 ≠ j)
    (hQ : ∀ h', Heap.ExtBut j s.heap h' → Q none { s with heap := h' }) : wpAny (model prog w) A (pyNext (.ref j)) Q E s := by
  obtain ⟨oj, hoj, hcj, hdj⟩ := id hj
  obtain ⟨ob, hob, _, nb, hdb⟩ := hb
  obtain ⟨hh, o1, vs1, h1, d1, c1⟩ := hot
  unfold pyNext
  refine wpAny_bind (wpAny_attempt (wpAny_callSpecial?_slot (name := Str.ofString "__next__") hj.typeIs slot_listiter_next (wpAny_call_entry slot_listiter_next hj.typeIs entry_listiter_next ?_ (args_listiter_next _))))
  show wpAny _ _ (field (.ref j) 0 >>= _) _ _ s
  refine wpAny_bind (wpAny_field hoj hdj (x := .ref b) rfl ?_)
  show wpAny _ _ (if (Value.ref b == Value.none) = true then _ else _) _ _ s
  rw [if_neg (show ¬ ((Value.ref b == Value.none) = true) from Bool.false_ne_true)]
  show wpAny _ _ (field (.ref j) 1 >>= _) _ _ s
  refine wpAny_bind (wpAny_field hoj hdj (x := .int i 0) rfl ?_)
  show wpAny _ _ (seqItems? (.ref b) >>= _) _ _ s
  refine wpAny_bind (wpAny_seqItems hob hdb ?_)
  simp only [hx, Int.toNat_natCast]
  refine wpAny_bind (wpAny_rule (wpAny_bind (wpAny_setField hoj hdj (by simp) ?_)))
  show wpAny _ _ (newExc (.type "StopIteration") [] >>= _) _ _ _
  refine wpAny_bind ?_
  simp only [newTuple, newExc]
  refine wpAny_bind (wpAny_newObj_type ?_ (by size_fits))
  refine wpAny_bind (m := firstArgMember _ _) (wpAny_of_eq (a := Value.none) (by first | rfl | (simp only [firstArgMember]; rfl)) ?_)
  refine wpAny_newObj_type ?_ (by size_fits)
  have g1 := (Heap.get?_update_other s.heap (Obj.mapFields fun x => x.setIfInBounds 0 Value.none) (show j ≠ x1 from fun z => hne z.symm)).trans h1
  refine raiseNew_hot ⟨hh, o1, vs1, Heap.get?_push_of_some _ (Heap.get?_push_of_some _ g1), d1, c1⟩ (Nat.ne_of_lt (Heap.lt_size (Heap.get?_push_of_some _ g1))) (Heap.get?_push_size _ rfl) rfl (by first | (simp; done) | (simp; omega) | (simp only [Array.size_append]; simp; omega)) ?_
  refine wpAny_bind (wpAny_isInstance (T := "StopIteration") (b := true) ⟨_, Heap.get?_update_self _ (Heap.get?_push_size _ rfl) rfl, rfl⟩ isSubtype_stop ?_)
  refine wpAny_pure (hQ _ fun c o hc e => ?_)
  have e1 := (Heap.get?_update_other s.heap (Obj.mapFields fun x => x.setIfInBounds 0 Value.none) (show j ≠ c from fun z => hc z.symm)).trans e
  refine (Heap.get?_update_other _ _ (Nat.ne_of_gt (Heap.lt_size (Heap.get?_push_of_some _ e1)))).trans ?_
  exact Heap.get?_push_of_some _ (Heap.get?_push_of_some _ e1)
end
/-- the pinned object is the exception that is handled -/
structure HotP (A : Around) (p : Addr × Obj) : Prop where
  hot : L2H.Hot1 A p
theorem HotP.at {X : Cx} {pins : List (Addr × Obj)} {σ : L2.St} {H : Hp} {s : Shared} {p : Addr × Obj} (h : HotP X.A p) (I : Inv X pins σ H s) (hp : p ∈ X.pn ++ pins) : HotAt X.A p.1 s.heap := by
  obtain ⟨hh, v1, e1, c1⟩ := h.hot
  exact ⟨hh, p.2, v1, (I.pin p hp).1, e1, c1⟩
/-- one turn over a list while an exception is handled: an item -/
theorem item_list {X : Cx} {tg : Expr} {a it : Addr} {i : Nat} {pins : List (Addr × Obj)} {s : Shared} {σ : L2.St} {H : Hp} {E : Value → Shared → Prop} (I : Inv X pins σ H s) (hf : FpOk X pins H it) (st : s.heap.IsListIter it a i) {xs : List V} {x : V} (hs : SqL X.K H a xs) (hx : xs[i]? = some x) :
    wpAny (model X.prog X.w) X.A (pyNext (.ref it)) (fun r s1 => ∃ u, r = some u ∧ wpAny (model X.prog X.w) X.A (letOwnedTupleGo tg (.ref it) u) (fun _ s2 => Inv X pins σ H s2 ∧ RelV x u ∧ s2.heap.IsListIter it a (i + 1)) E s1) E s := by
  obtain ⟨its, rv, pl, hz⟩ := I.list hs
  obtain ⟨u, hu, ru⟩ := rv.get hx
  obtain ⟨f0, f1, _, f3, f4, f5⟩ := hf
  refine wpAny_pyNext_list_item st pl.isList (x := u) (by simpa using hu) fun h1 st1 sb => ?_
  have J : Inv X pins σ H { s with heap := h1 } := I.turned (t' := s.toks) (fun b o hb e => (sb.2 b hb).trans e) f0 f1 f3 f4 f5
  obtain ⟨o1, e1, c1, d1⟩ := id st1
  exact ⟨u, rfl, go_of (s := { s with heap := h1 }) e1 c1 d1 (by decide) ⟨J, ru, st1⟩⟩
/-- .. its end -/
theorem done_list {X : Cx} {a it : Addr} {i : Nat} {pins : List (Addr × Obj)} {s : Shared} {σ : L2.St} {H : Hp} {E : Value → Shared → Prop} {p : Addr × Obj} (hot : HotP X.A p) (hp : p ∈ X.pn ++ pins) (I : Inv X pins σ H s) (hf : FpOk X pins H it) (st : s.heap.IsListIter it a i) {xs : List V} (hs : SqL X.K H a xs) (hx : xs.length ≤ i) :
    wpAny (model X.prog X.w) X.A (pyNext (.ref it)) (fun r s1 => r = none ∧ Inv X pins σ H s1) E s := by
  obtain ⟨its, rv, pl, hz⟩ := I.list hs
  obtain ⟨f0, f1, _, f3, f4, f5⟩ := hf
  have hl := rv.length
  exact endHot (hot.at I hp) st pl.isList (by simp; omega) (f5 p hp) fun h1 eb => ⟨rfl, I.turned (t' := s.toks) (fun b o hb e => eb b o hb e) f0 f1 f3 f4 f5⟩
section
variable {X : Cx} {p : Addr × Obj}
/-- [elt for target in list] while an exception is handled -/
theorem pe_lcP {elt tg iter : Expr} {scope : Scope} {own : List (Str × Nat)} {pos : Pos} {tl te : TE} {g : TG} (hot : HotP X.A p) (hp : p ∈ X.pn) (hN : X.N.Nodup) (hl : PE X iter tl) (ok : BlkOk X.N X.env.scope scope own)
    (hg : ∀ (s : Shared) (H : Hp) (C : Addr) (cl : List (Str × Addr)) (fp : List Addr), PG (X.blk s H scope (compEnvC scope cl C X.env) fp) tg g)
    (he : ∀ (s : Shared) (H : Hp) (C : Addr) (cl : List (Str × Addr)) (fp : List Addr), PE (X.blk s H scope (compEnvC scope cl C X.env) fp) elt te) (hs : ∀ x, foldedSetIterable iter X.env x = pure x) :
    PE X (.ListComp elt [⟨tg, iter, [], 0⟩] scope pos) (tLc (iList X.K tl) g tYes te (own.map (·.2))) := by
  refine ⟨fun pins s σ H Q I h => ?_⟩
  rw [eval_ListComp]
  have clo : ∀ y ∈ scope.names, y.2 = .free → ∃ c, X.env.cells.lookup y.1 = some c := fun y hy e => (ok.free y hy e).elim (fun k => I.ok.has _ (.inl k)) (fun k => I.ok.has _ (.inr k))
  refine wpAny_comprehension_free rfl hs (closure_ok clo) ok.kind (fun y hy e => by rw [ok.uniq y hy, e]) (thn (hl.run pins s σ H _ I h) fun xv s1 hx => ?_)
  obtain ⟨x1, H1, I1, r1, a, e1, ⟨xs, hq⟩, q⟩ := hx
  subst e1
  cases r1
  obtain ⟨its, rv, pl, hz⟩ := I1.list hq
  refine wpAny_pyIter_list pl.isList ?_
  obtain ⟨s2, hs2⟩ : ∃ s2 : Shared, s2 = { s1 with heap := s1.heap.push { cls := .type "list_iterator", data := .fields #[.ref a, .int 0 0] } } := ⟨_, rfl⟩
  obtain ⟨it, hit⟩ : ∃ it, it = s1.heap.objs.size := ⟨_, rfl⟩
  have st2 : s2.heap.IsListIter it a 0 := by
    rw [hs2, hit]
    exact ⟨_, Heap.get?_push_size _ rfl, rfl, rfl⟩
  have I2 : Inv X pins σ H1 s2 := by
    rw [hs2]
    exact I1.kept (t' := s1.toks) fun b o e => Heap.get?_push_of_some _ e
  have f2 : FpOk X pins H1 it := by
    rw [hit]
    exact I1.fpOk (Nat.le_refl _) (I1.hok.fresh (Nat.le_refl _))
  have lt2 : it < s2.heap.objs.size := by
    obtain ⟨o, e, _⟩ := st2
    exact Heap.lt_size e
  rw [← hs2, ← hit]
  clear hs2 hit
  refine wpAny_newObj_type (newEnv_comp ?_) (by show 0 ≤ sizeLine; decide)
  obtain ⟨D, hD⟩ : ∃ D, D = s2.heap.objs.size := ⟨_, rfl⟩
  have hDn : H1 D = none := I2.hok.fresh (Nat.le_of_eq hD.symm)
  obtain ⟨W, ⟨m0, w0⟩, turn⟩ := q D hDn
  obtain ⟨s3, hs3⟩ : ∃ s3 : Shared, s3 = { s2 with heap := s2.heap.push { cls := .type "list", data := .seq ([] : List Value).toArray } } := ⟨_, rfl⟩
  obtain ⟨H3, hH3⟩ : ∃ H3, H3 = upd H1 D (.lst []) := ⟨_, rfl⟩
  have I3 : Inv X pins σ H3 s3 := by
    rw [hs3, hH3]
    refine I2.laid (t' := s2.toks) (fun b o e => Heap.get?_push_of_some _ e) (Nat.le_of_eq hD.symm) ⟨Nat.zero_le _, [], 0, .nil, ?_⟩
    rw [hD]
    exact Heap.get?_push_size _ rfl
  have k3 : ∀ b o, s2.heap.get? b = some o → s3.heap.get? b = some o := fun b o e => by rw [hs3]; exact Heap.get?_push_of_some _ e
  have st3 : s3.heap.IsListIter it a 0 := st2.at fun o e => k3 it o e
  have f3 : FpOk X pins H3 it := ⟨by rw [hH3, upd_ne (by rw [hD]; exact Nat.ne_of_lt lt2)]; exact f2.1, f2.2⟩
  have lt3 : it < s3.heap.objs.size := by
    obtain ⟨o, e, _⟩ := st3
    exact Heap.lt_size e
  have I4 := block_start (fp := [it]) I3 ok hN fun b hb => by
    have e : b = it := by simpa using hb
    subst e
    exact ⟨f3, lt3⟩
  have pg := hg s3 H3 s3.heap.objs.size (cellsFrom (s3.heap.objs.size + 1) scope.names (cloFrom X.env.cells scope.names [])) [it]
  have pe := he s3 H3 s3.heap.objs.size (cellsFrom (s3.heap.objs.size + 1) scope.names (cloFrom X.env.cells scope.names [])) [it]
  rw [← hs3, ← hD]
  show codeAny _ _ (.compStart (.ListComp elt [⟨tg, iter, [], 0⟩] scope pos) 0 (.ref it) (.ref D) (compEnvC scope (cellsFrom (s3.heap.objs.size + 1) scope.names (cloFrom X.env.cells scope.names [])) s3.heap.objs.size X.env)) _ { s3 with heap := pushCells (s3.heap.push { cls := .type "dict", data := .dict #[] }) scope.names }
  obtain ⟨ce, hce⟩ : ∃ ce, ce = compEnvC scope (cellsFrom (s3.heap.objs.size + 1) scope.names (cloFrom X.env.cells scope.names [])) s3.heap.objs.size X.env := ⟨_, rfl⟩
  obtain ⟨s4, hs4⟩ : ∃ s4 : Shared, s4 = { s3 with heap := pushCells (s3.heap.push { cls := .type "dict", data := .dict #[] }) scope.names } := ⟨_, rfl⟩
  rw [← hce] at I4 pg pe ⊢
  rw [← hs4] at I4 ⊢
  have cL : ce.locals = s3.heap.objs.size := by rw [hce]; rfl
  have k4 : ∀ b o, s3.heap.get? b = some o → s4.heap.get? b = some o := fun b o e => by rw [hs4]; exact pushCells_keeps _ _ _ _ (Heap.get?_push_of_some _ e)
  have st4 : s4.heap.IsListIter it a 0 := st3.at fun o e => k4 it o e
  have P3 := I3.pin p (List.mem_append_left _ hp)
  have nst : p.1 ∉ frs X.stack := fun hm => (List.mem_cons.mp (I3.stkSub p.1 hm)).elim P3.2.2.1 P3.2.2.2.1
  have I4p : Inv (X.blk s3 H3 scope ce [it]) [p] (wipe σ (own.map (·.2))) H3 s4 := I4.pins_of fun r hr => by
    have er : r = p := by simpa using hr
    subst er
    exact ⟨k4 _ _ P3.1, P3.2.1, fun z => by rw [show (X.blk s3 H3 scope ce [it]).env.locals = ce.locals from rfl, cL] at z; exact Nat.ne_of_lt (Heap.lt_size P3.1) z, nst, P3.2.2.2.2⟩
  have npit : p.1 ≠ it := f3.2.2.2.2.2 p (List.mem_append_left _ hp)
  have stat : ∀ {σ' : L2.St} {H' : Hp} {s' : Shared}, Inv (X.blk s3 H3 scope ce [it]) [p] σ' H' s' → H' it = none → FpOk (X.blk s3 H3 scope ce [it]) [p] H' it := fun {σ' H' s'} I' hn =>
    have hm : it ∈ (X.blk s3 H3 scope ce [it]).ex := List.mem_singleton.mpr rfl
    ⟨hn, (I'.ok.exf it hm).1, I'.ok.exfs it hm, .inl hm, fun x c e => (I'.ok.exf it hm).2 x c e, fun r hr => by
      have er : r = p := by simpa using (show r ∈ ([] : List (Addr × Obj)) ++ [p] from hr)
      rw [er]
      exact npit⟩
  have nit : H3 it = none := f3.1
  have loop : codeAny (model X.prog X.w) X.A (.compLoop (.ListComp elt [⟨tg, iter, [], 0⟩] scope pos) 0 (.ref it) (.ref D) ce) (compPost (model X.prog X.w) X.A X.xe none (EP X pins σ Q) (.ref D) s3.heap.objs.size) s4 := by
    refine compLoop_any (fun n s' => ∃ i H', Inv (X.blk s3 H3 scope ce [it]) [p] (wipe σ (own.map (·.2))) H' s' ∧ s'.heap.IsListIter it a i ∧ H' it = none ∧ W i n H') ?_ m0 ⟨0, H3, I4p, st4, nit, by rw [hH3]; exact w0⟩
    rintro n s5 ⟨i, H5, I5, st5, n5, w5⟩
    have hpb : p ∈ (X.blk s3 H3 scope ce [it]).pn ++ [p] := List.mem_append_right _ (List.mem_singleton.mpr rfl)
    rcases turn i n H5 w5 with ⟨⟨ys, hy, hlen⟩, qq⟩ | ⟨⟨ys, y0, hy, hy0⟩, Nx, hNx, step⟩
    · refine thnF (done_list (X := X.blk s3 H3 scope ce [it]) (E := fun _ _ => False) hot hpb I5 (stat I5 n5) st5 hy hlen) fun r s6 ⟨hr, I6⟩ => ?_
      subst hr
      have I7 : Inv X pins σ H5 s6 := I3.call' (ch := [it]) I6.os I6.base I6.hok I6.bare fun b hb => by
        have e : b = it := by simpa using hb
        subst e
        exact ⟨f3.2.2.2.1, f3.2.1, f3.2.2.2.2.1, f3.2.2.2.2.2⟩
      have nC : H5 s3.heap.objs.size = none := by
        have z : H5 ce.locals = none := I6.free
        rw [cL] at z
        exact z
      obtain ⟨m, hn, _⟩ := I6.loc
      have hn : s6.heap.Ns ce.locals m := hn
      rw [cL] at hn
      obtain ⟨g0, g1, g2, g3, g4, g5⟩ := I3.fpOk (Nat.le_refl _) nC
      exact ⟨m, hn, fun h'' sb => ⟨.ref D, H5, I7.turned (t' := s6.toks) (fun b o hb e => (sb.2 b hb).trans e) g0 g1 g3 g4 g5, rfl, qq⟩⟩
    · refine thnF (item_list (X := X.blk s3 H3 scope ce [it]) (tg := tg) (E := fun _ _ => False) I5 (stat I5 n5) st5 hy hy0) fun r s6 ⟨u, hr, h6⟩ => ?_
      subst hr
      refine thnF h6 fun _ s7 ⟨I7, r7, st7⟩ => ?_
      have I7' := I7.pinned (fp := [it]) (fun b hb => by
        have e : b = it := by simpa using hb
        subst e
        exact stat I7 n5) (fun b hb => by
        have e : b = it := by simpa using hb
        subst e
        obtain ⟨o, e1, e2, e3⟩ := id st7
        exact ⟨o, e1, fun v z => by rw [e3] at z; cases z⟩)
      refine thnF (pg.run _ s7 _ H5 y0 u _ I7' r7 (step y0 H5 ⟨rfl, fun zs hz => by rw [I5.list_inj hz hy]; exact hy0⟩)) fun _ s8 ⟨σ8, H8, I8, hw8, q8⟩ => ?_
      refine wpAny_tests_nil ?_
      have q8 : if (true : Bool) = true then te σ8 H8 (fun y H4 => ∃ acc, H4 D = some (.lst acc) ∧ acc.length < sizeLine ∧ Nx (upd H4 D (.lst (acc ++ [y])))) else Nx H8 := q8
      simp only [if_true] at q8 ⊢
      have fin : ∀ {s' : Shared} {H' : Hp}, Inv (X.blk s3 H3 scope ce [it]) ([p] ++ pinsAt [it] s7.heap) σ8 H' s' → Nx H' → ∃ m, m < n ∧ ∃ i H', Inv (X.blk s3 H3 scope ce [it]) [p] (wipe σ (own.map (·.2))) H' s' ∧ s'.heap.IsListIter it a i ∧ H' it = none ∧ W i m H' := fun {s' H'} I' nx => by
        obtain ⟨m', hm, w'⟩ := hNx H' nx
        have hl8 : (wipe σ (own.map (·.2))).length = σ8.length := by rw [← hw8, wipe_length]
        obtain ⟨o7, e7, _⟩ := id st7
        have pk := I'.pin (it, o7) (List.mem_append_right _ (List.mem_append_right _ (mem_pinsAt (List.mem_singleton.mpr rfl) e7)))
        refine ⟨m', hm, i + 1, H', (I'.unpinned (pins := [p])).weak hl8 (fun j v e => ?_), st7.at fun o e => ?_, pk.2.1, w'⟩
        · rw [← hw8] at e
          exact (wipe_some e).1
        · rw [e7] at e
          cases e
          exact pk.1
      refine thnF (pe.run _ s8 σ8 H8 _ I8 q8) fun z s10 ⟨yv, H10, I10, r10, acc, hD10, hz10, nx⟩ => ?_
      exact app_ok (X := X.blk s3 H3 scope ce [it]) I10 hD10 hz10 r10 fun s11 I11 => fin I11 nx
  exact codeAny_compStart_list loop (wpAny_pyIter_listiter st4 loop)
end
end Mn
/-! Hot, part 2: sum, isinstance while an exception is handled -/
namespace Mn
open PySem PySem.Spec PyProof.Rows L2 HotX
theorem walks_hot {prog : Program} {w : World} {A : Around} {j b x1 : Addr} (hne : b ≠ j) (hx : x1 ≠ j) (its : Array Value) : Walks prog w A j [j, b, x1] [j] its.size (fun i v => its[i]? = some v) (fun i h => h.IsListIter j b i ∧ h.IsList b its ∧ HotAt A x1 h) where
  sub := fun c hc => by simp at hc; simp [hc]
  frame := fun i h h' st k => ⟨st.1.at fun o e => k j (by simp) o e, st.2.1.at fun o e => k b (by simp) o e, by
    obtain ⟨hh, o1, vs1, h1, d1, c1⟩ := st.2.2
    exact ⟨hh, o1, vs1, k x1 (by simp) _ h1, d1, c1⟩⟩
  item := fun i s Q E hi st hQ => by
    refine wpAny_pyNext_list_item st.1 st.2.1 (x := its[i]) (by simp [hi]) fun h' st' sb => ?_
    refine hQ _ h' s.toks (by simp [hi]) ⟨st', st.2.1.extBut sb.extBut hne, ?_⟩ fun c o hc e => sb.extBut c o (fun z => hc (by simp [z])) e
    obtain ⟨hh, o1, vs1, h1, d1, c1⟩ := st.2.2
    exact ⟨hh, o1, vs1, sb.extBut x1 _ hx h1, d1, c1⟩
  done := fun s Q E st hQ => endHot st.2.2 st.1 st.2.1 (by simp) hx fun h' eb => hQ h' s.toks fun c o hc e => eb c o (fun z => hc (by simp [z])) e
  self := fun i s Q E st hQ => wpAny_pyIter_listiter st.1 hQ
section
variable {X : Cx} {p : Addr × Obj}
/-- sum of a list of ints while an exception is handled -/
theorem cr_sumP (hot : HotP X.A p) (hp : p ∈ X.pn) : CallR X (.builtin "sum") (rSum X.K) := by
  intro pins s σ H vs us Q I r h
  obtain ⟨a, ns, rfl, hs, q⟩ := h
  obtain ⟨its, rv, hl, _⟩ := I.list hs
  rw [Vals.ref1 r]
  have hi := rv.ints
  obtain ⟨xs, e⟩ := hi.allInts.items
  have hn : numsOf (intItems xs).toList = ns := by rw [← e]; exact hi.numsOf
  rw [nums_intItems] at hn
  have hL : s.heap.IsList a (intItems xs) := by rw [← e]; exact hl.isList
  have ht := hot.at I (List.mem_append_left _ hp)
  obtain ⟨hh, o1, vs1, h1, d1, c1⟩ := id ht
  obtain ⟨oa, ha, _⟩ := id hL
  refine call_sum_walkG (wpAny_pyIter_list hL ⟨s.heap.objs.size, [s.heap.objs.size, a, p.1], [s.heap.objs.size], (intItems xs).size, _, _, numAt xs, rfl, walks_hot (A := X.A.in1) (Nat.ne_of_lt (Heap.lt_size ha)) (Nat.ne_of_lt (Heap.lt_size h1)) (intItems xs),
    ⟨⟨_, Heap.get?_push_size _ rfl, rfl, rfl⟩, ⟨oa, Heap.get?_push_of_some _ ha, by obtain ⟨_, z, w⟩ := hL; rw [ha] at z; cases z; exact w⟩, ⟨hh, o1, vs1, Heap.get?_push_of_some _ h1, d1, c1⟩⟩, fun c hc => ?_, fun i v hv => intItems_at hv, fun h' tk t' hk => ?_⟩)
  · rw [Heap.size_push]
    simp only [List.mem_cons, List.not_mem_nil, or_false] at hc
    rcases hc with rfl | rfl | rfl
    · exact Nat.lt_succ_self _
    · exact Nat.lt_succ_of_lt (Heap.lt_size ha)
    · exact Nat.lt_succ_of_lt (Heap.lt_size h1)
  · have es : preSum (numAt xs) (intItems xs).size = ns.sum := by
      rw [preSum_eq, List.take_of_length_le (by simp [intItems]), hn]
    rw [es]
    refine ⟨.int _, H, I.kept fun c o e => hk c o (fun z => ?_) (Heap.get?_push_of_some _ e), ⟨_, rfl⟩, q⟩
    · have z' : c = s.heap.objs.size := by simpa using z
      exact absurd (Heap.lt_size e) (by rw [z']; exact Nat.lt_irrefl _)
/-- isinstance(e, c) of the exception that is handled -/
theorem call_isP {a D : Addr} {oe : Obj} (C : ExcC X.K D) (hz : Zc (.ref D) none oe) (hf : ∃ vs, oe.data = .fields vs) (hp : (a, oe) ∈ X.pn) : CallR X (.builtin "isinstance") (rIsE X.K D a) := by
  intro pins s σ H xs us Q I r h
  obtain ⟨c, cv, b, rfl, hcv, e, q⟩ := h
  obtain ⟨u1, u2, rfl, r1, r2⟩ : ∃ u1 u2, us = [u1, u2] ∧ RelV (.ref a) u1 ∧ RelV c u2 := by
    cases r with
    | cons rx rr => cases rr with
      | cons rt rr => cases rr; exact ⟨_, _, rfl, rx, rt⟩
  cases r1
  have ec := hcv _ r2
  subst ec
  have hget := (I.pin (a, oe) (List.mem_append_left _ hp)).1
  obtain ⟨vs, hv⟩ := hf
  have J : PySem.W.InstAt s.heap a oe D none := by
    obtain ⟨oc, od, oda, osl⟩ := oe
    obtain ⟨h1, h2⟩ := hz
    dsimp only at h1 h2 hv
    subst h1 h2 hv
    exact ⟨hget, rfl, rfl, trivial⟩
  exact PySem.W.kia_one (PySem.W.handS_kitx_exc C.hg C.hk C.hs C.hd C.ha C.hn C.ht C.hm) I.kIn J e (fun z => nomatch z) fun tk => ⟨.bl b, H, I.kept (t' := tk) fun _ _ z => z, rfl, q⟩
end
end Mn
/-! Hot, part 3: the def that names a caught error -/
namespace Mn
open PySem PySem.Spec PyProof.Rows L2 HotX
abbrev P4 := Pos × Pos × Pos × Pos
def isC (c : Str) (q : P4) : Expr := .Call (.Name "isinstance" q.1) [.Name "e" q.2.1, .Name c q.2.2.1] [] q.2.2.2
def isCs : List (Str × P4) → List Expr
  | [] => []
  | (c, q) :: r => isC c q :: isCs r
/-- what the context of that def must say -/
structure WX0 (X : Cx) (a D : Addr) (oe : Obj) : Prop where
  n0 : X.N[0]? = some ("e" : Str)
  v0 : Vis X.env.scope "e"
  n1 : X.N[1]? = some ("flags" : Str)
  v1 : X.env.scope.names.lookup ("flags" : Str) = some NameKind.local
  n2 : X.N = [("e" : Str), ("flags" : Str), ("flag" : Str)]
  gi : Gl X "isinstance"
  mi : X.mg "isinstance" = none
  gs : Gl X "sum"
  ms : X.mg "sum" = none
  gv : Gl X "ValueError"
  mv : X.mg "ValueError" = none
  mt : X.mg "int" = none
  ex : ExcC X.K D
  zc : Zc (.ref D) none oe
  fl : ∃ vs, oe.data = .fields vs
  pn : (a, oe) ∈ X.pn
  hot : HotP X.A (a, oe)
  un : X.A.units + 65 < cLine
  ve : PySem.W.kitOne X.K (.ref D) (.type "ValueError") = some true
theorem dp_bools {K : PySem.W.Frag} {H : Hp} : ∀ bs : List Bool, DpAll K H (bs.map V.bl) (bs.map PyData.bool)
  | [] => .nil
  | b :: bs => .cons (.bl b) (dp_bools bs)
section
variable {X : Cx} {a D : Addr} {oe : Obj} (h : WX0 X a D oe)
include h
/-- isinstance(e, c) -/
theorem is_one {c : Str} {q : P4} {C : Addr} {b : Bool} (hg : Gl X c) (hm : X.mg c = some (.ref C)) (hd : (c == ("__debug__" : Str)) = false) (hk : PySem.W.kitOne X.K (.ref D) (.ref C) = some b) :
    PE X (isC c q) (fun σ H Q => σ[0]? = some (some (.ref a)) ∧ Q (.bl b) H) := by
  refine (pe_callB (call_isP h.ex h.zc h.fl h.pn) h.gi h.mi (by decide +kernel) (pa_cons (pe_var (i := 0) h.n0 h.v0) (pa_cons (pe_glob (v := .ref C) hg hm rfl hd) pa_nil))).imp fun σ H Q ⟨h1, h2⟩ => ?_
  exact ⟨_, h1, _, .ref C, b, rfl, fun u r => r, hk, h2⟩
theorem is_ve {q : P4} : PE X (isC "ValueError" q) (fun σ H Q => σ[0]? = some (some (.ref a)) ∧ Q (.bl true) H) := by
  refine (pe_callB (call_isP h.ex h.zc h.fl h.pn) h.gi h.mi (by decide +kernel) (pa_cons (pe_var (i := 0) h.n0 h.v0) (pa_cons (pe_bltn (v := .ty "ValueError") h.gv h.mv (by decide +kernel) rfl) pa_nil))).imp fun σ H Q ⟨h1, h2⟩ => ?_
  exact ⟨_, h1, _, .type "ValueError", true, rfl, fun u r => r, h.ve, h2⟩
/-- several -/
theorem is_all : ∀ {l : List (Str × P4)} {bs : List Bool}, (∀ (i : Nat) (c : Str) (q : P4), l[i]? = some (c, q) → Gl X c ∧ (c == ("__debug__" : Str)) = false ∧ ∃ C b, X.mg c = some (.ref C) ∧ PySem.W.kitOne X.K (.ref D) (.ref C) = some b ∧ bs[i]? = some b) → l.length = bs.length →
    PA X (isCs l) (fun σ H Q => σ[0]? = some (some (.ref a)) ∧ Q (bs.map V.bl) H)
  | [], [], _, _ => pa_nil.imp fun σ H Q z => z.2
  | [], _ :: _, _, hl => by simp at hl
  | _ :: _, [], _, hl => by simp at hl
  | (c, q) :: l, b :: bs, hh, hl => by
    obtain ⟨g, hd, C, b', m, k, e⟩ := hh 0 c q rfl
    have eb : b = b' := by simpa using e
    subst eb
    refine (pa_cons (is_one h g m hd k) (is_all (l := l) (bs := bs) (fun i c q e => hh (i + 1) c q (by simpa using e)) (by simpa using hl))).imp fun σ H Q ⟨h1, h2⟩ => ?_
    exact ⟨h1, h1, h2⟩
/-- [int(flag) for flag in flags] -/
def cpE (q : Nat → Pos) (sc : Scope) : Expr := .ListComp (.Call (.Name "int" (q 0)) [.Name "flag" (q 1)] [] (q 2)) [⟨.Name "flag" (q 3), .Name "flags" (q 4), [], 0⟩] sc (q 5)
theorem cp_one {q : Nat → Pos} {sc : Scope} {bs : List Bool} (hb : BlkOk X.N X.env.scope sc [("flag", 2)]) (hf : (relS sc X.env.scope).names.lookup ("flag" : Str) = some NameKind.local) (hi : (relS sc X.env.scope).names.lookup ("int" : Str) = some NameKind.globalImplicit) :
    PE X (cpE q sc) (fun σ H Q => σ.length = 3 ∧ (∃ l, σ[1]? = some (some (.ref l)) ∧ H l = some (.lst (bs.map V.bl))) ∧ bs.length < sizeLine ∧ ∀ D, H D = none → Q (.ref D) (upd H D (.lst (bs.map fun b => V.int (if b then 1 else 0))))) := by
  have hN : X.N.Nodup := by rw [h.n2]; decide
  have hN2 : X.N[2]? = some ("flag" : Str) := by rw [h.n2]; rfl
  refine (pe_lcP (own := [("flag", 2)]) h.hot h.pn hN (pe_var (i := 1) h.n1 (.inl h.v1)) hb (fun s H C cl fp => pg_name (i := 2) hN hN2 (.inl hf) (.inr hf)) (fun s H C cl fp => pe_callTy (call_int1 (X := X.blk s H sc (compEnvC sc cl C X.env) fp)) hi h.mt (by decide +kernel) (pa_cons (pe_var (i := 2) hN2 (.inl hf)) pa_nil)) (fun _ => rfl)).imp fun σ H Q hh => ?_
  obtain ⟨hlen, ⟨l, h1, h2⟩, h3, h4⟩ := hh
  refine ⟨_, h1, l, rfl, ⟨_, .inl (.inl h2)⟩, fun D hD => ⟨fun i m H' => i ≤ bs.length ∧ m = bs.length - i ∧ H' = upd H D (.lst ((bs.take i).map fun b => V.int (if b then 1 else 0))), ⟨bs.length, Nat.zero_le _, rfl, rfl⟩, fun i m H' hW => ?_⟩⟩
  obtain ⟨w1, w2, w3⟩ := hW
  have hlD : l ≠ D := fun z => by rw [z, hD] at h2; cases h2
  have hl' : H' l = some (.lst (bs.map V.bl)) := by rw [w3, upd_ne hlD]; exact h2
  by_cases hi2 : i < bs.length
  · right
    refine ⟨⟨bs.map V.bl, V.bl bs[i], .inl (.inl hl'), by simp [hi2]⟩, fun H2 => H2 = upd H D (.lst ((bs.take (i + 1)).map fun b => V.int (if b then 1 else 0))), fun H2 e => ⟨bs.length - (i + 1), by omega, by omega, rfl, e⟩, fun x H2 hy => ?_⟩
    obtain ⟨e1, e2⟩ := hy
    have ex := e2 _ (.inl (.inl hl'))
    have ex' : x = V.bl bs[i] := by
      rw [List.getElem?_map, List.getElem?_eq_getElem hi2] at ex
      exact (Option.some.inj ex).symm
    subst ex' e1
    refine ⟨by simp [wipe], ?_⟩
    refine ⟨V.bl bs[i], by simp [wipe, hlen], .inr ⟨bs[i], rfl, (bs.take i).map fun b => V.int (if b then 1 else 0), by rw [w3, upd_same], by rw [List.length_map, List.length_take]; omega, ?_⟩⟩
    show upd H2 D _ = _
    rw [w3, upd_upd, List.take_add_one, List.getElem?_eq_getElem hi2, Option.toList_some, List.map_append, List.map_cons, List.map_nil]
  · left
    have e : i = bs.length := by omega
    subst e
    refine ⟨⟨bs.map V.bl, .inl (.inl hl'), by simp⟩, ?_⟩
    have := h4 D hD
    rw [List.take_length] at w3
    rw [w3]
    exact this
/-- the def's body -/
def wordB (l1 l2 : List (Str × P4)) (ws : List (Str × Pos)) (q : Nat → Pos) (sc : Scope) (q5 : P4) : List Stmt :=
  [.Assign [.Name "flags" (q 10)] (.List (isCs l1) (q 11)) (q 12),
   .Assign [.Name "flags" (q 13)] (.BinOp (.Name "flags" (q 14)) .Add (.List (isCs l2) (q 15)) (q 16)) (q 17),
   .If (.BoolOp .Or [.Compare (.Call (.Name "sum" (q 18)) [cpE q sc] [] (q 19)) [.NotEq] [.Constant (.int 1) 0 (q 20)] (q 21), .UnaryOp .Not (isC "ValueError" q5) (q 22)] (q 23)) [.Return (some (.Constant (.str "other") 0 (q 24))) (q 25)] [] (q 26),
   .Return (some (.Subscript (.List (ws.map fun w => .Constant (.str w.1) 0 w.2) (q 27)) (.Call (.Attribute (.Name "flags" (q 28)) "index" (q 29)) [.Constant (.bool true) 0 (q 30)] [] (q 31)) (q 32))) (q 33)]
theorem pa_strs : ∀ ws : List (Str × Pos), PA X (ws.map fun w => .Constant (.str w.1) 0 w.2) (fun σ H Q => Q (ws.map fun w => V.str w.1) H)
  | [] => pa_nil.imp fun σ H Q z => z
  | w :: ws => (pa_cons pe_str (pa_strs ws)).imp fun σ H Q z => z
theorem word_ok {l1 l2 : List (Str × P4)} {ws : List (Str × Pos)} {q : Nat → Pos} {sc : Scope} {q5 : P4} {b1 b2 : List Bool} {j : Nat} {w : Str} {Q : VK} {H : Hp}
    (hb : BlkOk X.N X.env.scope sc [("flag", 2)]) (hf : (relS sc X.env.scope).names.lookup ("flag" : Str) = some NameKind.local) (hi : (relS sc X.env.scope).names.lookup ("int" : Str) = some NameKind.globalImplicit)
    (p1 : ∀ (i : Nat) (c : Str) (q : P4), l1[i]? = some (c, q) → Gl X c ∧ (c == ("__debug__" : Str)) = false ∧ ∃ C b, X.mg c = some (.ref C) ∧ PySem.W.kitOne X.K (.ref D) (.ref C) = some b ∧ b1[i]? = some b) (e1 : l1.length = b1.length)
    (p2 : ∀ (i : Nat) (c : Str) (q : P4), l2[i]? = some (c, q) → Gl X c ∧ (c == ("__debug__" : Str)) = false ∧ ∃ C b, X.mg c = some (.ref C) ∧ PySem.W.kitOne X.K (.ref D) (.ref C) = some b ∧ b2[i]? = some b) (e2 : l2.length = b2.length)
    (hsum : ((b1 ++ b2).map fun b => if b then (1 : Int) else 0).sum = 1) (hj : (b1 ++ b2)[j]? = some true) (hjm : ∀ m, m < j → (b1 ++ b2)[m]? = some false) (hw : (ws.map fun w => w.1)[j]? = some w) (hsz : (b1 ++ b2).length < 100) (hsw : ws.length < 100)
    (hln : (q 29).endLine = (q 31).line) (hsh : SeqAt.shaped (.list ((b1 ++ b2).map PyData.bool)) = true)
    (hQ : ∀ H', (∀ b o, H b = some o → H' b = some o) → Q (.str w) H') :
    ∃ t, PSs X (wordB l1 l2 ws q sc q5) t ∧ t { nx := fun _ H' => Q .non H', rt := Q } [some (.ref a), none, none] H := by
  have hN : X.N.Nodup := by rw [h.n2]; decide
  refine ⟨_, pss_cons (ps_set (i := 1) hN h.n1 (.inl h.v1) (pe_lst (is_all h p1 e1)) rfl (.inr h.v1)) (pss_cons (ps_set (i := 1) hN h.n1 (.inl h.v1) (pe_op op_catR (pe_var (i := 1) h.n1 (.inl h.v1)) (pe_lst (is_all h p2 e2))) rfl (.inr h.v1)) (pss_cons (ps_if (pw_or (pt_cmpR op_ne (pe_callB (cr_sumP h.hot h.pn) h.gs h.ms (by decide +kernel) (pa_cons (cp_one h (bs := b1 ++ b2) hb hf hi) pa_nil)) pe_int rfl) (pw_or1 (pt_not (pt_val (is_ve h))))).pt (pss_one (ps_ret pe_str)) pss_nil)
    (pss_one (ps_ret (pe_ix ix_seq (pe_lst (pa_strs h ws)) (pe_bm PySem.F.plainAttrs_list PySem.F.slot_list_index PySem.F.type_list_index (mt_indexD h.un) (pe_var (i := 1) h.n1 (.inl h.v1)) (pa_cons pe_bl pa_nil) rfl rfl (by rw [beq_iff_eq]; exact hln) rfl rfl) ?_))))), ?_⟩
  · exact fun _ _ => rfl
  · have l1' : (b1.map V.bl).length ≤ sizeLine := by rw [List.length_map]; exact Nat.le_trans (Nat.le_of_lt (Nat.lt_of_le_of_lt (by simp) hsz)) (by decide)
    have l2' : (b2.map V.bl).length ≤ sizeLine := by rw [List.length_map]; exact Nat.le_trans (Nat.le_of_lt (Nat.lt_of_le_of_lt (by simp) hsz)) (by decide)
    have l3' : (b1.map V.bl).length + (b2.map V.bl).length ≤ sizeLine := by
      rw [List.length_map, List.length_map, ← List.length_append]; exact Nat.le_trans (Nat.le_of_lt hsz) (by decide)
    refine ⟨rfl, l1', fun x1 hx1 => ?_⟩
    refine ⟨.ref x1, rfl, rfl, l2', fun x2 hx2 => ?_⟩
    have g1 : upd (upd H x1 (.lst (b1.map V.bl))) x2 (.lst (b2.map V.bl)) x1 = some (.lst (b1.map V.bl)) := by
      rw [upd_ne (fun z => by rw [← z, upd_same] at hx2; cases hx2), upd_same]
    refine ⟨x1, x2, _, _, rfl, rfl, .inl g1, .inl upd_same, l3', fun x3 hx3 => ?_⟩
    rw [← List.map_append]
    generalize hH3 : upd (upd (upd H x1 (.lst (b1.map V.bl))) x2 (.lst (b2.map V.bl))) x3 (.lst ((b1 ++ b2).map V.bl)) = H3
    have k3 : H3 x3 = some (.lst ((b1 ++ b2).map V.bl)) := by rw [← hH3, upd_same]
    have ext3 : ∀ b o, H b = some o → H3 b = some o := fun b o e => by
      have n1 : b ≠ x1 := fun z => by rw [z, hx1] at e; cases e
      have e1 : upd H x1 (.lst (b1.map V.bl)) b = some o := by rw [upd_ne n1]; exact e
      have n2 : b ≠ x2 := fun z => by rw [z, hx2] at e1; cases e1
      have e2 : upd (upd H x1 (.lst (b1.map V.bl))) x2 (.lst (b2.map V.bl)) b = some o := by rw [upd_ne n2]; exact e1
      have n3 : b ≠ x3 := fun z => by rw [z, hx3] at e2; cases e2
      rw [← hH3, upd_ne n3]; exact e2
    clear hH3 hx1 hx2 hx3 g1
    refine ⟨rfl, ⟨x3, rfl, k3⟩, Nat.lt_of_lt_of_le hsz (by decide), fun x4 hx4 => ?_⟩
    have k4 : upd H3 x4 (.lst ((b1 ++ b2).map fun b => V.int (if b then 1 else 0))) x3 = some (.lst ((b1 ++ b2).map V.bl)) := by
      rw [upd_ne (fun z => by rw [← z, k3] at hx4; cases hx4)]; exact k3
    refine ⟨x4, (b1 ++ b2).map fun b => if b then (1 : Int) else 0, rfl, .inl (.inl (by rw [upd_same, List.map_map]; rfl)), ?_⟩
    refine ⟨rfl, ⟨_, rfl, ?_⟩⟩
    rw [hsum]
    refine ⟨rfl, ⟨_, rfl, ?_⟩⟩
    have kx : ∀ b o, H b = some o → upd H3 x4 (.lst ((b1 ++ b2).map fun b => V.int (if b then 1 else 0))) b = some o := fun b o e => by
      have e3 := ext3 b o e
      rw [upd_ne (fun z => by rw [z, hx4] at e3; cases e3)]; exact e3
    generalize upd H3 x4 (.lst ((b1 ++ b2).map fun b => V.int (if b then 1 else 0))) = H4 at *
    have lw : (ws.map fun w => V.str w.1).length ≤ sizeLine := by rw [List.length_map]; exact Nat.le_trans (Nat.le_of_lt hsw) (by decide)
    refine ⟨lw, fun x5 hx5 => ?_⟩
    have k5 : upd H4 x5 (.lst (ws.map fun w => V.str w.1)) x3 = some (.lst ((b1 ++ b2).map V.bl)) := by
      rw [upd_ne (fun z => by rw [← z, k4] at hx5; cases hx5)]; exact k4
    refine ⟨.ref x3, rfl, .inl ⟨rfl, _, .inl (.inl k5)⟩, ?_⟩
    refine ⟨x3, .bl true, .bool true, (b1 ++ b2).map PyData.bool, j, .bool true, rfl, rfl, ?_, .bl true, hsh, rfl, by rw [List.getElem?_map, hj]; rfl, rfl, fun m z' hm e => ?_, ?_⟩
    · exact .lst (.inl (.inl k5)) (dp_bools (b1 ++ b2))
    · rw [List.getElem?_map, hjm m hm] at e
      cases e
      rfl
    · refine .inl ⟨x5, _, j, V.str w, rfl, rfl, .inl (.inl upd_same), ?_, ?_⟩
      · have hjl : j < ws.length := by
          have := (List.getElem?_eq_some_iff.mp hw).1
          simpa using this
        have e : ixN (ws.map fun w => V.str w.1).length (j : Int) = some j := by
          unfold ixN
          simp
          omega
        unfold atI
        rw [e]
        show (ws.map fun w => V.str w.1)[j]? = _
        rw [List.getElem?_map] at hw ⊢
        cases hk : ws[j]? with
        | none => rw [hk] at hw; cases hw
        | some z => rw [hk] at hw; cases hw; rfl
      · exact hQ _ fun b o e => by
          have e4 := kx b o e
          rw [upd_ne (fun z => by rw [z, hx5] at e4; cases e4)]; exact e4
end
end Mn
/-! Hot, part 4: a lambda handed to a def that calls it and names what it raises -/
namespace Mn
open PySem PySem.Spec PyProof.Rows L2 HotX LamX
/-- the lambda's context, its wish told with the error's own context -/
def lamN (X : Cx) (A : Around) (outer : List Env) (s : Shared) (H : Hp) (E : XK) (scope : Scope) (f c1 : Addr) : Cx :=
  (lamCx X A outer s H E scope f c1).wish fun e s1 => wpAny (model X.prog X.w) (A.deeper (lamEnv X scope s.heap.objs.size f c1)) (leaving (lamEnv X scope s.heap.objs.size f c1) e) (fun _ s2 => L2N.CX X.prog X.w outer H s E e s2) (fun e1 s2 => L2N.CX X.prog X.w outer H s E e1 s2) s1
section
variable {X : Cx} {pins : List (Addr × Obj)} {σ : L2.St} {H : Hp} {s : Shared}
theorem actN {CXg : CXT} {Eg : XK} {Ng : List Str} {qg : Str} {sg : Scope} {g f c1 : Addr} {cdg pm ctv : Value} {params : Arguments} {body : Expr} {scope : Scope} {k i : Nat} {a : Str} {pn : List (Addr × Obj)} {xe : Value → Shared → Prop} {W : WX} {E : XK} {tb : TE} {p1 p2 : Pos}
    (I : Inv X pins σ H s) (L : LamS X.env.scope scope) (of : s.heap.get? f = some (PySem.W.kla_obj "<lambda>" (X.env.qual ++ "<lambda>") params body scope (cloFrom X.env.cells scope.names []) pm c1 ctv)) (nf : H f = none) (fr : f ∉ frs X.stack)
    (bd : bindArgs (PySem.W.kla_fn "<lambda>" (X.env.qual ++ "<lambda>") params body scope (cloFrom X.env.cells scope.names []) pm (.ref c1) ctv) ⟨[], []⟩ = pure [])
    (tk : L2N.Takes ((cxOf CXg X.prog X.w X.K X.mg X.base Ng qg sg g cdg X.A X.stack s H Eg).tr pn xe) W) (hW : ∀ cls d (σ1 : L2.St) H1, σ1.length = Ng.length → E cls d H1 → W cls d σ1 H1) (hr : Room (k + 1) (X.A.deeper (envOfC qg sg s.heap.objs.size g cdg)))
    (hbody : ∀ (A : Around) (outer : List Env) (s : Shared) (H : Hp), Room k (A.deeper (lamEnv X scope s.heap.objs.size f c1)) → PE (lamN X A outer s H E scope f c1) body tb)
    (hN : Ng[i]? = some a) (hv : Vis sg a) (hd : (a == ("__debug__" : Str)) = false) (hcd : (a == ("__classdict__" : Str)) = false) :
    PE ((cxOf CXg X.prog X.w X.K X.mg X.base Ng qg sg g cdg X.A X.stack s H Eg).tr pn xe) (.Call (.Name a p1) [] [] p2)
      (fun σz Hz Q => σz[i]? = some (some (.ref f)) ∧ Hz c1 = some (CodeO c1 (X.env.qual ++ "<lambda>")) ∧ tb σ Hz Q) := by
  refine ⟨fun pz sz σz Hz Q Iz ⟨g1, g2, g3⟩ => ?_⟩
  refine wpAny_Call_Name_kw (thn ((pe_var (pos := p1) (i := i) hN hv hd hcd).run pz sz σz Hz (fun v H1 => v = .ref f ∧ H1 = Hz) Iz ⟨.ref f, g1, rfl, rfl⟩) fun u s1 ⟨v, H1, I1, r1, ev, eH⟩ => ?_)
  subst ev
  rw [eH] at I1
  obtain rfl : u = Value.ref f := r1
  have of1 := I1.base.keep f _ of nf fr (fun z => nomatch (show f ∈ ([] : List Addr) from z))
  refine PySem.W.callWith_F0 ⟨_, _, _, _, of1⟩ ?_
  have un : Un (frs X.stack) [] H Hz s.heap s1.heap := I1.base
  obtain ⟨⟨oc, vs, t, k1, k2, k3⟩, _, _⟩ := I1.hok c1 _ g2
  have rc : codeAny (model X.prog X.w) (X.A.deeper (envOfC qg sg s.heap.objs.size g cdg)) (.call (.ref f) ⟨[], []⟩) (CR (L2N.CX X.prog X.w) (envOfC qg sg s.heap.objs.size g cdg :: X.stack) X.prog X.w Hz s1 Q E) s1 := by
    refine PySem.W.kla_callFunE hr.depth of1 rfl L.co L.gen rfl ⟨c1, oc, vs, t, rfl, k1, k2, k3⟩ ?_
    rw [bd]
    refine wpAny_pure (wpAny_newFunctionEnv (fun y hy => (L.own y hy).2) (fun y hy => absurd hy (by simp)) (fun h1 hns hsb => ⟨I1.nolimit.fresh _ hsb, ?_⟩) L.kind)
    have J0 := lam_start2 (E := E) (f := f) (c' := c1) (tk := s1.toks + ([] : List (Str × Value)).length) I L I1.env0 hr.hd un hns fun b o e => hsb.extBut b o (Nat.ne_of_lt (Heap.lt_size e)) (Heap.get?_push_of_some _ e)
    have J : Inv (lamN X (X.A.deeper (envOfC qg sg s.heap.objs.size g cdg)) (envOfC qg sg s.heap.objs.size g cdg :: X.stack) s1 Hz E scope f c1) [] σ Hz { s1 with heap := h1, toks := s1.toks + ([] : List (Str × Value)).length } := J0.wish _
    show codeAny _ _ (.expr body (lamEnv X scope s1.heap.objs.size f c1)) _ _
    refine PySem.W.kla_codeExpr (wpAny_mono ((hbody _ _ s1 Hz (hr.deeper _)).run [] _ _ Hz Q J g3) (fun v s2 ⟨w1, H2, J2, rv, q⟩ => ⟨w1, H2, J2.os, J2.bare, J2.base, J2.hok, rv, q⟩) fun e s2 hq => hq)
  refine wpAny_call (codeAny_mono rc fun r s2 hq => ?_)
  cases r with
  | error e => exact tk e s2 (L2N.XE.of_call I1 (fun cls d H2 z => hW cls d σz H2 I1.len z) hq)
  | ok fl => cases fl with
    | ret u => exact I1.after hq
    | next => exact hq.elim
    | brk => exact hq.elim
    | cont => exact hq.elim
/-- a def called while an exception is handled, its body judged with that exception pinned -/
theorem hotRun {p : Addr × Obj} {f : Addr} {name qual y : Str} {params : Arguments} {body : List Stmt} {scope : Scope} {dV kV doc pm cdv ct oc : Value} {an od : Option Addr} {osl : Array (Option Value)} {N : List Str} {k : Nat} {v : V} {u : Value} {Q : VK}
    (lk : X.K.lookup f = some ⟨oc, od, .func (PySem.W.fnOf name qual params body scope dV kV doc pm an cdv ct), osl⟩) (hcd : PySem.W.codeIn X.K cdv qual = true) (S : FnScope N [y] scope) (hr : L2H.RoomH (k + 1) X.A) (hot : L2H.Hot1 X.A p) (hp : p ∈ X.pn)
    (hb : L2.Binds X.K (PySem.W.fnOf name qual params body scope dV kV doc pm an cdv ct) [y] []) (I : Inv X pins σ H s) (r : RelV v u)
    (hbody : ∃ t, PSs (L2H.cxH C8.CX0 X.prog X.w X.K X.mg X.base N qual scope f cdv X.A X.stack s H C8.E0 p) body t ∧ t { nx := fun _ H1 => Q .non H1, rt := Q } (L2.start N [v]) H) :
    wpAny (model X.prog X.w) X.A (call (.ref f) [u]) (EP X pins σ Q) X.xe s := by
  have bnd := hb s [u] I.kIn rfl
  rw [List.append_nil] at bnd
  have P1 := I.pin p (List.mem_append_left _ hp)
  have pk : L2H.PinOk X.stack H s p := ⟨P1.1, P1.2.1, fun hm => (List.mem_cons.mp (I.stkSub p.1 hm)).elim P1.2.2.1 P1.2.2.2.1, P1.2.2.2.2⟩
  have e0 := I.env0
  have kinds : ∀ z ∈ [y].zip [u], scope.names.lookup z.1 = some .local ∨ (scope.names.lookup z.1 = some .cell ∧ ((cellsFrom (s.heap.objs.size + 1) scope.names []).lookup z.1).isSome = true) := fun ⟨n, x⟩ hz => (S.par n (List.of_mem_zip hz).1).elim (fun q => .inl q) fun q => .inr ⟨q, PySem.W.cellsFrom_some _ _ _ (.inl q)⟩
  have rc : codeAny (model X.prog X.w) X.A (.call (.ref f) ⟨[u], []⟩) (CR C8.CX0 X.stack X.prog X.w H s Q C8.E0) s := by
    refine codeAny_call_function hr.depth (I.kIn _ _ lk) rfl S.co S.gen rfl (PySem.W.codeRec_of I.kIn hcd) (bnd _ _ _ _ ?_)
    refine wpAny_newFunctionEnv_cells S.kind kinds fun env he s1 x => ?_
    subst he
    refine ⟨I.nolimit.keeps x.toInCall.keep, codeAny_func ?_⟩
    obtain ⟨t, ht, hq⟩ := hbody
    have J := L2H.inv_startH (CX := C8.CX0) (E := C8.E0) (vs := [v]) (us := [u]) S pk e0 rfl (.cons r .nil) x
    refine wpAny_mono (ht.run [] s1 _ H _ J hq) (fun fl s2 hs => ?_) fun e s2 hs => hs
    cases fl with
    | ret u2 =>
      obtain ⟨w1, σ1, H1, J1, rv, q⟩ := hs
      exact ⟨w1, H1, J1.os, J1.bare, J1.base, J1.hok, rv, q⟩
    | next =>
      obtain ⟨σ1, H1, J1, q⟩ := hs
      exact ⟨.non, H1, J1.os, J1.bare, J1.base, J1.hok, rfl, q⟩
    | brk =>
      obtain ⟨_, _, _, q⟩ := hs
      exact q.elim
    | cont =>
      obtain ⟨_, _, _, q⟩ := hs
      exact q.elim
  refine wpAny_call (codeAny_mono rc fun r s2 hq => ?_)
  cases r with
  | error e => exact (show False from hq).elim
  | ok fl => cases fl with
    | ret u => exact I.after hq
    | next => exact hq.elim
    | brk => exact hq.elim
    | cont => exact hq.elim
end
end Mn
/-! Hot, part 5: told -/
namespace Mn
open PySem PySem.Spec PyProof.Rows L2 HotX LamX
/-- the error classes and the def that names them -/
structure Wd (K : PySem.W.Frag) (mg : Str → Option Value) (cl : Nat → Addr) (words : List Str) (f : Addr) (CS : Addr) : Prop where
  fn : ∃ (fd : FuncData) (params : Arguments) (l1 l2 : List (Str × P4)) (ws : List (Str × Pos)) (q : Nat → Pos) (sc scope : Scope) (q5 : P4),
    FunD K "_law_word" "_law_word" params (wordB l1 l2 ws q sc q5) scope [] [] f fd ∧ L2.Binds K fd [("e" : Str)] [] ∧ FnScope [("e" : Str), ("flags" : Str), ("flag" : Str)] [("e" : Str)] scope ∧
    scope.names.lookup ("e" : Str) = some NameKind.local ∧ scope.names.lookup ("flags" : Str) = some NameKind.local ∧ scope.names.lookup ("isinstance" : Str) = some NameKind.globalImplicit ∧ scope.names.lookup ("sum" : Str) = some NameKind.globalImplicit ∧ scope.names.lookup ("ValueError" : Str) = some NameKind.globalImplicit ∧
    BlkOk [("e" : Str), ("flags" : Str), ("flag" : Str)] scope sc [("flag", 2)] ∧ (relS sc scope).names.lookup ("flag" : Str) = some NameKind.local ∧ (relS sc scope).names.lookup ("int" : Str) = some NameKind.globalImplicit ∧
    (q 29).endLine = (q 31).line ∧ (ws.map fun w => w.1) = words ∧ words.length < 100 ∧ l1.length + l2.length = words.length ∧
    (∀ (i : Nat) (c : Str) (q : P4), (l1 ++ l2)[i]? = some (c, q) → scope.names.lookup c = some NameKind.globalImplicit ∧ (c == ("__debug__" : Str)) = false ∧ mg c = some (.ref (cl i)))
  mw : mg "_law_word" = some (.ref f)
  kw : PySem.W.keepIn K (.ref f) = true
  mi : mg "isinstance" = none
  ms : mg "sum" = none
  mv : mg "ValueError" = none
  mt : mg "int" = none
  mr : mg "RimError" = some (.ref CS)
  ec : ∀ j, j < words.length → ExcC K (cl j)
  kv : ∀ j, j < words.length → PySem.W.kitOne K (.ref (cl j)) (.type "ValueError") = some true
  kk : ∀ j i, j < words.length → i < words.length → PySem.W.kitOne K (.ref (cl j)) (.ref (cl i)) = some (decide (j = i))
  ke : ∀ j, j < words.length → PySem.W.exmOne K (.ref (cl j)) (.ref CS) = some true
theorem sum_one : ∀ (n j : Nat), j < n → ((List.range n).map fun i => if decide (j = i) = true then (1 : Int) else 0).sum = 1
  | 0, j, h => by omega
  | n + 1, j, h => by
    rw [List.range_succ, List.map_append, List.sum_append]
    by_cases hj : j < n
    · rw [sum_one n j hj]
      have : ¬ j = n := by omega
      simp [this]
    · have e : j = n := by omega
      subst e
      have z : ∀ m ≤ j, ((List.range m).map fun i => if decide (j = i) = true then (1 : Int) else 0).sum = 0 := fun m => by
        induction m with
        | zero => intro _; rfl
        | succ m ih =>
          intro hm
          rw [List.range_succ, List.map_append, List.sum_append, ih (by omega)]
          have : ¬ j = m := by omega
          simp [this]
      rw [z j (Nat.le_refl _)]
      simp
theorem shp_bools (bs : List Bool) : SeqAt.shaped (.list (bs.map PyData.bool)) = true := by
  have h1 : PyData.canLayAll0 (bs.map PyData.bool) = true := by
    induction bs with
    | nil => rfl
    | cons b bs ih => rw [List.map_cons, PyData.canLayAll0, ih]; rfl
  have h2 : PyData.depthAll (bs.map PyData.bool) ≤ 1 := by
    clear h1
    induction bs with
    | nil => exact Nat.zero_le _
    | cons b bs ih =>
      rw [List.map_cons, PyData.depthAll]
      exact Nat.max_le.mpr ⟨by unfold PyData.depth; decide, ih⟩
  unfold SeqAt.shaped
  rw [PyData.canLay0, h1, PyData.depth]
  simp
  omega
/-- the word of the exception that is handled -/
theorem word_call {X : Cx} {cl : Nat → Addr} {words : List Str} {f CS : Addr} {k j : Nat} {a : Addr} {oe : Obj} {w : Str} {pins : List (Addr × Obj)} {σ : L2.St} {H : Hp} {s : Shared} {Q : VK} (D : Wd X.K X.mg cl words f CS) (hr : L2H.RoomH (k + 1) X.A) (hot : L2H.Hot1 X.A (a, oe)) (hp : (a, oe) ∈ X.pn) (hz : Zc (.ref (cl j)) none oe) (hw : words[j]? = some w) (I : Inv X pins σ H s)
    (hQ : ∀ H1, (∀ b o, H b = some o → H1 b = some o) → Q (.str w) H1) : wpAny (model X.prog X.w) X.A (call (.ref f) [.ref a]) (EP X pins σ Q) X.xe s := by
  obtain ⟨fd, params, l1, l2, ws, q, sc, scope, q5, F, hb, S, s1, s2, s3, s4, s5, bo, b1, b2, hln, hws, h100, hll, hcs⟩ := D.fn
  obtain ⟨oc, od, dV, kV, doc, pm, an, cdv, ct, osl, rfl, lk, hcd, _, _⟩ := F.ex
  have hj : j < words.length := (List.getElem?_eq_some_iff.mp hw).1
  refine hotRun (p := (a, oe)) (v := .ref a) lk hcd S hr hot hp hb I rfl ?_
  have W : WX0 (L2H.cxH C8.CX0 X.prog X.w X.K X.mg X.base [("e" : Str), ("flags" : Str), ("flag" : Str)] "_law_word" scope f cdv X.A X.stack s H C8.E0 (a, oe)) a (cl j) oe :=
    ⟨rfl, .inl s1, rfl, s2, rfl, s3, D.mi, s4, D.ms, s5, D.mv, D.mt, D.ec j hj, hz, by obtain ⟨_, vs, e, _⟩ := hot; exact ⟨vs, e⟩, List.mem_singleton.mpr rfl, ⟨hot⟩, by have := hr.un; show X.A.units + 3 + 65 < _; omega, D.kv j hj⟩
  have bsl : (List.range words.length).map (fun i => decide (j = i)) = (List.range l1.length).map (fun i => decide (j = i)) ++ (List.range l2.length).map (fun i => decide (j = l1.length + i)) := by
    rw [← hll, List.range_add, List.map_append, List.map_map]
    rfl
  refine word_ok (b1 := (List.range l1.length).map fun i => decide (j = i)) (b2 := (List.range l2.length).map fun i => decide (j = l1.length + i)) (j := j) (w := w) W bo b1 b2 (fun i c qq e => ?_) (by simp) (fun i c qq e => ?_) (by simp) ?_ ?_ (fun m hm => ?_) (by rw [hws]; exact hw) (by rw [← bsl]; simpa using h100) (by have := congrArg List.length hws; rw [List.length_map] at this; omega) hln (shp_bools _) hQ
  · have hi : i < l1.length := (List.getElem?_eq_some_iff.mp e).1
    obtain ⟨g1, g2, g3⟩ := hcs i c qq (by rw [List.getElem?_append_left hi]; exact e)
    exact ⟨g1, g2, cl i, _, g3, D.kk j i hj (by omega), by simp [hi]⟩
  · have hi : i < l2.length := (List.getElem?_eq_some_iff.mp e).1
    obtain ⟨g1, g2, g3⟩ := hcs (l1.length + i) c qq (by rw [List.getElem?_append_right (by omega)]; simpa using e)
    exact ⟨g1, g2, cl (l1.length + i), _, g3, D.kk j (l1.length + i) hj (by omega), by simp [hi]⟩
  · rw [← bsl, List.map_map]
    exact sum_one words.length j hj
  · rw [← bsl]; simp [hj]
  · rw [← bsl]
    have : m < words.length := by omega
    simp [this]
    omega
/-- what told makes of the lambda's reading -/
def TTw (cl : Nat → Addr) (words : List Str) : (XK → Hp → VK → Prop) → Hp → VK → Prop := fun tl H Q =>
  tl (fun cls d H1 => ∃ j w, cls = .ref (cl j) ∧ d = none ∧ words[j]? = some w ∧ ∀ H2, (∀ b o, H1 b = some o → H2 b = some o) → Q (.str w) H2) H Q
/-- the def that calls what it got -/
structure Td (K : PySem.W.Frag) (mg : Str → Option Value) (g : Addr) : Prop where
  fn : ∃ (fd : FuncData) (pg : Arguments) (sg : Scope) (q : Nat → Pos),
    FunD K "_law_told" "_law_told" pg [.Try [.Return (some (.Call (.Name "deed" (q 0)) [] [] (q 1))) (q 2)] [.ExceptHandler (some (.Name "RimError" (q 3))) (some "e") [.Return (some (.Call (.Name "_law_word" (q 4)) [.Name "e" (q 5)] [] (q 6))) (q 7)] (q 8)] [] [] (q 9)] sg [] [] g fd ∧
    L2.Binds K fd [("deed" : Str)] [] ∧ FnScope [("deed" : Str), ("e" : Str)] [("deed" : Str)] sg ∧ sg.names.lookup ("deed" : Str) = some NameKind.local ∧ sg.names.lookup ("e" : Str) = some NameKind.local ∧ sg.names.lookup ("RimError" : Str) = some NameKind.globalImplicit ∧ sg.names.lookup ("_law_word" : Str) = some NameKind.globalImplicit
  mw : mg "_law_told" = some (.ref g)
  kw : PySem.W.keepIn K (.ref g) = true
theorem takesN0 {X : Cx} : L2N.Takes X (fun _ _ _ _ => False) := fun _ _ x => by
  obtain ⟨_, _, _, _, _, _, _, _, _, _, _, _, _, _, _, _, z⟩ := x
  exact z.elim
section
variable {X : Cx}
theorem pe_told {T : List (Addr × Str)} {cl : Nat → Addr} {words : List Str} {f CS g c P : Addr} {k : Nat} {params : Arguments} {body : Expr} {scope : Scope} {t : XK → TE} {p lpos pos : Pos} (D : Wd X.K X.mg cl words f CS) (G : Td X.K X.mg g) (hg : Gl X "_law_told")
    (TB : TabB X.base X.mg c P) (hcode : X.env.code = .ref c) (hmT : (P, X.env.qual ++ "<lambda>") ∈ T) (hu : ∀ p ∈ T, p.1 = P → p.2 = X.env.qual ++ "<lambda>") (hr : Room (k + 2) X.A) (L : LamS X.env.scope scope) (hdef : defaultsOf params X.env = ([], []))
    (hbind : ∀ (q : Str) (cl : List (Str × Addr)) (pm cv ctv : Value), bindArgs (PySem.W.kla_fn "<lambda>" q params body scope cl pm cv ctv) ⟨[], []⟩ = pure [])
    (hbody : ∀ (A : Around) (outer : List Env) (s : Shared) (H : Hp) (E : XK) (f c1 : Addr), Room k (A.deeper (lamEnv X scope s.heap.objs.size f c1)) → PE (lamN X A outer s H E scope f c1) body (t E)) :
    PE X (.Call (.Name "_law_told" p) [.Lambda params body scope lpos] [] pos) (tLam T (TTw cl words) t) := by
  obtain ⟨fd, pg, sg, q, F, hb, Sg, s1, s2, s3, s4⟩ := G.fn
  obtain ⟨oc, od, dV, kV, doc, pm, an, cdv, ct, osl, rfl, lk, hcg, _, _⟩ := F.ex
  refine ⟨fun pins s σ H Q I hh => ?_⟩
  obtain ⟨hT, hh⟩ := hh
  refine wpAny_Call_Name_kw (ld_glob I hg G.mw ?_)
  refine PySem.W.callWith_K (h₀ := X.base) I.ok.mod.kin G.kw ?_ (by rfl) (by rfl)
  show wpAny _ _ (spliced ((false, eval (.Lambda params body scope lpos) X.env) :: backTo pos (starEach [] X.env))) _ _ s
  refine Calls.spliced_cons (lam_make2 I TB hcode hmT hu hT hdef (L.has I.ok) fun f1 c1 pm1 ctv H1 sz I1 eN T1 of nf fr hco => ?_)
  refine Calls.spliced_nil ⟨I1.kIn, ?_⟩
  have rc : codeAny (model X.prog X.w) X.A (.call (.ref g) ⟨[.ref f1], []⟩) (CR C8.CX0 X.stack X.prog X.w H1 sz Q C8.E0) sz := by
    refine run_ofS (k := k + 1) (N := [("deed" : Str), ("e" : Str)]) (ps := [("deed" : Str)]) (us := [.ref f1]) (vs := [.ref f1]) lk hcg Sg hr I1.env0 (hb sz [.ref f1] I1.kIn rfl) (.cons rfl .nil) rfl fun hr1 => ?_
    refine ⟨_, PSs.nox (pss_one (L2N.ps_try_as (X := (cxOf C8.CX0 X.prog X.w X.K X.mg X.base [("deed" : Str), ("e" : Str)] "_law_told" sg g cdv X.A X.stack sz H1 C8.E0).nox) (c := .ref CS) (i := 1) (Wout := fun _ _ _ _ => False)
      (tb := fun W D σ1 H2 => ∃ Ech : XK, (∀ cls d (σ2 : L2.St) H3, σ2.length = 2 → Ech cls d H3 → W cls d σ2 H3) ∧ σ1[0]? = some (some (.ref f1)) ∧ H2 c1 = some (CodeO c1 (X.env.qual ++ "<lambda>")) ∧ t Ech σ H2 D.rt)
      (ts := fun a cls d E1 σ1 H2 => σ1[1]? = some (some (.ref a)) ∧ ∃ j w, cls = .ref (cl j) ∧ d = none ∧ words[j]? = some w ∧ ∀ H3, (∀ b o, H2 b = some o → H3 b = some o) → E1.rt (.str w) H3)
      rfl rfl Sg.nd rfl s2 ⟨s3, by decide, .inl D.mr⟩ takesN0 (fun W pn xe tk _ => ⟨fun p1 s3 σ3 H3 E3 I3 ⟨Ech, hW, h1, h2, h3⟩ => ?_⟩) (fun a oe cls d pn hz hf => pss_one (ps_ret (te := fun σ1 H2 Q2 => σ1[1]? = some (some (.ref a)) ∧ ∃ j w, cls = .ref (cl j) ∧ d = none ∧ words[j]? = some w ∧ ∀ H3, (∀ b o, H2 b = some o → H3 b = some o) → Q2 (.str w) H3) ⟨fun p1 s5 σ5 H5 Q5 I5 h5 => ?_⟩)))), ?_⟩
    · exact (pss_one (ps_ret (actN (CXg := C8.CX0) (Eg := C8.E0) (i := 0) I1 L of nf fr (hbind _ _ _ _ _) tk (fun cls d σ2 H2 hl z => hW cls d σ2 H2 hl z) hr1 (fun A outer s H hr2 => hbody A outer s H Ech f1 c1 hr2) rfl (.inl s1) (by decide) (by decide)))).run p1 s3 σ3 H3 E3 I3 ⟨h1, h2, h3⟩
    · obtain ⟨g1, j, w, rfl, rfl, hw, hq⟩ := h5
      refine wpAny_Call_Name_kw (ld_glob I5 s4 D.mw ?_)
      refine PySem.W.callWith_K (h₀ := X.base) I5.ok.mod.kin D.kw (thn ((pa_cons (pe_var (i := 1) (x := "e") (X := (cxOf C8.CX0 X.prog X.w X.K X.mg X.base [("deed" : Str), ("e" : Str)] "_law_told" sg g cdv X.A X.stack sz H1 C8.E0).nox.suite a ((a, oe) :: pn)) rfl (.inl s2)) pa_nil).run (q 6) p1 s5 σ5 H5 (fun vs H6 => vs = [.ref a] ∧ H6 = H5) I5 ⟨_, g1, rfl, rfl⟩) fun us s6 ⟨vs, H6, I6, r6, ev, eH⟩ => ⟨I6.kIn, ?_⟩) (by rfl) (by rfl)
      subst ev eH
      obtain rfl : us = [.ref a] := by
        cases r6 with
        | cons r1 r2 => cases r2; cases r1; rfl
      obtain ⟨vs0, hf0⟩ := hf
      exact word_call (k := k) (j := j) (w := w) (cl := cl) (words := words) (f := f) (CS := CS) D ⟨hr1.dp, hr1.un⟩ ⟨rfl, vs0, hf0, hz.2.2 vs0 hf0⟩ List.mem_cons_self hz.zc hw I6 hq
    · refine ⟨fun cls d H2 => ∃ j w, cls = .ref (cl j) ∧ d = none ∧ words[j]? = some w ∧ ∀ H3, (∀ b o, H2 b = some o → H3 b = some o) → Q (.str w) H3, fun cls d σ2 H3 hl ⟨j, w, e1, e2, e3, e4⟩ => ⟨true, by rw [e1]; exact D.ke j (List.getElem?_eq_some_iff.mp e3).1, fun _ a _ => ⟨by simp [hl], j, w, e1, e2, e3, e4⟩, fun z => by cases z⟩, rfl, hco, hh H1 eN T1⟩
  refine wpAny_call (codeAny_mono rc fun r sy hq => ?_)
  cases r with
  | error e => exact (show False from hq).elim
  | ok fl => cases fl with
    | ret u => exact I1.after hq
    | next => exact hq.elim
    | brk => exact hq.elim
    | cont => exact hq.elim
end
end Mn
/-! zip whose tuples are kept: the next item, whatever became of the tuple handed out last -/
namespace Zp
open PySem
/-- a zip between two turns -/
def ZS (h : Heap) (z TI TO : Addr) : Prop := ∃ (f0 : Value) (b : Bool), (f0 = .none ∨ ∃ T : Addr, f0 = rawInt T) ∧
  h.get? z = some { cls := .type "zip", dict := none, data := .fields #[f0, .bool b, .bool false, .ref TI, .ref TO], slots := #[] }
theorem ZS.at {h h' : Heap} {z TI TO : Addr} (x : ZS h z TI TO) (k : ∀ o, h.get? z = some o → h'.get? z = some o) : ZS h' z TI TO := by
  obtain ⟨f0, b, h1, h2⟩ := x
  exact ⟨f0, b, h1, k _ h2⟩
theorem ZS.of {h : Heap} {z TI TO : Addr} (x : IsZip h z TI TO .none) : ZS h z TI TO := ⟨.none, false, .inl rfl, x⟩
structure Sep (z TI TO i1 i2 : Addr) : Prop where
  TIz : TI ≠ z
  TOz : TO ≠ z
  az : i1 ≠ z
  bz : i2 ≠ z
  TIO : TI ≠ TO
  TIa : TI ≠ i1
  TIb : TI ≠ i2
  TOa : TO ≠ i1
  TOb : TO ≠ i2
  ab : i1 ≠ i2
section
variable {prog : Program} {w : World} {A : Around} {E : Value → Shared → Prop} {s : Shared}
theorem alive {a : Addr} {Q : Option Obj → Shared → Prop} (h : Q (s.heap.get? a) s) : wpAny (model prog w) A (loadIfAlive a) Q E s := fun _ _ _ => h
/-- is the tuple free: true, or false and the zip knows it -/
theorem isFree {z TI TO : Addr} {Q : Bool → Shared → Prop} (hz : ZS s.heap z TI TO) (h1 : Q true s) (h2 : ∀ h', ZS h' z TI TO → Heap.SameBut z s.heap h' → Q false { s with heap := h' }) :
    wpAny (model prog w) A (Builtin.SmallTypes.ownedTupleIsFree (.ref z)) Q E s := by
  obtain ⟨f0, b, e0, hz⟩ := hz
  unfold Builtin.SmallTypes.ownedTupleIsFree
  rcases e0 with rfl | ⟨T, rfl⟩
  · exact wpAny_bind (wpAny_field hz rfl (x := .none) rfl (wpAny_pure h1))
  · refine wpAny_bind (wpAny_field hz rfl (x := rawInt T) rfl ?_)
    show wpAny _ _ (loadIfAlive (Int.toNat (T : Int)) >>= _) _ _ _
    rw [Int.toNat_natCast]
    cases ho : s.heap.get? T with
    | some o =>
      refine wpAny_bind (alive ?_); rw [ho]; simp only [Option.isNone_some, Bool.false_eq_true, if_false]
      refine wpAny_bind (wpAny_field hz rfl (x := .bool b) rfl ?_)
      cases b with
      | true => rw [if_neg (show ¬ ((Value.bool true != Value.bool true) = true) from Bool.false_ne_true)]; exact wpAny_pure (h2 s.heap ⟨_, _, .inr ⟨T, rfl⟩, hz⟩ (Heap.SameBut.refl _ _))
      | false => rw [if_pos (show (Value.bool false != Value.bool true) = true from rfl)]; exact wpAny_bind (wpAny_setField_rec hz (by simp) fun h₁ hz₁ hs₁ => wpAny_pure (h2 h₁ ⟨_, true, .inr ⟨T, rfl⟩, hz₁⟩ hs₁))
    | none =>
      refine wpAny_bind (alive ?_); rw [ho]; exact wpAny_pure h1
variable {n1 n2 : Nat} {P1 P2 : Nat → Value → Prop} {St1 St2 : Nat → Heap → Prop} {fp1 fp2 : List Addr}
/-- the next pair -/
theorem next_item {z TI TO i1 i2 : Addr} {k : Nat} {a b : Value} {Q : Value → Shared → Prop} (D : Sep z TI TO i1 i2) (D1 : Draws prog w A i1 fp1 n1 P1 St1) (D2 : Draws prog w A i2 fp2 n2 P2 St2)
    (m1 : z ∉ fp1 ∧ TO ∉ fp1 ∧ i2 ∉ fp1) (m2 : z ∉ fp2 ∧ TO ∉ fp2 ∧ i1 ∉ fp2)
    (hz : ZS s.heap z TI TO) (hTI : IsPair s.heap TI (.ref i1) (.ref i2)) (hTO : IsPair s.heap TO a b) (s1 : St1 k s.heap) (s2 : St2 k s.heap) (k1 : k < n1) (k2 : k < n2)
    (hQ : ∀ h' tk x y, P1 k x → P2 k y → ZS h' z TI TO → (∃ a b, IsPair h' TO a b) → St1 (k + 1) h' → St2 (k + 1) h' → IsPair h' s.heap.objs.size x y → h'.objs.size = s.heap.objs.size + 1 →
      (∀ c o, c ≠ z → c ≠ TO → c ≠ i1 → c ≠ i2 → s.heap.get? c = some o → h'.get? c = some o) → Q (.ref s.heap.objs.size) { s with heap := h', toks := tk }) :
    wpAny (model prog w) A (Builtin.«zip.__next__» ⟨[.ref z], []⟩) (fun fin s' => ∃ v, fin = .done (.ret v) ∧ Q v s') E s := by
  obtain ⟨f0, b0, e0, hz0⟩ := id hz
  show wpAny _ _ (field (.ref z) 2 >>= fun _ => _) _ _ _
  refine wpAny_bind (wpAny_field hz0 rfl (x := .bool false) rfl ?_)
  show wpAny _ _ (field (.ref z) 3 >>= fun _ => _) _ _ _
  refine wpAny_bind (wpAny_field hz0 rfl (x := .ref TI) rfl (wpAny_bind (wpAny_seqItems hTI rfl ?_)))
  show wpAny _ _ (Builtin.SmallTypes.ownedTupleIsFree (.ref z) >>= fun _ => _) _ _ _
  refine wpAny_bind (isFree hz ?_ fun h1 hz1 q1 => ?_)
  · simp only [if_true]
    refine wpAny_bind (wpAny_rule (wpAny_bind (wpAny_field hz0 rfl (x := .ref TO) rfl (wpAny_bind (wpAny_setField_rec hz0 (by simp) fun h1 hz1 q1 => wpAny_bind ?_)))))
    simp only [List.zipIdx_cons, List.zipIdx_nil, List.forIn_cons, List.forIn_nil]
    have e1 : ∀ c o, c ≠ z → s.heap.get? c = some o → h1.get? c = some o := fun c o hc e => q1.extBut _ _ hc e
    refine wpAny_bind (wpAny_bind (wpAny_onRaise ?_))
    show wpAny _ _ (Builtin.SmallTypes.nextOf (.ref i1) >>= fun _ => _) _ _ _
    refine wpAny_bind (D1.item k { s with heap := h1 } _ _ k1 (D1.frame _ _ _ s1 fun b hb o e => e1 b o (fun z' => m1.1 (z' ▸ hb)) e) fun x h2 tk px t2 q2 => wpAny_pure ?_)
    have e2 : ∀ c o, c ≠ i1 → h1.get? c = some o → h2.get? c = some o := fun c o hc e => q2.extBut _ _ hc e
    have T2 : IsPair h2 TO a b := e2 _ _ D.TOa (e1 _ _ D.TOz hTO)
    refine wpAny_bind (wpAny_seqItems T2 rfl (wpAny_bind (wpAny_updateSeq_pair T2 fun h3 T3 q3 => wpAny_bind (wpAny_letGo (wpAny_pure ?_)))))
    replace T3 : IsPair h3 TO x b := T3
    have e3 : ∀ c o, c ≠ TO → h2.get? c = some o → h3.get? c = some o := fun c o hc e => q3.extBut _ _ hc e
    refine wpAny_bind (wpAny_bind (wpAny_onRaise ?_))
    show wpAny _ _ (Builtin.SmallTypes.nextOf (.ref i2) >>= fun _ => _) _ _ _
    refine wpAny_bind (D2.item k { s with heap := h3, toks := tk } _ _ k2 (D2.frame _ _ _ s2 fun b hb o e => e3 b o (fun z' => m2.2.1 (z' ▸ hb)) (e2 b o (fun z' => m2.2.2 (z' ▸ hb)) (e1 b o (fun z' => m2.1 (z' ▸ hb)) e))) fun y h4 tk2 py t4 q4 => wpAny_pure ?_)
    have e4 : ∀ c o, c ≠ i2 → h3.get? c = some o → h4.get? c = some o := fun c o hc e => q4.extBut _ _ hc e
    have T4 : IsPair h4 TO x b := e4 _ _ D.TOb T3
    refine wpAny_bind (wpAny_seqItems T4 rfl (wpAny_bind (wpAny_updateSeq_pair T4 fun h5 T5 q5 => wpAny_bind (wpAny_letGo (wpAny_pure (wpAny_pure ?_))))))
    replace T5 : IsPair h5 TO x y := T5
    have e5 : ∀ c o, c ≠ TO → h4.get? c = some o → h5.get? c = some o := fun c o hc e => q5.extBut _ _ hc e
    refine wpAny_bind (wpAny_seqItems T5 rfl (wpAny_bind (wpAny_newTuple ?_)))
    have hsz : h5.objs.size = s.heap.objs.size := by rw [q5.1, q4.1, q3.1, q2.1, q1.1]
    have z5 := e5 _ _ D.TOz.symm (e4 _ _ D.bz.symm (e3 _ _ D.TOz.symm (e2 _ _ D.az.symm hz1)))
    have al : ∀ c o, c ≠ z → c ≠ TO → c ≠ i1 → c ≠ i2 → s.heap.get? c = some o → h5.get? c = some o := fun c o c1 c2 c3 c4 e => e5 _ _ c2 (e4 _ _ c4 (e3 _ _ c2 (e2 _ _ c3 (e1 _ _ c1 e))))
    have t2' : St1 (k + 1) h5 := D1.frame _ _ _ t2 fun b hb o e => e5 b o (fun z' => m1.2.1 (z' ▸ hb)) (e4 b o (fun z' => m1.2.2 (z' ▸ hb)) (e3 b o (fun z' => m1.2.1 (z' ▸ hb)) e))
    have t4' : St2 (k + 1) h5 := D2.frame _ _ _ t4 fun b hb o e => e5 b o (fun z' => m2.2.1 (z' ▸ hb)) e
    show wpAny _ _ (Builtin.SmallTypes.ownedTupleHandOut (.ref z) (.ref h5.objs.size) >>= fun _ => _) _ _ _
    have zlt : z < h5.objs.size := Heap.lt_size z5
    refine wpAny_bind ?_
    unfold Builtin.SmallTypes.ownedTupleHandOut
    refine wpAny_bind (wpAny_setField_rec (Heap.get?_push_of_some _ z5) (by simp) fun h7 hz7 q7 => wpAny_setField_rec hz7 (by simp) fun h8 hz8 q8 => wpAny_pure ⟨_, rfl, ?_⟩)
    have up : ∀ c o, c ≠ z → h5.get? c = some o → h8.get? c = some o := fun c o c1 e => q8.extBut _ _ c1 (q7.extBut _ _ c1 (Heap.get?_push_of_some _ e))
    have hn : IsPair h8 h5.objs.size x y := q8.extBut _ _ (Nat.ne_of_gt zlt) (q7.extBut _ _ (Nat.ne_of_gt zlt) (Heap.get?_push_size _ rfl))
    have h8s : h8.objs.size = h5.objs.size + 1 := by rw [q8.1, q7.1, Heap.size_push]
    rw [hsz] at hn h8s
    show Q (.ref h5.objs.size) _
    rw [hsz]
    exact hQ h8 tk2 x y px py ⟨_, _, .inr ⟨_, rfl⟩, hz8⟩ ⟨x, y, up _ _ D.TOz T5⟩ (D1.frame _ _ _ t2' fun b hb o e => up b o (fun z' => m1.1 (z' ▸ hb)) e) (D2.frame _ _ _ t4' fun b hb o e => up b o (fun z' => m2.1 (z' ▸ hb)) e) hn h8s fun c o c1 c2 c3 c4 e => up c o c1 (al c o c1 c2 c3 c4 e)
  · simp only [Bool.false_eq_true, if_false]
    have e1 : ∀ c o, c ≠ z → s.heap.get? c = some o → h1.get? c = some o := fun c o hc e => q1.extBut _ _ hc e
    refine wpAny_bind ?_
    rw [← Array.forIn_toList]; simp only [List.forIn_cons, List.forIn_nil]
    refine wpAny_bind (wpAny_bind (wpAny_holding ?_))
    show wpAny _ _ (Builtin.SmallTypes.nextOf (.ref i1) >>= fun _ => _) _ _ _
    refine wpAny_bind (D1.item k { s with heap := h1 } _ _ k1 (D1.frame _ _ _ s1 fun b hb o e => e1 b o (fun z' => m1.1 (z' ▸ hb)) e) fun x h2 tk px t2 q2 => wpAny_pure (wpAny_pure ?_))
    have e2 : ∀ c o, c ≠ i1 → h1.get? c = some o → h2.get? c = some o := fun c o hc e => q2.extBut _ _ hc e
    refine wpAny_bind (wpAny_bind (wpAny_holding ?_))
    show wpAny _ _ (Builtin.SmallTypes.nextOf (.ref i2) >>= fun _ => _) _ _ _
    refine wpAny_bind (D2.item k { s with heap := h2, toks := tk } _ _ k2 (D2.frame _ _ _ s2 fun b hb o e => e2 b o (fun z' => m2.2.2 (z' ▸ hb)) (e1 b o (fun z' => m2.1 (z' ▸ hb)) e)) fun y h3 tk2 py t3 q3 => wpAny_pure (wpAny_pure (wpAny_pure ?_)))
    have e3 : ∀ c o, c ≠ i2 → h2.get? c = some o → h3.get? c = some o := fun c o hc e => q3.extBut _ _ hc e
    show wpAny _ _ (newTuple [x, y] >>= fun _ => _) _ _ _
    refine wpAny_bind (wpAny_newTuple (wpAny_pure ⟨_, rfl, ?_⟩))
    have hsz : h3.objs.size = s.heap.objs.size := by rw [q3.1, q2.1, q1.1]
    show Q (.ref h3.objs.size) _
    have hn : IsPair (h3.push { cls := .type "tuple", data := .seq #[x, y] }) h3.objs.size x y := Heap.get?_push_size _ rfl
    have h8s : (h3.push { cls := .type "tuple", data := .seq #[x, y] }).objs.size = h3.objs.size + 1 := Heap.size_push ..
    rw [hsz] at hn h8s ⊢
    have up : ∀ c o, h3.get? c = some o → (h3.push { cls := .type "tuple", data := .seq #[x, y] }).get? c = some o := fun c o e => Heap.get?_push_of_some _ e
    exact hQ _ tk2 x y px py (hz1.at fun o e => up _ o (e3 _ _ D.bz.symm (e2 _ _ D.az.symm e))) ⟨a, b, up _ _ (e3 _ _ D.TOb (e2 _ _ D.TOa (e1 _ _ D.TOz hTO)))⟩ (D1.frame _ _ _ t2 fun b hb o e => up b o (e3 b o (fun z' => m1.2.2 (z' ▸ hb)) e)) (D2.frame _ _ _ t3 fun b _ o e => up b o e) hn h8s
      fun c o c1 c2 c3 c4 e => up c o (e3 _ _ c4 (e2 _ _ c3 (e1 _ _ c1 e)))
/-- the end -/
theorem next_end {z TI TO i1 i2 : Addr} {k : Nat} {a b : Value} {Q : Fin → Shared → Prop} (D : Sep z TI TO i1 i2) (D1 : Draws prog w A i1 fp1 n1 P1 St1) (D2 : Draws prog w A i2 fp2 n2 P2 St2)
    (m1 : z ∉ fp1 ∧ TO ∉ fp1 ∧ i2 ∉ fp1) (m2 : z ∉ fp2 ∧ TO ∉ fp2 ∧ i1 ∉ fp2)
    (hz : ZS s.heap z TI TO) (hTI : IsPair s.heap TI (.ref i1) (.ref i2)) (hTO : IsPair s.heap TO a b) (s1 : St1 k s.heap) (s2 : St2 k s.heap) (hk : k = n1 ∨ (k < n1 ∧ k = n2))
    (hE : ∀ h' tk e, (∀ c o, c ≠ z → c ≠ TO → c ≠ i1 → c ≠ i2 → s.heap.get? c = some o → h'.get? c = some o) → (∃ o, h'.get? e = some o ∧ o.cls = .type "StopIteration") → E (.ref e) { s with heap := h', toks := tk }) :
    wpAny (model prog w) A (Builtin.«zip.__next__» ⟨[.ref z], []⟩) Q E s := by
  obtain ⟨f0, b0, e0, hz0⟩ := id hz
  show wpAny _ _ (field (.ref z) 2 >>= fun _ => _) _ _ _
  refine wpAny_bind (wpAny_field hz0 rfl (x := .bool false) rfl ?_)
  show wpAny _ _ (field (.ref z) 3 >>= fun _ => _) _ _ _
  refine wpAny_bind (wpAny_field hz0 rfl (x := .ref TI) rfl (wpAny_bind (wpAny_seqItems hTI rfl ?_)))
  show wpAny _ _ (Builtin.SmallTypes.ownedTupleIsFree (.ref z) >>= fun _ => _) _ _ _
  refine wpAny_bind (isFree hz ?_ fun h1 hz1 q1 => ?_)
  · simp only [if_true]
    refine wpAny_bind (wpAny_rule (wpAny_bind (wpAny_field hz0 rfl (x := .ref TO) rfl (wpAny_bind (wpAny_setField_rec hz0 (by simp) fun h1 hz1 q1 => wpAny_bind ?_)))))
    simp only [List.zipIdx_cons, List.zipIdx_nil, List.forIn_cons, List.forIn_nil]
    have e1 : ∀ c o, c ≠ z → s.heap.get? c = some o → h1.get? c = some o := fun c o hc e => q1.extBut _ _ hc e
    have f1 : St1 k h1 := D1.frame _ _ _ s1 fun b hb o e => e1 b o (fun z' => m1.1 (z' ▸ hb)) e
    have f2 : St2 k h1 := D2.frame _ _ _ s2 fun b hb o e => e1 b o (fun z' => m2.1 (z' ▸ hb)) e
    refine wpAny_bind (wpAny_bind (wpAny_onRaise ?_))
    show wpAny _ _ (Builtin.SmallTypes.nextOf (.ref i1) >>= fun _ => _) _ _ _
    rcases hk with rfl | ⟨k1, rfl⟩
    · refine wpAny_bind (D1.done { s with heap := h1 } _ _ f1 fun h2 e q2 he => ?_)
      obtain ⟨oe, hoe, hce⟩ := he
      have hz2 := q2 _ _ D.az.symm hz1
      have hez : e ≠ z := fun x => by subst x; rw [hz2] at hoe; cases hoe; simp at hce
      exact wpAny_setField_rec hz2 (by simp) fun h3 _ q3 => hE h3 s.toks e (fun c o c1 _ c3 _ x => q3.extBut _ _ c1 (q2 _ _ c3 (e1 _ _ c1 x))) ⟨oe, q3.extBut _ _ hez hoe, hce⟩
    · refine wpAny_bind (D1.item k { s with heap := h1 } _ _ k1 f1 fun x h2 tk px t2 q2 => wpAny_pure ?_)
      have T2 : IsPair h2 TO a b := q2.extBut _ _ D.TOa (e1 _ _ D.TOz hTO)
      refine wpAny_bind (wpAny_seqItems T2 rfl (wpAny_bind (wpAny_updateSeq_pair T2 fun h3 T3 q3 => wpAny_bind (wpAny_letGo (wpAny_pure ?_)))))
      refine wpAny_bind (wpAny_bind (wpAny_onRaise ?_))
      show wpAny _ _ (Builtin.SmallTypes.nextOf (.ref i2) >>= fun _ => _) _ _ _
      refine wpAny_bind (D2.done { s with heap := h3, toks := tk } _ _ (D2.frame _ _ _ f2 fun b hb o e => q3.extBut b o (fun z' => m2.2.1 (z' ▸ hb)) (q2.extBut b o (fun z' => m2.2.2 (z' ▸ hb)) e)) fun h4 e q4 he => ?_)
      obtain ⟨oe, hoe, hce⟩ := he
      have hz4 := q4 _ _ D.bz.symm (q3.extBut _ _ D.TOz.symm (q2.extBut _ _ D.az.symm hz1))
      have hez : e ≠ z := fun x => by subst x; rw [hz4] at hoe; cases hoe; simp at hce
      exact wpAny_setField_rec hz4 (by simp) fun h5 _ q5 => hE h5 tk e (fun c o c1 c2 c3 c4 x => q5.extBut _ _ c1 (q4 _ _ c4 (q3.extBut _ _ c2 (q2.extBut _ _ c3 (e1 _ _ c1 x))))) ⟨oe, q5.extBut _ _ hez hoe, hce⟩
  · simp only [Bool.false_eq_true, if_false]
    have e1 : ∀ c o, c ≠ z → s.heap.get? c = some o → h1.get? c = some o := fun c o hc e => q1.extBut _ _ hc e
    have f1 : St1 k h1 := D1.frame _ _ _ s1 fun b hb o e => e1 b o (fun z' => m1.1 (z' ▸ hb)) e
    have f2 : St2 k h1 := D2.frame _ _ _ s2 fun b hb o e => e1 b o (fun z' => m2.1 (z' ▸ hb)) e
    refine wpAny_bind ?_
    rw [← Array.forIn_toList]; simp only [List.forIn_cons, List.forIn_nil]
    refine wpAny_bind (wpAny_bind (wpAny_holding ?_))
    show wpAny _ _ (Builtin.SmallTypes.nextOf (.ref i1) >>= fun _ => _) _ _ _
    rcases hk with rfl | ⟨k1, rfl⟩
    · refine wpAny_bind (D1.done { s with heap := h1 } _ _ f1 fun h2 e q2 he => ?_)
      exact hE h2 s.toks e (fun c o c1 _ c3 _ x => q2 _ _ c3 (e1 _ _ c1 x)) he
    · refine wpAny_bind (D1.item k { s with heap := h1 } _ _ k1 f1 fun x h2 tk px t2 q2 => wpAny_pure (wpAny_pure ?_))
      refine wpAny_bind (wpAny_bind (wpAny_holding ?_))
      show wpAny _ _ (Builtin.SmallTypes.nextOf (.ref i2) >>= fun _ => _) _ _ _
      refine wpAny_bind (D2.done { s with heap := h2, toks := tk } _ _ (D2.frame _ _ _ f2 fun b hb o e => q2.extBut b o (fun z' => m2.2.2 (z' ▸ hb)) e) fun h4 e q4 he => ?_)
      exact hE h4 tk e (fun c o c1 c2 c3 c4 x => q4 _ _ c4 (q2.extBut _ _ c3 (e1 _ _ c1 x))) he
end
end Zp
/-! zip: next; a list of it -/
namespace Zp
open PySem
theorem zip_no_len : typeLookup (.type "zip") "__len__" = pure none := by rw [typeLookup_type, builtinLookup_eq_fast]; kernel_rfl
theorem zip_no_hint : typeLookup (.type "zip") "__length_hint__" = pure none := by rw [typeLookup_type, builtinLookup_eq_fast]; kernel_rfl
theorem ZS.type {s : Shared} {z TI TO : Addr} (x : ZS s.heap z TI TO) : s.TypeIs (.ref z) "zip" := let ⟨_, _, _, h⟩ := x; ⟨_, h, rfl⟩
/-- all of a zip between two turns -/
structure Zst (St1 St2 : Nat → Heap → Prop) (z TI TO i1 i2 : Addr) (k : Nat) (h : Heap) : Prop where
  zs : ZS h z TI TO
  ti : IsPair h TI (.ref i1) (.ref i2)
  to : ∃ x y, IsPair h TO x y
  one : St1 k h
  two : St2 k h
section
variable {prog : Program} {w : World} {A : Around} {E : Value → Shared → Prop} {s : Shared}
variable {n1 n2 : Nat} {P1 P2 : Nat → Value → Prop} {St1 St2 : Nat → Heap → Prop} {fp1 fp2 : List Addr} {z TI TO i1 i2 : Addr} {k : Nat}
theorem pyIter_zs {Q : Value → Shared → Prop} (hz : ZS s.heap z TI TO) (h : Q (.ref z) s) : wpAny (model prog w) A (pyIter (.ref z)) Q E s := by
  refine wpAny_pyIter_slot hz.type F.slot_zip_iter (wpAny_call_entry F.slot_zip_iter hz.type F.entry_zip_iter ?_ (F.args_zip_iter_1 _))
  show wpAny _ _ (ret (.ref z)) _ _ s; exact wpAny_pure ⟨_, rfl, "zip", _, hz.type, F.slot_zip_next.lookup, h⟩
theorem pyNext_item {Q : Option Value → Shared → Prop} (D : Sep z TI TO i1 i2) (D1 : Draws prog w A.in1 i1 fp1 n1 P1 St1) (D2 : Draws prog w A.in1 i2 fp2 n2 P2 St2)
    (m1 : z ∉ fp1 ∧ TO ∉ fp1 ∧ i2 ∉ fp1) (m2 : z ∉ fp2 ∧ TO ∉ fp2 ∧ i1 ∉ fp2) (st : Zst St1 St2 z TI TO i1 i2 k s.heap) (k1 : k < n1) (k2 : k < n2)
    (hQ : ∀ h' tk x y, P1 k x → P2 k y → Zst St1 St2 z TI TO i1 i2 (k + 1) h' → IsPair h' s.heap.objs.size x y → h'.objs.size = s.heap.objs.size + 1 →
      (∀ c o, c ≠ z → c ≠ TO → c ≠ i1 → c ≠ i2 → s.heap.get? c = some o → h'.get? c = some o) → Q (some (.ref s.heap.objs.size)) { s with heap := h', toks := tk }) :
    wpAny (model prog w) A (pyNext (.ref z)) Q E s := by
  obtain ⟨x0, y0, hTO⟩ := st.to
  unfold pyNext
  exact wpAny_bind (wpAny_attempt (wpAny_callSpecial?_slot (name := Str.ofString "__next__") st.zs.type F.slot_zip_next (wpAny_call_entry F.slot_zip_next st.zs.type F.entry_zip_next
    (next_item D D1 D2 m1 m2 st.zs st.ti hTO st.one st.two k1 k2 fun h' tk x y p1 p2 a1 a2 a3 a4 a5 a6 a7 => wpAny_pure (hQ h' tk x y p1 p2 ⟨a1, a7 _ _ D.TIz D.TIO D.TIa D.TIb st.ti, a2, a3, a4⟩ a5 a6 a7)) (F.args_zip_next_1 _))))
theorem pyNext_end {Q : Option Value → Shared → Prop} (D : Sep z TI TO i1 i2) (D1 : Draws prog w A.in1 i1 fp1 n1 P1 St1) (D2 : Draws prog w A.in1 i2 fp2 n2 P2 St2)
    (m1 : z ∉ fp1 ∧ TO ∉ fp1 ∧ i2 ∉ fp1) (m2 : z ∉ fp2 ∧ TO ∉ fp2 ∧ i1 ∉ fp2) (st : Zst St1 St2 z TI TO i1 i2 k s.heap) (hk : k = n1 ∨ (k < n1 ∧ k = n2))
    (hQ : ∀ h' tk, (∀ c o, c ≠ z → c ≠ TO → c ≠ i1 → c ≠ i2 → s.heap.get? c = some o → h'.get? c = some o) → Q none { s with heap := h', toks := tk }) :
    wpAny (model prog w) A (pyNext (.ref z)) Q E s := by
  obtain ⟨x0, y0, hTO⟩ := st.to
  unfold pyNext
  refine wpAny_bind (wpAny_attempt (wpAny_callSpecial?_slot (name := Str.ofString "__next__") st.zs.type F.slot_zip_next (wpAny_call_entry F.slot_zip_next st.zs.type F.entry_zip_next
    (next_end D D1 D2 m1 m2 st.zs st.ti hTO st.one st.two hk fun h' tk e a7 he => ?_) (F.args_zip_next_1 _))))
  obtain ⟨o, ho, hc⟩ := he
  exact wpAny_bind (wpAny_isInstance (T := "StopIteration") (b := true) ⟨o, ho, hc⟩ isSubtype_stop (wpAny_pure (hQ _ _ a7)))
theorem ne_lo {a b : Addr} {lo : Nat} (h : a < lo) (h2 : lo ≤ b) : b ≠ a := fun e => Nat.lt_irrefl _ (Nat.lt_of_lt_of_le h (e ▸ h2))
/-- the tuples made so far -/
def Made (P1 P2 : Nat → Value → Prop) (lo : Nat) (S : Addr) (h : Heap) (Ts : List Addr) : Prop :=
  Ts.Pairwise (· < ·) ∧ (∀ T ∈ Ts, lo ≤ T ∧ T < h.objs.size ∧ T ≠ S) ∧ ∀ j T, Ts[j]? = some T → ∃ x y, P1 j x ∧ P2 j y ∧ IsPair h T x y
theorem extend_loop {R : Result → Shared → Prop} {lo : Nat} (D : Sep z TI TO i1 i2) (D1 : Draws prog w A.in1.in1 i1 fp1 n1 P1 St1) (D2 : Draws prog w A.in1.in1 i2 fp2 n2 P2 St2)
    (m1 : z ∉ fp1 ∧ TO ∉ fp1 ∧ i2 ∉ fp1) (m2 : z ∉ fp2 ∧ TO ∉ fp2 ∧ i1 ∉ fp2) (S : Addr) (res : Value) (hS1 : S ∉ fp1) (hS2 : S ∉ fp2) (hSs : S ≠ z ∧ S ≠ TI ∧ S ≠ TO ∧ S ≠ i1 ∧ S ≠ i2) (hn : min n1 n2 ≤ sizeLine)
    (hlo : z < lo ∧ TO < lo ∧ i1 < lo ∧ i2 < lo ∧ S < lo + 1) (hT : ∀ (h : Heap), True) :
    ∀ (k i : Nat) (s : Shared) (Ts : List Addr) (c : Nat), min n1 n2 - i = k → i ≤ min n1 n2 → lo ≤ s.heap.objs.size → Zst St1 St2 z TI TO i1 i2 i s.heap → s.heap.get? S = some { cls := .type "list", dict := none, data := .seq (Ts.map Value.ref).toArray c, slots := #[] } → Ts.length = i → Made P1 P2 lo S s.heap Ts →
    (∀ h' tk (Ts : List Addr) c, (∀ b o, b ≠ S → b ≠ z → b ≠ TO → b ≠ i1 → b ≠ i2 → s.heap.get? b = some o → h'.get? b = some o) → h'.get? S = some { cls := .type "list", dict := none, data := .seq (Ts.map Value.ref).toArray c, slots := #[] } → Ts.length = min n1 n2 → Made P1 P2 lo S h' Ts → R (.ok (.ret res)) { s with heap := h', toks := tk }) →
    codeAny (model prog w) A (.builtin "list.extend.loop" ⟨[.ref S, .ref z, res], []⟩) R s := by
  intro k
  induction k with
  | zero =>
    intro i s Ts c hk hi hs st hS hl md hR
    refine codeAny_builtin F.entry_extend_loop ?_
    rw [Around.under_plainId F.plain_extend_loop _]
    show wpAny _ A.in1 (pyNext (.ref z) >>= fun _ => _) _ _ s
    refine wpAny_bind (pyNext_end D D1 D2 m1 m2 st (by omega) fun h' tk a7 => wpAny_pure (hR h' tk Ts c (fun b o h1 h2 h3 h4 h5 e => a7 b o h2 h3 h4 h5 e) (a7 _ _ hSs.1 hSs.2.2.1 hSs.2.2.2.1 hSs.2.2.2.2 hS) (by omega) ⟨md.1, fun T hT => ?_, fun j T e => ?_⟩))
    · obtain ⟨j, e⟩ := List.mem_iff_getElem?.mp hT
      obtain ⟨x, y, _, _, p⟩ := md.2.2 j T e
      obtain ⟨q1, q2, q3⟩ := md.2.1 T hT
      exact ⟨q1, Heap.lt_size (a7 _ _ (ne_lo hlo.1 q1) (ne_lo hlo.2.1 q1) (ne_lo hlo.2.2.1 q1) (ne_lo hlo.2.2.2.1 q1) p), q3⟩
    · obtain ⟨x, y, p1, p2, p⟩ := md.2.2 j T e
      obtain ⟨q1, q2, q3⟩ := md.2.1 T (List.mem_of_getElem? e)
      exact ⟨x, y, p1, p2, a7 _ _ (ne_lo hlo.1 q1) (ne_lo hlo.2.1 q1) (ne_lo hlo.2.2.1 q1) (ne_lo hlo.2.2.2.1 q1) p⟩
  | succ k ih =>
    intro i s Ts c hk hi hs st hS hl md hR
    refine codeAny_builtin F.entry_extend_loop ?_
    rw [Around.under_plainId F.plain_extend_loop _]
    show wpAny _ A.in1 (pyNext (.ref z) >>= fun _ => _) _ _ s
    refine wpAny_bind (pyNext_item D D1 D2 m1 m2 st (by omega) (by omega) fun h' tk x y p1 p2 st' hp hsz a7 => ?_)
    have hS' := a7 _ _ hSs.1 hSs.2.2.1 hSs.2.2.2.1 hSs.2.2.2.2 hS
    show wpAny _ A.in1 (updateSeq S (·.push (.ref s.heap.objs.size)) >>= fun _ => _) _ _ _
    have so : ∀ b o, b ≠ S → h'.get? b = some o → (h'.update S (Obj.mapSeq (·.push (Value.ref s.heap.objs.size)))).get? b = some o := fun b o hb e => (Heap.get?_update_other _ _ (Ne.symm hb)).trans e
    have hS2' : (h'.update S (Obj.mapSeq (·.push (Value.ref s.heap.objs.size)))).get? S = some { cls := .type "list", dict := none, data := .seq ((Ts ++ [s.heap.objs.size]).map Value.ref).toArray (c + 1), slots := #[] } := by
      have := Heap.get?_update_self (Obj.mapSeq (·.push (Value.ref s.heap.objs.size))) hS' rfl
      rw [this]
      simp [Obj.mapSeq]
    have hsz2 : (h'.update S (Obj.mapSeq (·.push (Value.ref s.heap.objs.size)))).objs.size = h'.objs.size := by simp
    refine wpAny_bind (wpAny_updateSeq hS' rfl (wpAny_pure ⟨plainId_quiet F.plain_extend_loop _, ih (i + 1) _ (Ts ++ [s.heap.objs.size]) _ (by omega) (by omega) ?_ ⟨st'.zs.at fun o e => so _ _ hSs.1.symm e, so _ _ hSs.2.1.symm st'.ti, ?_, D1.frame _ _ _ st'.one fun b hb o e => so b o (fun z' => hS1 (z' ▸ hb)) e, D2.frame _ _ _ st'.two fun b hb o e => so b o (fun z' => hS2 (z' ▸ hb)) e⟩ hS2' (by simp; omega) ⟨?_, ?_, ?_⟩ fun h2 tk2 Ts2 c2 b1 b2 b3 b4 => ?_⟩) (by simp; omega) (by simp; omega))
    · show lo ≤ (h'.update S _).objs.size
      rw [hsz2]; omega
    · obtain ⟨x', y', q⟩ := st'.to
      exact ⟨x', y', so _ _ hSs.2.2.1.symm q⟩
    · rw [List.pairwise_append]
      exact ⟨md.1, by simp, fun a ha b hb => by rw [List.mem_singleton.mp hb]; exact (md.2.1 a ha).2.1⟩
    · intro T hT
      show lo ≤ T ∧ T < (h'.update S _).objs.size ∧ T ≠ S
      rw [hsz2]
      rcases List.mem_append.mp hT with hT | hT
      · obtain ⟨q1, q2, q3⟩ := md.2.1 T hT
        exact ⟨q1, by rw [hsz]; exact Nat.lt_succ_of_lt q2, q3⟩
      · rw [List.mem_singleton.mp hT]
        exact ⟨hs, by rw [hsz]; exact Nat.lt_succ_self _, Nat.ne_of_gt (Heap.lt_size hS)⟩
    · intro j T e
      rcases Nat.lt_or_ge j Ts.length with hj | hj
      · rw [List.getElem?_append_left hj] at e
        obtain ⟨x', y', q1, q2, q3⟩ := md.2.2 j T e
        obtain ⟨r1, r2, r3⟩ := md.2.1 T (List.mem_of_getElem? e)
        exact ⟨x', y', q1, q2, so _ _ r3 (a7 _ _ (ne_lo hlo.1 r1) (ne_lo hlo.2.1 r1) (ne_lo hlo.2.2.1 r1) (ne_lo hlo.2.2.2.1 r1) q3)⟩
      · rw [List.getElem?_append_right hj] at e
        have hj0 : j - Ts.length = 0 := by
          rcases Nat.eq_zero_or_pos (j - Ts.length) with h0 | h0
          · exact h0
          · rw [List.getElem?_eq_none (by simp; omega)] at e; cases e
        rw [hj0] at e
        have e' : s.heap.objs.size = T := by simpa using e
        subst e'
        have hji : j = i := by omega
        subst hji
        exact ⟨x, y, p1, p2, so _ _ (Nat.ne_of_gt (Heap.lt_size hS)) hp⟩
    · exact hR h2 tk2 Ts2 c2 (fun b o q1 q2 q3 q4 q5 e => b1 b o q1 q2 q3 q4 q5 (so b o q1 (a7 b o q2 q3 q4 q5 e))) b2 b3 b4
/-- list(a zip) -/
theorem call_list {Q : Value → Shared → Prop} (D : Sep z TI TO i1 i2) (D1 : Draws prog w A.in1.in1.in1 i1 fp1 n1 P1 St1) (D2 : Draws prog w A.in1.in1.in1 i2 fp2 n2 P2 St2)
    (m1 : z ∉ fp1 ∧ TO ∉ fp1 ∧ i2 ∉ fp1) (m2 : z ∉ fp2 ∧ TO ∉ fp2 ∧ i1 ∉ fp2) (f1 : ∀ b ∈ fp1, b < s.heap.objs.size) (f2 : ∀ b ∈ fp2, b < s.heap.objs.size) (hn : min n1 n2 ≤ sizeLine)
    (l1 : z < s.heap.objs.size) (l2 : TI < s.heap.objs.size) (l3 : TO < s.heap.objs.size) (l4 : i1 < s.heap.objs.size) (l5 : i2 < s.heap.objs.size) (st : Zst St1 St2 z TI TO i1 i2 0 s.heap)
    (hQ : ∀ h' tk (Ts : List Addr) c, (∀ b o, b ≠ z → b ≠ TO → b ≠ i1 → b ≠ i2 → s.heap.get? b = some o → h'.get? b = some o) → h'.get? s.heap.objs.size = some { cls := .type "list", dict := none, data := .seq (Ts.map Value.ref).toArray c, slots := #[] } → Ts.length = min n1 n2 → Made P1 P2 s.heap.objs.size s.heap.objs.size h' Ts → Q (.ref s.heap.objs.size) { s with heap := h', toks := tk }) :
    wpAny (model prog w) A (call (.type "list") [.ref z]) Q E s := by
  refine callType_codes (Q₁ := fun obj s₁ => obj = .ref s.heap.objs.size ∧ s₁ = { s with heap := s.heap.push { cls := .type "list", data := .seq #[] } }) F.called_list (F.typeCall_list_1 _) F.entry_list_init (code_list_new _ ⟨rfl, rfl⟩) fun obj s₁ h₁ => ?_
  obtain ⟨rfl, rfl⟩ := h₁
  have up : ∀ b o, s.heap.get? b = some o → (s.heap.push { cls := .type "list", data := .seq #[] }).get? b = some o := fun b o e => Heap.get?_push_of_some _ e
  have hS : (s.heap.push { cls := .type "list", data := .seq #[] }).get? s.heap.objs.size = some { cls := .type "list", data := .seq #[] } := Heap.get?_push_size _ rfl
  refine ⟨⟨_, hS, rfl⟩, F.args_list_init_2 _ _, ?_⟩
  show wpAny _ _ (do let old ← Builtin.List.listItems (.ref s.heap.objs.size); Builtin.List.listUpdate (.ref s.heap.objs.size) (fun _ => #[]); letGo old.toList.reverse; Builtin.List.listExtendWith (.ref s.heap.objs.size) (.ref z) .none) _ _ _
  refine wpAny_bind ?_
  unfold Builtin.List.listItems
  refine wpAny_bind (wpAny_seqItems hS rfl (wpAny_pure ?_))
  show wpAny _ _ (updateSeq s.heap.objs.size (fun _ => #[]) >>= fun _ => letGo (#[] : Array Value).toList.reverse >>= fun _ => Builtin.List.listExtendWith (.ref s.heap.objs.size) (.ref z) .none) _ _ _
  refine wpAny_bind (wpAny_updateSeq hS rfl ?_)
  have hS₂ := Heap.get?_update_self (Obj.mapSeq (fun _ => (#[] : Array Value))) hS rfl
  have o1 : ∀ b o, b ≠ s.heap.objs.size → s.heap.get? b = some o → ((s.heap.push { cls := .type "list", data := .seq #[] }).update s.heap.objs.size (Obj.mapSeq (fun _ => (#[] : Array Value)))).get? b = some o := fun b o hb e => (Heap.get?_update_other _ _ (Ne.symm hb)).trans (up b o e)
  have st1 : Zst St1 St2 z TI TO i1 i2 0 ((s.heap.push { cls := .type "list", data := .seq #[] }).update s.heap.objs.size (Obj.mapSeq (fun _ => (#[] : Array Value)))) :=
    ⟨st.zs.at fun o e => o1 _ _ (Nat.ne_of_lt l1) e, o1 _ _ (Nat.ne_of_lt l2) st.ti, let ⟨x, y, q⟩ := st.to; ⟨x, y, o1 _ _ (Nat.ne_of_lt l3) q⟩, D1.frame _ _ _ st.one fun b hb o e => o1 b o (Nat.ne_of_lt (f1 b hb)) e, D2.frame _ _ _ st.two fun b hb o e => o1 b o (Nat.ne_of_lt (f2 b hb)) e⟩
  refine wpAny_bind (wpAny_letGo ?_)
  unfold Builtin.List.listExtendWith
  refine wpAny_bind (wpAny_typeOf (T := "zip") st1.zs.type ?_)
  have h1 : Builtin.List.listSameRef (.ref s.heap.objs.size) (.ref z) = false := by simp [Builtin.List.listSameRef]; exact Nat.ne_of_gt l1
  have h2 : (Value.type "zip" == Value.type "list") = false := by decide
  have h3 : (Value.type "zip" == Value.type "tuple") = false := by decide
  simp only [h1, h2, h3, Bool.or_false, Bool.false_eq_true, if_false]
  refine wpAny_bind (pyIter_zs st1.zs (wpAny_bind (wpAny_holding ?_)))
  unfold Builtin.List.listLengthHint
  refine wpAny_bind (wpAny_specialOf st1.zs.type zip_no_len ?_)
  show wpAny _ _ (specialOf (Value.ref z) (Str.ofString "__length_hint__") >>= fun _ => _) _ _ _
  refine wpAny_bind (wpAny_specialOf st1.zs.type zip_no_hint (wpAny_pure ?_))
  show wpAny _ _ (rule "list.extend.makes-room" >>= fun _ => Builtin.List.listTouch (.ref s.heap.objs.size) >>= fun _ => again (.builtin "list.extend.loop" ⟨[.ref s.heap.objs.size, .ref z, .none], []⟩)) _ _ _
  refine wpAny_bind (wpAny_rule (wpAny_bind ?_))
  show wpAny _ _ (updateSeq s.heap.objs.size (·.push .none) >>= fun _ => updateSeq s.heap.objs.size (·.pop)) _ _ _
  refine wpAny_bind (wpAny_updateSeq (hz := by seq_fits) hS₂ rfl ?_)
  have hS₃ := Heap.get?_update_self (Obj.mapSeq (·.push Value.none)) hS₂ rfl
  refine wpAny_updateSeq (hz := by seq_fits) hS₃ rfl ?_
  have hS₄ := Heap.get?_update_self (Obj.mapSeq (·.pop)) hS₃ rfl
  have o2 : ∀ b o, b ≠ s.heap.objs.size → s.heap.get? b = some o → ((((s.heap.push { cls := .type "list", data := .seq #[] }).update s.heap.objs.size (Obj.mapSeq (fun _ => (#[] : Array Value)))).update s.heap.objs.size (Obj.mapSeq (·.push Value.none))).update s.heap.objs.size (Obj.mapSeq (·.pop))).get? b = some o :=
    fun b o hb e => (Heap.get?_update_other _ _ (Ne.symm hb)).trans ((Heap.get?_update_other _ _ (Ne.symm hb)).trans (o1 b o hb e))
  refine wpAny_pure ⟨plainId_quiet F.plain_extend_loop _, extend_loop (lo := s.heap.objs.size) D D1 D2 m1 m2 s.heap.objs.size .none (fun hb => Nat.lt_irrefl _ (f1 _ hb)) (fun hb => Nat.lt_irrefl _ (f2 _ hb)) ⟨Nat.ne_of_gt l1, Nat.ne_of_gt l2, Nat.ne_of_gt l3, Nat.ne_of_gt l4, Nat.ne_of_gt l5⟩ hn ⟨l1, l3, l4, l5, Nat.lt_succ_self _⟩ (fun _ => True.intro) _ 0 _ [] _ rfl (Nat.zero_le _) (by simp) ?_ hS₄ rfl ⟨.nil, by simp, by simp⟩ fun h' tk Ts c b1 b2 b3 b4 => ?_⟩
  · exact ⟨st.zs.at fun o e => o2 _ _ (Nat.ne_of_lt l1) e, o2 _ _ (Nat.ne_of_lt l2) st.ti, let ⟨x, y, q⟩ := st.to; ⟨x, y, o2 _ _ (Nat.ne_of_lt l3) q⟩, D1.frame _ _ _ st.one fun b hb o e => o2 b o (Nat.ne_of_lt (f1 b hb)) e, D2.frame _ _ _ st.two fun b hb o e => o2 b o (Nat.ne_of_lt (f2 b hb)) e⟩
  · exact ⟨rfl, hQ h' tk Ts c (fun b o q1 q2 q3 q4 e => b1 b o (Nat.ne_of_lt (Heap.lt_size e)) q1 q2 q3 q4 (o2 b o (Nat.ne_of_lt (Heap.lt_size e)) e)) b2 b3 b4⟩
end
end Zp
/-! zip in the hand layer: walked under one name, lists of it -/
namespace Zp
open PySem PySem.Spec PyProof.Rows L2
theorem sep_of {z TI TO i1 i2 a b : Addr} (D : ZipApart z TI TO i1 i2 a b) : Sep z TI TO i1 i2 := ⟨D.TIz, D.TOz, D.i1z, D.i2z, D.TITO, D.TIi1, D.TIi2, D.TOi1, D.TOi2, D.i12⟩
theorem out1 {z TI TO i1 i2 a b : Addr} (D : ZipApart z TI TO i1 i2 a b) : z ∉ [i1, a] ∧ TO ∉ [i1, a] ∧ i2 ∉ [i1, a] := by
  simp only [List.mem_cons, List.not_mem_nil, or_false, not_or]
  exact ⟨⟨D.i1z.symm, D.l1z.symm⟩, ⟨D.TOi1, D.l1TO.symm⟩, ⟨D.i12.symm, D.l1i2.symm⟩⟩
theorem out2 {z TI TO i1 i2 a b : Addr} (D : ZipApart z TI TO i1 i2 a b) : z ∉ [i2, b] ∧ TO ∉ [i2, b] ∧ i1 ∉ [i2, b] := by
  simp only [List.mem_cons, List.not_mem_nil, or_false, not_or]
  exact ⟨⟨D.i2z.symm, D.l2z.symm⟩, ⟨D.TOi2, D.l2TO.symm⟩, ⟨D.i12, D.l2i1.symm⟩⟩
/-- what a kind of sequence is read by -/
structure Kind (P : Program) (w : World) (K : PySem.W.Frag) (S : Hp → Addr → List V → Prop) (II : Heap → Addr → Addr → Nat → Prop) (IQ : Heap → Addr → Array Value → Prop) : Prop where
  get : ∀ {X : Cx} {pins : List (Addr × Obj)} {σ : L2.St} {H : Hp} {s : Shared} {a : Addr} {xs : List V}, X.K = K → Inv X pins σ H s → S H a xs → ∃ its : List Value, Vals xs its ∧ IQ s.heap a its.toArray
  inj : ∀ {X : Cx} {pins : List (Addr × Obj)} {σ : L2.St} {H : Hp} {s : Shared} {a : Addr} {xs ys : List V}, X.K = K → Inv X pins σ H s → S H a xs → S H a ys → xs = ys
  dr : ∀ {A : Around}, A.handled = none → ∀ (it l : Addr) (items : Array Value), l ≠ it → Draws P w A it [it, l] items.size (fun i v => items[i]? = some v) (fun i h => II h it l i ∧ IQ h l items)
  obj : ∀ {h : Heap} {it l : Addr} {i : Nat}, II h it l i → ∃ o, h.get? it = some o ∧ ∀ v, o.data ≠ .cell v
  at' : ∀ {h h' : Heap} {it l : Addr} {i : Nat}, II h it l i → (∀ o, h.get? it = some o → h'.get? it = some o) → II h' it l i
theorem kindL {P : Program} {w : World} {K : PySem.W.Frag} : Kind P w K (SqL K) (fun h it l i => h.IsListIter it l i) (fun h l its => h.IsList l its) where
  get := fun e I h => by
    subst e
    obtain ⟨its, rv, p, _⟩ := I.list h
    exact ⟨its, rv, p.isList⟩
  inj := fun e I h h' => by subst e; exact I.list_inj h h'
  dr := fun hh it l items hne => Draws.list hh it l hne items
  obj := fun ⟨o, e, _, d⟩ => ⟨o, e, fun v q => by rw [d] at q; cases q⟩
  at' := fun h k => h.at k
theorem kindT {P : Program} {w : World} {K : PySem.W.Frag} : Kind P w K (SqT K) (fun h it l i => h.IsTupleIter it l i) (fun h l its => h.IsTuple l its) where
  get := fun e I h => by
    subst e
    obtain ⟨its, rv, p, _⟩ := I.tuple h
    exact ⟨its, rv, p⟩
  inj := fun e I h h' => by subst e; exact I.tuple_inj h h'
  dr := fun hh it l items hne => Draws.tuple hh it l hne items
  obj := fun ⟨o, e, _, d⟩ => ⟨o, e, fun v q => by rw [d] at q; cases q⟩
  at' := fun h k => h.at k
/-- the turns -/
def ItS (S : Hp → Addr → List V → Prop) (a b : Addr) : It :=
  ⟨fun i H => ∃ (xs ys : List V) (x y : V), S H a xs ∧ S H b ys ∧ xs[i]? = some x ∧ ys[i]? = some y,
   fun i H v H' => ∃ T x y, v = .ref T ∧ H T = none ∧ H' = upd H T (.tup [x, y]) ∧ (∀ xs, S H a xs → xs[i]? = some x) ∧ ∀ ys, S H b ys → ys[i]? = some y,
   fun i H => ∃ xs ys : List V, S H a xs ∧ S H b ys ∧ (xs.length = i ∨ (i < xs.length ∧ ys.length = i))⟩
theorem turn {P : Program} {w : World} {K : PySem.W.Frag} {S : Hp → Addr → List V → Prop} {II : Heap → Addr → Addr → Nat → Prop} {IQ : Heap → Addr → Array Value → Prop} (Kd : Kind P w K S II IQ) {y : Str} {tpos : Pos} {a b z TI TO i1 i2 : Addr} (D : ZipApart z TI TO i1 i2 a b) :
    Turn P w K (.Name y tpos) (ItS S a b) [z, TI, TO, i1, i2] z (fun i h => Zst (fun i h => II h i1 a i) (fun i h => II h i2 b i) z TI TO i1 i2 i h) where
  mem := List.mem_cons_self
  obj := fun i h st c hc => by
    obtain ⟨f0, b0, _, hz⟩ := st.zs
    obtain ⟨x, y, hTO⟩ := st.to
    simp only [List.mem_cons, List.not_mem_nil, or_false] at hc
    rcases hc with rfl | rfl | rfl | rfl | rfl
    · exact ⟨_, hz, fun v q => nomatch q⟩
    · exact ⟨_, st.ti, fun v q => nomatch q⟩
    · exact ⟨_, hTO, fun v q => nomatch q⟩
    · exact Kd.obj st.one
    · exact Kd.obj st.two
  keep := fun i h h' st k => by
    obtain ⟨x, y, hTO⟩ := st.to
    exact ⟨st.zs.at fun o q => k z (by simp) o q, k TI (by simp) _ st.ti, ⟨x, y, k TO (by simp) _ hTO⟩, Kd.at' st.one fun o q => k i1 (by simp) o q, Kd.at' st.two fun o q => k i2 (by simp) o q⟩
  item := by
    intro X hP hw hK hc i pins s σ H E I hf st hg
    subst hP hw
    obtain ⟨xs, ys, x, y, hqx, hqy, hx, hy⟩ := hg
    obtain ⟨its, rv, p⟩ := Kd.get hK I hqx
    obtain ⟨its2, rv2, p2⟩ := Kd.get hK I hqy
    obtain ⟨u, hu, ru⟩ := rv.get hx
    obtain ⟨u2, hu2, ru2⟩ := rv2.get hy
    have lx : i < its.toArray.size := by simpa using (List.getElem?_eq_some_iff.mp hu).1
    have ly : i < its2.toArray.size := by simpa using (List.getElem?_eq_some_iff.mp hu2).1
    have hA : X.A.in1.handled = none := I.ok.hd hc
    refine pyNext_item (sep_of D) (Kd.dr hA i1 a its.toArray D.l1i1) (Kd.dr hA i2 b its2.toArray D.l2i2) (out1 D) (out2 D) ⟨st.zs, st.ti, st.to, ⟨st.one, p⟩, ⟨st.two, p2⟩⟩ lx ly fun h' tk v1 v2 e1 e2 st' hT hsz hk => ?_
    have e1' : v1 = u := by have : its.toArray[i]? = some u := by simpa using hu
                            rw [this] at e1; exact (Option.some.inj e1).symm
    have e2' : v2 = u2 := by have : its2.toArray[i]? = some u2 := by simpa using hu2
                             rw [this] at e2; exact (Option.some.inj e2).symm
    subst e1' e2'
    have new : ObjOk X.prog X.w (upd H s.heap.objs.size (.tup [x, y])) h' s.heap.objs.size (.tup [x, y]) := ⟨by show 2 ≤ sizeLine; decide, [v1, v2], .cons ru (.cons ru2 .nil), ⟨_, hT, rfl, _, rfl⟩⟩
    have I1 : Inv X pins σ (upd H s.heap.objs.size (.tup [x, y])) { s with heap := h', toks := tk } :=
      I.turnedNew (ch := [z, TI, TO, i1, i2]) (fun c o hb q => hk c o (fun q' => hb (by simp [q'])) (fun q' => hb (by simp [q'])) (fun q' => hb (by simp [q'])) (fun q' => hb (by simp [q'])) q) hf (Nat.le_refl _) new
    refine ⟨_, rfl, wpAny_pure ⟨.ref s.heap.objs.size, _, I1, rfl, ⟨_, x, y, rfl, I.hok.fresh (Nat.le_refl _), rfl, fun l hl => by rw [Kd.inj hK I hl hqx]; exact hx, fun l hl => by rw [Kd.inj hK I hl hqy]; exact hy⟩, ⟨st'.zs, st'.ti, st'.to, st'.one.1, st'.two.1⟩, fun c hcm => ?_⟩⟩
    have hn := (hf c hcm).1
    have : c < s.heap.objs.size := by
      obtain ⟨f0, b0, _, hz⟩ := st.zs
      obtain ⟨x, y, hTO⟩ := st.to
      simp only [List.mem_cons, List.not_mem_nil, or_false] at hcm
      rcases hcm with rfl | rfl | rfl | rfl | rfl
      · exact Heap.lt_size hz
      · exact Heap.lt_size st.ti
      · exact Heap.lt_size hTO
      · exact let ⟨_, e, _⟩ := Kd.obj st.one; Heap.lt_size e
      · exact let ⟨_, e, _⟩ := Kd.obj st.two; Heap.lt_size e
    rw [upd_ne (Nat.ne_of_lt this)]; exact hn
  done := by
    intro X hP hw hK hc i pins s σ H E I hf st hg
    subst hP hw
    obtain ⟨xs, ys, hqx, hqy, hend⟩ := hg
    obtain ⟨its, rv, p⟩ := Kd.get hK I hqx
    obtain ⟨its2, rv2, p2⟩ := Kd.get hK I hqy
    have l1 := rv.length
    have l2 := rv2.length
    have hA : X.A.in1.handled = none := I.ok.hd hc
    exact pyNext_end (sep_of D) (Kd.dr hA i1 a its.toArray D.l1i1) (Kd.dr hA i2 b its2.toArray D.l2i2) (out1 D) (out2 D) ⟨st.zs, st.ti, st.to, ⟨st.one, p⟩, ⟨st.two, p2⟩⟩ (by simp; omega) fun h' tk hk => ⟨rfl, I.turnedL (ch := [z, TI, TO, i1, i2]) (fun c o hb q =>
      hk c o (fun q' => hb (by simp [q'])) (fun q' => hb (by simp [q'])) (fun q' => hb (by simp [q'])) (fun q' => hb (by simp [q'])) q) hf⟩
  self := fun A i s Q E st h => pyIter_zs st.zs h
theorem lookup_at {α : Type} : ∀ {Ts : List Nat} {os : List α} {j T : Nat} {o : α}, Ts.Pairwise (· < ·) → Ts[j]? = some T → os[j]? = some o → (Ts.zip os).lookup T = some o
  | [], _, _, _, _, _, h, _ => by simp at h
  | _ :: _, [], _, _, _, _, _, h => by simp at h
  | t :: ts, o' :: os, 0, T, o, _, h1, h2 => by simp at h1 h2; subst h1 h2; simp
  | t :: ts, o' :: os, j + 1, T, o, nd, h1, h2 => by
    rw [List.pairwise_cons] at nd
    have h1' : ts[j]? = some T := by simpa using h1
    have : t < T := nd.1 T (List.mem_of_getElem? h1')
    rw [List.zip_cons_cons, List.lookup_cons]
    have hb : (T == t) = false := by simp; omega
    rw [hb]
    exact lookup_at nd.2 h1' (by simpa using h2)
theorem lookup_in {α : Type} : ∀ {Ts : List Nat} {os : List α} {T : Nat} {o : α}, (Ts.zip os).lookup T = some o → ∃ j : Nat, Ts[j]? = some T ∧ os[j]? = some o
  | [], _, _, _, h => by simp at h
  | _ :: _, [], _, _, h => by simp at h
  | t :: ts, o' :: os, T, o, h => by
    rw [List.zip_cons_cons, List.lookup_cons] at h
    cases hb : T == t with
    | true =>
      rw [hb] at h
      have e : T = t := by simpa using hb
      subst e
      exact ⟨0, by simp, by simpa using h⟩
    | false =>
      rw [hb] at h
      obtain ⟨j, h1, h2⟩ := lookup_in h
      exact ⟨j + 1, by simpa using h1, by simpa using h2⟩
theorem vget : ∀ {xs : List V} {us : List Value} {i : Nat} {u : Value}, Vals xs us → us[i]? = some u → ∃ x, xs[i]? = some x ∧ RelV x u
  | _, _, _, _, .nil, h => by simp at h
  | _, _, 0, _, .cons r _, h => by simp at h; subst h; exact ⟨_, rfl, r⟩
  | _, _, i + 1, _, .cons _ rr, h => by
    obtain ⟨x, h1, h2⟩ := vget (i := i) rr (by simpa using h)
    exact ⟨x, by simpa using h1, h2⟩
/-- new things laid -/
def layAll (H : Hp) (ps : List (Addr × HO)) : Hp := fun q => match ps.lookup q with | some o => some o | none => H q
/-- zip(a, b) under one name: of two lists, or two tuples -/
def iZipN (K : PySem.W.Frag) (ta : TA) : TI := fun σ H R => ta σ H fun vs H1 => ∃ a b xs ys, vs = [.ref a, .ref b] ∧ ((SqL K H1 a xs ∧ SqL K H1 b ys ∧ R (ItS (SqL K) a b) H1) ∨ (SqT K H1 a xs ∧ SqT K H1 b ys ∧ R (ItS (SqT K) a b) H1))
theorem five {X : Cx} {pins : List (Addr × Obj)} {σ : L2.St} {H : Hp} {s : Shared} (I : Inv X pins σ H s) : ∀ c ∈ [s.heap.objs.size + 4, s.heap.objs.size + 2, s.heap.objs.size + 3, s.heap.objs.size, s.heap.objs.size + 1], FpOk X pins H c := fun c hcm => by
  have hle : s.heap.objs.size ≤ c := by
    simp only [List.mem_cons, List.not_mem_nil, or_false] at hcm
    rcases hcm with rfl | rfl | rfl | rfl | rfl <;> first | exact Nat.le_add_right _ _ | exact Nat.le_refl _
  exact I.fpOk hle (I.hok.fresh hle)
theorem pi_zipN {X : Cx} {e e2 : Expr} {ta : TA} {y : Str} {p pos tpos : Pos} (hg : Gl X "zip") (hm : X.mg "zip" = none) (ha : PA X [e, e2] ta)
    (hs : starEach [e, e2] X.env = (false, eval e X.env) :: starEach [e2] X.env := by rfl) (hpl : (backTo pos (starEach [e2] X.env)).any (·.1) = false := by rfl) :
    PI X (.Name y tpos) (.Call (.Name "zip" p) [e, e2] [] pos) (iZipN X.K ta) := by
  refine ⟨fun pins s σ H R I h => ?_⟩
  refine Call_ (ld_blt I hg hm PyProof.Rows.boot_zip (PyProof.Rows.callWith_type1 (thn (ha.run pos pins s σ H _ I h) fun us s1 ⟨vs, H1, I1, r1, q1⟩ => ?_) hs hpl))
  obtain ⟨a, b, xs, ys, rfl, q1⟩ := q1
  cases r1 with
  | cons r rr =>
    cases rr with
    | cons r' rr =>
      cases rr
      cases r
      cases r'
      rcases q1 with ⟨hqx, hqy, q⟩ | ⟨hqx, hqy, q⟩
      · obtain ⟨its, rv, p1, _⟩ := I1.list hqx
        obtain ⟨its2, rv2, p2, _⟩ := I1.list hqy
        refine call_zip_2 p1.isList p2.isList fun h' hz hTI hTO h1 h2 hsz hk => wpAny_pyIter_zip hz ?_
        have I2 : Inv X pins σ H1 { s1 with heap := h' } := I1.kept (t' := s1.toks) hk
        exact ⟨s1.heap.objs.size + 4, [s1.heap.objs.size + 4, s1.heap.objs.size + 2, s1.heap.objs.size + 3, s1.heap.objs.size, s1.heap.objs.size + 1], _, ItS (SqL X.K) a b, H1, rfl, I2, turn kindL (PySem.W.ktu_apart s1.heap.objs.size a b p1.lt p2.lt), ⟨ZS.of hz, hTI, ⟨_, _, hTO⟩, h1, h2⟩, five I1, q⟩
      · obtain ⟨its, rv, p1, _⟩ := I1.tuple hqx
        obtain ⟨its2, rv2, p2, _⟩ := I1.tuple hqy
        obtain ⟨o1, ho1, _⟩ := id p1
        obtain ⟨o2, ho2, _⟩ := id p2
        refine RZ.call_zipT (show s1.heap.IsTuple a its.toArray from p1) (show s1.heap.IsTuple b its2.toArray from p2) fun h' hz hTI hTO h1 h2 hsz hk => wpAny_pyIter_zip hz ?_
        have I2 : Inv X pins σ H1 { s1 with heap := h' } := I1.kept (t' := s1.toks) hk
        exact ⟨s1.heap.objs.size + 4, [s1.heap.objs.size + 4, s1.heap.objs.size + 2, s1.heap.objs.size + 3, s1.heap.objs.size, s1.heap.objs.size + 1], _, ItS (SqT X.K) a b, H1, rfl, I2, turn kindT (PySem.W.ktu_apart s1.heap.objs.size a b (Heap.lt_size ho1) (Heap.lt_size ho2)), ⟨ZS.of hz, hTI, ⟨_, _, hTO⟩, h1, h2⟩, five I1, q⟩
/-- list(zip(a, b)) of two lists: a new list of new pairs -/
def tLZ (K : PySem.W.Frag) (ta : TA) : TE := fun σ H Q => ta σ H fun vs H1 => ∃ (a b : Addr) (xs ys : List V), vs = [.ref a, .ref b] ∧ SqL K H1 a xs ∧ SqL K H1 b ys ∧
  ∀ (H' : Hp) (S : Addr) (Ts : List Addr), (∀ q o, H1 q = some o → H' q = some o) → H' S = some (.lst (Ts.map V.ref)) → H1 S = none → Ts.length = min xs.length ys.length →
    (∀ (j : Nat) (T : Addr), Ts[j]? = some T → ∃ x y, xs[j]? = some x ∧ ys[j]? = some y ∧ H' T = some (.tup [x, y]) ∧ H1 T = none) → Q (.ref S) H'
theorem fill {X : Cx} {pins : List (Addr × Obj)} {σ : L2.St} {H1 : Hp} {s1 : Shared} {h2 : Heap} {tk c : Nat} {S : Addr} {Ts : List Addr} {xs ys : List V} (I1 : Inv X pins σ H1 s1) (keep : ∀ q o, s1.heap.get? q = some o → h2.get? q = some o)
    (hS : s1.heap.objs.size ≤ S) (b2 : h2.get? S = some { cls := .type "list", dict := none, data := .seq (Ts.map Value.ref).toArray c, slots := #[] }) (m1 : Ts.Pairwise (· < ·)) (m2 : ∀ T ∈ Ts, s1.heap.objs.size ≤ T ∧ T ≠ S) (hl : Ts.length ≤ sizeLine)
    (item : ∀ (j : Nat) (T : Addr), Ts[j]? = some T → ∃ x y, xs[j]? = some x ∧ ys[j]? = some y ∧ ∃ u v, RelV x u ∧ RelV y v ∧ IsPair h2 T u v) :
    ∃ H' : Hp, Inv X pins σ H' { s1 with heap := h2, toks := tk } ∧ (∀ q o, H1 q = some o → H' q = some o) ∧ H' S = some (.lst (Ts.map V.ref)) ∧ ∀ (j : Nat) (T : Addr), Ts[j]? = some T → ∃ x y, xs[j]? = some x ∧ ys[j]? = some y ∧ H' T = some (.tup [x, y]) ∧ H1 T = none := by
  let os : List HO := (xs.zip ys).map fun p => .tup [p.1, p.2]
  let H' : Hp := layAll H1 ((S, .lst (Ts.map V.ref)) :: Ts.zip os)
  have osj : ∀ {j : Nat} {x y : V}, xs[j]? = some x → ys[j]? = some y → os[j]? = some (.tup [x, y]) := fun {j x y} h1 h2 => by
    show ((xs.zip ys).map _)[j]? = _
    rw [List.getElem?_map, (List.getElem?_zip_eq_some (z := (x, y))).mpr ⟨h1, h2⟩]; rfl
  have atS : H' S = some (.lst (Ts.map V.ref)) := by
    show layAll _ _ _ = _
    unfold layAll
    rw [List.lookup_cons]; simp
  have low : ∀ q, q < s1.heap.objs.size → H' q = H1 q := fun q hq => by
    show layAll _ _ _ = _
    unfold layAll
    rw [List.lookup_cons]
    have hb : (q == S) = false := by simp; exact Nat.ne_of_lt (Nat.lt_of_lt_of_le hq hS)
    rw [hb]
    cases hk : (Ts.zip os).lookup q with
    | none => simp [hk]
    | some o =>
      obtain ⟨j, e1, _⟩ := lookup_in hk
      exact absurd (m2 q (List.mem_of_getElem? e1)).1 (Nat.not_le_of_gt hq)
  have atT : ∀ (j : Nat) (T : Addr), Ts[j]? = some T → ∃ x y, xs[j]? = some x ∧ ys[j]? = some y ∧ H' T = some (.tup [x, y]) ∧ ∃ u v, RelV x u ∧ RelV y v ∧ IsPair h2 T u v := fun j T e => by
    obtain ⟨x, y, ex, ey, r⟩ := item j T e
    refine ⟨x, y, ex, ey, ?_, r⟩
    show layAll _ _ _ = _
    unfold layAll
    rw [List.lookup_cons]
    have hb : (T == S) = false := by simp; exact (m2 T (List.mem_of_getElem? e)).2
    rw [hb]
    simp only
    rw [lookup_at m1 e (osj ex ey)]
  have cases' : ∀ q o, H' q = some o → (q < s1.heap.objs.size ∧ H1 q = some o) ∨ (q = S ∧ o = .lst (Ts.map V.ref)) ∨ (s1.heap.objs.size ≤ q ∧ H1 q = some o) ∨ ∃ j : Nat, Ts[j]? = some q ∧ os[j]? = some o := fun q o e => by
    have e' : layAll H1 ((S, .lst (Ts.map V.ref)) :: Ts.zip os) q = some o := e
    unfold layAll at e'
    rw [List.lookup_cons] at e'
    cases hb : q == S with
    | true =>
      rw [hb] at e'
      exact .inr (.inl ⟨by simpa using hb, by simpa using e'.symm⟩)
    | false =>
      rw [hb] at e'
      cases hk : (Ts.zip os).lookup q with
      | none =>
        simp only [hk] at e'
        rcases Nat.lt_or_ge q s1.heap.objs.size with h | h
        · exact .inl ⟨h, e'⟩
        · exact .inr (.inr (.inl ⟨h, e'⟩))
      | some o' =>
        simp only [hk] at e'
        cases e'
        exact .inr (.inr (.inr (lookup_in hk)))
  have h1n : ∀ q, s1.heap.objs.size ≤ q → H1 q = none := fun q hq => I1.hok.fresh hq
  have lt1 : ∀ q o, H1 q = some o → q < s1.heap.objs.size := fun q o e => I1.hok.lt e
  have up : ∀ q o, H1 q = some o → H' q = some o := fun q o e => (low q (lt1 q o e)).trans e
  refine ⟨H', I1.un ⟨fun b o e _ _ _ => keep b o e, fun b o e _ _ _ => ⟨o.slots, keep b o e⟩, fun b o e n _ => by rw [low b (Heap.lt_size e)]; exact n, fun b o e _ => ⟨o, keep b o e⟩, fun b xs e => up _ _ e, fun b o u e => up _ _ e, fun b ps e => ⟨#[], by rw [Array.append_empty]; exact up _ _ e⟩⟩ (fun q o e => ?_), up, atS, fun j T e => ?_⟩
  · rcases cases' q o e with ⟨h, e⟩ | ⟨rfl, rfl⟩ | ⟨h, e⟩ | ⟨j, e1, e2⟩
    · have ok := I1.hok q o e
      exact ok.stay (fun b u _ e => keep b u e) (fun b e => up _ _ e) fun b xs e => up _ _ e
    · refine ⟨by simpa using hl, Ts.map Value.ref, c, ?_, b2⟩
      clear b2 m1 m2 hl item os H' osj atS low atT cases' up e
      induction Ts with
      | nil => exact .nil
      | cons T r ih => exact .cons rfl ih
    · rw [h1n q h] at e; cases e
    · obtain ⟨x, y, ex, ey, _, u, v, ru, rv, hp⟩ := atT j q e1
      rw [osj ex ey] at e2
      cases e2
      exact ⟨by show 2 ≤ sizeLine; decide, [u, v], .cons ru (.cons rv .nil), ⟨_, hp, rfl, _, rfl⟩⟩
  · obtain ⟨x, y, ex, ey, eh, _⟩ := atT j T e
    exact ⟨x, y, ex, ey, eh, h1n T (m2 T (List.mem_of_getElem? e)).1⟩
theorem pe_lzip {X : Cx} {e e2 : Expr} {ta : TA} {p pos p' pos' : Pos} (hc : X.calm = true) (hgl : Gl X "list") (hml : X.mg "list" = none) (hg : Gl X "zip") (hm : X.mg "zip" = none) (ha : PA X [e, e2] ta)
    (hs : starEach [e, e2] X.env = (false, eval e X.env) :: starEach [e2] X.env := by rfl) (hpl : (backTo pos (starEach [e2] X.env)).any (·.1) = false := by rfl) :
    PE X (.Call (.Name "list" p') [.Call (.Name "zip" p) [e, e2] [] pos] [] pos') (tLZ X.K ta) := by
  refine ⟨fun pins s σ H Q I h => ?_⟩
  refine wpAny_Call_Name_kw (ld_blt (u := .type "list") I hgl hml (by decide +kernel) (PyProof.Rows.callWith_type1 (Calls.spliced_cons ?_) rfl rfl))
  refine Call_ (ld_blt I hg hm PyProof.Rows.boot_zip (PyProof.Rows.callWith_type1 (thn (ha.run pos pins s σ H _ I h) fun us s1 ⟨vs, H1, I1, r1, q1⟩ => ?_) hs hpl))
  obtain ⟨a, b, xs, ys, rfl, hqx, hqy, q⟩ := q1
  cases r1 with
  | cons r rr =>
    cases rr with
    | cons r' rr =>
      cases rr
      cases r
      cases r'
      obtain ⟨its, rv, p1, z1⟩ := I1.list hqx
      obtain ⟨its2, rv2, p2, z2⟩ := I1.list hqy
      have D := PySem.W.ktu_apart s1.heap.objs.size a b p1.lt p2.lt
      refine call_zip_2 p1.isList p2.isList fun h' hz hTI hTO h1 h2 hsz hk => Calls.spliced_nil ?_
      have hA : X.A.in1.in1.in1.handled = none := I1.ok.hd hc
      have la : a < s1.heap.objs.size := p1.lt
      have lb : b < s1.heap.objs.size := p2.lt
      have p1' : h'.IsList a its.toArray := p1.isList.at fun o e => hk _ _ e
      have p2' : h'.IsList b its2.toArray := p2.isList.at fun o e => hk _ _ e
      have lrv := rv.length
      have lrv2 := rv2.length
      have hle : s1.heap.objs.size ≤ h'.objs.size := by rw [hsz]; exact Nat.le_add_right _ _
      refine call_list (s := { s1 with heap := h' }) (sep_of D) (Draws.list hA _ a D.l1i1 its.toArray) (Draws.list hA _ b D.l2i2 its2.toArray) (out1 D) (out2 D) (fun c hcm => ?_) (fun c hcm => ?_) (by simp; omega) (Heap.lt_size hz) (Heap.lt_size hTI) (Heap.lt_size hTO) (let ⟨_, e, _⟩ := h1; Heap.lt_size e) (let ⟨_, e, _⟩ := h2; Heap.lt_size e) ⟨ZS.of hz, hTI, ⟨_, _, hTO⟩, ⟨h1, p1'⟩, ⟨h2, p2'⟩⟩ fun h3 tk Ts c b1 b2 b3 b4 => ?_
      · show c < h'.objs.size
        simp only [List.mem_cons, List.not_mem_nil, or_false] at hcm
        rcases hcm with rfl | rfl
        · exact let ⟨_, e, _⟩ := h1; Heap.lt_size e
        · exact Nat.lt_of_lt_of_le la hle
      · show c < h'.objs.size
        simp only [List.mem_cons, List.not_mem_nil, or_false] at hcm
        rcases hcm with rfl | rfl
        · exact let ⟨_, e, _⟩ := h2; Heap.lt_size e
        · exact Nat.lt_of_lt_of_le lb hle
      have keep : ∀ q o, s1.heap.get? q = some o → h3.get? q = some o := fun q o e => by
        have hq := Heap.lt_size e
        have big : ∀ n, q ≠ s1.heap.objs.size + n := fun n => Nat.ne_of_lt (Nat.lt_add_right n hq)
        exact b1 q o (big 4) (big 3) (big 0) (big 1) (hk q o e)
      obtain ⟨m1, m2, m3⟩ := b4
      have item : ∀ (j : Nat) (T : Addr), Ts[j]? = some T → ∃ x y, xs[j]? = some x ∧ ys[j]? = some y ∧ ∃ u v, RelV x u ∧ RelV y v ∧ IsPair h3 T u v := fun j T e => by
        obtain ⟨u, v, e1, e2, e3⟩ := m3 j T e
        have e1' : its[j]? = some u := by simpa using e1
        have e2' : its2[j]? = some v := by simpa using e2
        obtain ⟨x, ex, rx⟩ := vget rv e1'
        obtain ⟨y, ey, ry⟩ := vget rv2 e2'
        exact ⟨x, y, ex, ey, u, v, rx, ry, e3⟩
      obtain ⟨H', J, j1, j2, j3⟩ := fill (tk := tk) I1 keep hle b2 m1 (fun T hT => ⟨Nat.le_trans hle (m2 T hT).1, (m2 T hT).2.2⟩) (by simp at b3; omega) item
      exact ⟨.ref h'.objs.size, H', J, rfl, q H' h'.objs.size Ts j1 j2 (I1.hok.fresh hle) (by simp at b3; omega) j3⟩
end Zp
/-! Mini, part 4: a text held against a term -/
namespace Mn
open PySem PySem.Spec PyProof.Rows L2 LamX

structure Nm where
  N : List Str
  fs : List Str
  cs : List Str
  xs : List Str
  td : Nat
/-- a scope with names of its own -/
def ownS (sc : Scope) : Bool := sc.names.any fun y => decide (y.2 = .local) || decide (y.2 = .cell)
def visB (sc : Scope) (x : Str) : Bool := match sc.names.lookup x with
  | some .local => true
  | some .cell => true
  | some .free => true
  | _ => false
def glB (sc : Scope) (x : Str) : Bool := match sc.names.lookup x with
  | some .globalImplicit => true
  | _ => false
def locB (sc : Scope) (fn : Str → Bool) (x : Str) : Bool := match sc.names.lookup x with
  | some .local => true
  | some .cell => fn x
  | _ => false
def bnm : B → Str
  | .len => "len" | .abs => "abs" | .int => "int" | .max => "max" | .min => "min" | .any => "any" | .all => "all" | .sum => "sum" | .tuple => "tuple" | .list => "list"
def tnm : Nat → Str
  | 0 => "bool" | 1 => "list" | 2 => "tuple" | _ => "str"
def ncall : Expr → Bool
  | .Call _ _ _ _ => false
  | _ => true
theorem ncall_base {l : Expr} (h : ncall l = true) (m : Str) (env : Env) (whole : Sem Value) : attributeBase l m env whole = whole := by
  cases l <;> first | rfl | (cases h; done)
def blkFn (scope : Scope) : Str → Bool := fun x => scope.names.lookup x == some .cell
mutual
def chkT (N : List Str) (sc : Scope) (fn : Str → Bool) : T → Expr → Bool
  | .name i, x => match x with | .Name y _ => decide (N[i]? = some y) && locB sc fn y | _ => false
  | .tup ts, x => match x with | .Tuple l _ _ => chkTs N sc fn ts l | _ => false
  | .nil, _ => false
  | .cons _ _, _ => false
def chkTs (N : List Str) (sc : Scope) (fn : Str → Bool) : T → List Expr → Bool
  | .nil, l => match l with | [] => true | _ => false
  | .cons t ts, l => match l with | x :: r => chkT N sc fn t x && chkTs N sc fn ts r | _ => false
  | .name _, _ => false
  | .tup _, _ => false
end
def Tslots : T → List Nat
  | .name i => [i]
  | .tup ts => Tslots ts
  | .nil => []
  | .cons t ts => Tslots t ++ Tslots ts
mutual
def chk (c : Nm) : E → Scope → Expr → Bool
  | .var i, sc, x => match x with | .Name y _ => decide (c.N[i]? = some y) && visB sc y && !(y == ("__debug__" : Str)) && !(y == ("__classdict__" : Str)) | _ => false
  | .int n, _, x => match x with | .Constant (.int k) _ _ => decide (n = k) | _ => false
  | .str s, _, x => match x with | .Constant (.str k) _ _ => decide (s = k) | _ => false
  | .bl b, _, x => match x with | .Constant (.bool k) _ _ => decide (b = k) | _ => false
  | .non, _, x => match x with | .Constant .none _ _ => true | _ => false
  | .glob k, sc, x => match x with | .Name y _ => decide (c.cs[k]? = some y) && glB sc y && !(y == ("__debug__" : Str)) | _ => false
  | .tup es, sc, x => match x with | .Tuple l _ _ => chks c es sc l | _ => false
  | .lst es, sc, x => match x with | .List l _ => chks c es sc l | _ => false
  | .bin op a b, sc, x => match x with | .BinOp l o r _ => decide (op = o) && chk c a sc l && chk c b sc r | _ => false
  | .neg a, sc, x => match x with | .UnaryOp .USub l _ => chk c a sc l | _ => false
  | .cmp op a b, sc, x => match x with | .Compare l [o] [r] _ => decide (op = o) && chk c a sc l && chk c b sc r | _ => false
  | .chain o1 o2 a b d, sc, x => match x with | .Compare l [p1, p2] [m, r] _ => decide (o1 = p1) && decide (o2 = p2) && chk c a sc l && chk c b sc m && chk c d sc r | _ => false
  | .isN a, sc, x => match x with | .Compare l [.Is] [.Constant .none _ _] _ => chk c a sc l | _ => false
  | .notN a, sc, x => match x with | .Compare l [.IsNot] [.Constant .none _ _] _ => chk c a sc l | _ => false
  | .and a b, sc, x => match x with
    | .BoolOp .And l _ => (match l with | [y, z] => chk c a sc y && chk c b sc z | y :: z :: z' :: r => chk c a sc y && chkB c b sc .And (z :: z' :: r) | _ => false)
    | _ => false
  | .or a b, sc, x => match x with
    | .BoolOp .Or l _ => (match l with | [y, z] => chk c a sc y && chk c b sc z | y :: z :: z' :: r => chk c a sc y && chkB c b sc .Or (z :: z' :: r) | _ => false)
    | _ => false
  | .not a, sc, x => match x with | .UnaryOp .Not l _ => chk c a sc l | _ => false
  | .ite t a b, sc, x => match x with | .IfExp u l r _ => tst t && chk c t sc u && chk c a sc l && chk c b sc r | _ => false
  | .ix a i, sc, x => match x with | .Subscript l r _ => chk c a sc l && chk c i sc r | _ => false
  | .sl a lo hi, sc, x => match x with | .Subscript l (.Slice p q none _) _ => chk c a sc l && chkO c lo sc p && chkO c hi sc q | _ => false
  | .rev a, sc, x => match x with | .Subscript l (.Slice none none (some (.UnaryOp .USub (.Constant (.int n) _ _) _)) _) _ => decide (n = 1) && chk c a sc l | _ => false
  | .call f es, sc, x => match x with | .Call (.Name y _) l [] _ => decide (c.fs[f]? = some y) && glB sc y && !(y == ("__debug__" : Str)) && chks c es sc l | _ => false
  | .bi b es, sc, x => match x with | .Call (.Name y _) l [] _ => decide (y = bnm b) && glB sc y && chks c es sc l | _ => false
  | .idx a b, sc, x => match x with | .Call (.Attribute l m ap) [r] [] cp => decide (m = ("index" : Str)) && ncall l && (ap.endLine == cp.line) && chk c a sc l && chk c b sc r | _ => false
  | .isi a t, sc, x => match x with | .Call (.Name y _) [l, .Name z _] [] _ => decide (y = ("isinstance" : Str)) && glB sc y && decide (t < 4) && decide (z = tnm t) && glB sc z && chk c a sc l | _ => false
  | .told n a, sc, x => match x with
    | .Call (.Name y _) [.Lambda ⟨[], [], none, [], [], none, []⟩ body scope _] [] _ => decide (c.td = n) && decide (0 < n) && ownS sc && decide (y = ("_law_told" : Str)) && glB sc y && LamX.lamSB sc scope && chk c a scope body
    | _ => false
  | .lzip a b, sc, x => match x with | .Call (.Name y _) [.Call (.Name z _) [l, r] [] _] [] _ => decide (y = ("list" : Str)) && glB sc y && decide (z = ("zip" : Str)) && glB sc z && chk c a sc l && chk c b sc r | _ => false
  | .comp own tg it t e, sc, x => match x with
    | .ListComp elt [⟨tgt, iter, ifs, k⟩] scope _ => decide (k = 0) && blkC c.N sc scope own && chkT c.N (relS scope sc) (blkFn scope) tg tgt && (Tslots tg).all (fun i => decide (i ∈ own.map (·.2))) && chkI c it sc tgt iter && chkC c t (relS scope sc) ifs && (ownS sc || decide (c.td = 0)) && chk c e (relS scope sc) elt
    | _ => false
  | .olen i, sc, x => match x with | .Call (.Name y _) [.Name z _] [] _ => decide (y = ("len" : Str)) && glB sc y && decide (c.N[i]? = some z) && visB sc z && !(z == ("__debug__" : Str)) && !(z == ("__classdict__" : Str)) | _ => false
  | .oix i e, sc, x => match x with | .Subscript (.Name z _) r _ => decide (c.N[i]? = some z) && visB sc z && !(z == ("__debug__" : Str)) && !(z == ("__classdict__" : Str)) && chk c e sc r | _ => false
  | .oemp i neg, sc, x => match x with | .Compare (.Name z _) [o] [.List [] _] _ => decide (o = (if neg then CmpOp.NotEq else CmpOp.Eq)) && decide (c.N[i]? = some z) && visB sc z && !(z == ("__debug__" : Str)) && !(z == ("__classdict__" : Str)) | _ => false
  | .nil, _, _ => false
  | .cons _ _, _, _ => false
  | .iseq _, _, _ => false
  | .irange _, _, _ => false
  | .ienum _, _, _ => false
  | .izip _ _, _, _ => false
  | .irev _, _, _ => false
def chks (c : Nm) : E → Scope → List Expr → Bool
  | .nil, _, l => match l with | [] => true | _ => false
  | .cons e es, sc, l => match l with | x :: r => chk c e sc x && chks c es sc r | _ => false
  | _, _, _ => false
def chkB (c : Nm) : E → Scope → BoolOp → List Expr → Bool
  | .and a b, sc, op, l => match op with
    | .And => (match l with | [y, z] => chk c a sc y && chk c b sc z | y :: z :: z' :: r => chk c a sc y && chkB c b sc .And (z :: z' :: r) | _ => false)
    | _ => false
  | .or a b, sc, op, l => match op with
    | .Or => (match l with | [y, z] => chk c a sc y && chk c b sc z | y :: z :: z' :: r => chk c a sc y && chkB c b sc .Or (z :: z' :: r) | _ => false)
    | _ => false
  | _, _, _, _ => false
def chkC (c : Nm) : E → Scope → List Expr → Bool
  | .nil, _, l => match l with | [] => true | _ => false
  | .cons e _, sc, l => match l with | [x] => chk c e sc x && tst e | _ => false
  | _, _, _ => false
def chkO (c : Nm) : E → Scope → Option Expr → Bool
  | .nil, _, l => match l with | none => true | _ => false
  | .cons e _, sc, l => match l with | some x => chk c e sc x | _ => false
  | _, _, _ => false
def chkI (c : Nm) : E → Scope → Expr → Expr → Bool
  | .iseq a, sc, _, x => chk c a sc x
  | .irange es, sc, _, x => match x with | .Call (.Name y _) l [] _ => decide (y = ("range" : Str)) && glB sc y && decide (0 < l.length) && decide (l.length ≤ 2) && chks c es sc l | _ => false
  | .ienum a, sc, tg, x => match tg with
    | .Tuple _ _ _ => (match x with | .Call (.Name y _) [l] [] _ => decide (y = ("enumerate" : Str)) && glB sc y && chk c a sc l | _ => false)
    | _ => false
  | .izip a b, sc, tg, x => match tg with
    | .Tuple _ _ _ => (match x with | .Call (.Name y _) [l, r] [] _ => decide (y = ("zip" : Str)) && glB sc y && chk c a sc l && chk c b sc r | _ => false)
    | .Name _ _ => (match x with | .Call (.Name y _) [l, r] [] _ => decide (y = ("zip" : Str)) && glB sc y && chk c a sc l && chk c b sc r | _ => false)
    | _ => false
  | .irev a, sc, _, x => match x with | .Call (.Name y _) [l] [] _ => decide (y = ("reversed" : Str)) && glB sc y && chk c a sc l | _ => false
  | _, _, _, _ => false
/-- a term that may stand as a test -/
def tst : E → Bool
  | .ite _ _ _ => false
  | .and a b => tst a && tst b
  | .or a b => tst a && tst b
  | .not a => tst a
  | .var _ => true
  | .int _ => true
  | .str _ => true
  | .bl _ => true
  | .non => true
  | .glob _ => true
  | .nil => true
  | .cons _ _ => true
  | .tup _ => true
  | .lst _ => true
  | .bin _ _ _ => true
  | .neg _ => false
  | .cmp _ _ _ => true
  | .chain _ _ _ _ _ => true
  | .isN _ => true
  | .notN _ => true
  | .ix _ _ => true
  | .sl _ _ _ => true
  | .rev _ => true
  | .call _ _ => true
  | .bi _ _ => true
  | .idx _ _ => true
  | .isi _ _ => true
  | .told _ _ => true
  | .lzip _ _ => true
  | .comp _ _ _ _ _ => true
  | .iseq _ => true
  | .irange _ => true
  | .ienum _ => true
  | .izip _ _ => true
  | .irev _ => true
  | .olen _ => true
  | .oix _ _ => true
  | .oemp _ _ => true
end
theorem chk_notStar {c : Nm} {m : E} {sc : Scope} {e : Expr} {p : Pos} : chk c m sc (.Starred e p) = false := by
  cases m <;> simp [chk]
theorem chk_notSlice {c : Nm} {m : E} {sc : Scope} {a b d : Option Expr} {p : Pos} : chk c m sc (.Slice a b d p) = false := by
  cases m <;> simp [chk]
theorem chk_notSet {c : Nm} {m : E} {sc : Scope} {a : List Expr} {k : Nat} {p : Pos} : chk c m sc (.Set a k p) = false := by
  cases m <;> simp [chk]
theorem chk_star {c : Nm} {m : E} {sc : Scope} {e : Expr} (h : chk c m sc e = true) (es : List Expr) (env : Env) : starEach (e :: es) env = (false, eval e env) :: starEach es env := by
  cases e <;> first | rfl | (rw [chk_notStar] at h; cases h)
theorem chk_plainIx {c : Nm} {m : E} {sc : Scope} {e : Expr} (h : chk c m sc e = true) : PlainIx e := by
  cases e <;> first | exact fun _ _ => rfl | (rw [chk_notSlice] at h; cases h)
theorem chk_mark {c : Nm} {m : E} {sc : Scope} {e : Expr} (h : chk c m sc e = true) (op : CmpOp) : behindInMarks op e = false := by
  cases e <;> first | rfl | (rw [chk_notSet] at h; cases h)
theorem chk_fold {c : Nm} {m : E} {sc : Scope} {e : Expr} (h : chk c m sc e = true) (env : Env) (x : Value) : foldedSetIterable e env x = pure x := by
  cases e <;> first | rfl | (rw [chk_notSet] at h; cases h)
theorem chks_plain {c : Nm} : ∀ {m : E} {sc : Scope} {l : List Expr}, chks c m sc l = true → ∀ (pos : Pos) (env : Env), (backTo pos (starEach l env)).any (·.1) = false := by
  intro m
  induction m with
  | nil =>
    intro sc l h pos env
    cases l with
    | nil => rfl
    | cons x r => simp [chks] at h
  | cons e es _ ih =>
    intro sc l h pos env
    cases l with
    | nil => simp [chks] at h
    | cons x r =>
      simp only [chks, Bool.and_eq_true] at h
      rw [chk_star h.1]
      have := ih h.2 pos env
      simpa [backTo] using this
  | _ => intro sc l h; simp [chks] at h
theorem visB_of {sc : Scope} {x : Str} (h : visB sc x = true) : Vis sc x := by
  unfold visB at h
  split at h <;> first | (exact .inl (by assumption)) | (exact .inr (.inl (by assumption))) | (exact .inr (.inr (by assumption))) | cases h
theorem glB_of {X : Cx} {sc : Scope} (hs : X.env.scope = sc) {x : Str} (h : glB sc x = true) : Gl X x := by
  unfold glB at h
  unfold Gl Env.kindOf
  rw [hs]
  split at h
  · assumption
  · cases h
end Mn
/-! Mini, part 5: expressions keep what they come to -/
namespace Mn
open PySem PySem.Spec PyProof.Rows L2 LamX

/-- a def's promise by a function on data of n arguments -/
def spD (K : PySem.W.Frag) (T : List (Addr × Str)) (cl : Nat → Addr) (n : Nat) (g : List D → Rs D) : Sp := fun vs H Q Ew =>
  vs.length = n ∧ ∃ O ds, OIn H O ∧ Tabs T H ∧ RpAll K (mask H O) vs ds ∧ (g ds).post (Wv K T O H Q) (Wx T cl Ew H)
def FnD (X : Cx) (T : List (Addr × Str)) (cl : Nat → Addr) (x : Str) (n : Nat) (g : List D → Rs D) : Prop :=
  ∃ k f fd ps, Room k X.A ∧ X.mg x = some (.ref f) ∧ PySem.W.keepIn X.K (.ref f) = true ∧ L2.Binds X.K fd ps [] ∧ FnOk X.prog X.w X.K X.mg X.base (L2N.CX X.prog X.w) k f fd ps (spD X.K T cl n g)
/-- what told asks of the place where it stands -/
def TdOk (X : Cx) (T : List (Addr × Str)) (cl : Nat → Addr) (n : Nat) (fs : List Str) (gs : List (Nat × (List D → Rs D))) : Prop :=
  ∃ f CS g c0 P k, Wd X.K X.mg cl (wordsAll.take n) f CS ∧ Td X.K X.mg g ∧ TabB X.base X.mg c0 P ∧ X.env.code = .ref c0 ∧ (P, X.env.qual ++ "<lambda>") ∈ T ∧ (∀ p ∈ T, p.1 = P → p.2 = X.env.qual ++ "<lambda>") ∧ Room (k + 2) X.A ∧
    ∀ (j : Nat) (x : Str) (g : Nat × (List D → Rs D)), fs[j]? = some x → gs[j]? = some g → ∃ f fd ps, X.mg x = some (.ref f) ∧ PySem.W.keepIn X.K (.ref f) = true ∧ L2.Binds X.K fd ps [] ∧ FnOk X.prog X.w X.K X.mg X.base (L2N.CX X.prog X.w) k f fd ps (spD X.K T cl g.1 g.2)
structure Cok (c : Nm) (Γ : G) (T : List (Addr × Str)) (cl : Nat → Addr) (Ew : XK) (sc : Scope) (X : Cx) : Prop where
  N : X.N = c.N
  nd : X.N.Nodup
  sc : X.env.scope = sc
  calm : X.calm = true
  units : X.A.units + 65 < cLine
  fs : ∀ (j : Nat) (x : Str) (g : Nat × (List D → Rs D)), c.fs[j]? = some x → Γ.fs[j]? = some g → FnD X T cl x g.1 g.2
  cs : ∀ (j : Nat) (x : Str) (d : D), c.cs[j]? = some x → Γ.cs[j]? = some d → ∃ v u, X.mg x = some u ∧ RelV v u ∧ ∀ H, Rp X.K H v d
  bs : ∀ b : B, X.mg (bnm b) = none
  rng : X.mg "range" = none
  enm : X.mg "enumerate" = none
  zip : X.mg "zip" = none
  rev : X.mg "reversed" = none
  isi : X.mg "isinstance" = none
  tns : ∀ t : Nat, X.mg (tnm t) = none
  pass : Passes (L2N.CX X.prog X.w) X Ew
  td : ownS X.env.scope = true → 0 < c.td → TdOk X T cl c.td c.fs Γ.fs

section
variable (K : PySem.W.Frag) (T : List (Addr × Str)) (cl : Nat → Addr) (Ew : XK)
def tE (f : En → Rs D) : TE := fun σ H Q => ∃ O ρ, EnOk K T O H σ ρ ∧ (f ρ).post (Wv K T O H Q) (Wx T cl Ew H)
def tT (f : En → Rs D) : TT := fun σ H Q => ∃ O ρ, EnOk K T O H σ ρ ∧ (f ρ).post (fun d => ∃ b, d = .bool b ∧ ∀ H', Ext H H' → Tabs T H' → Q b H') (Wx T cl Ew H)
def tAs (f : En → Rs (List D)) : TA := fun σ H Q => ∃ O ρ, EnOk K T O H σ ρ ∧ (f ρ).post (fun ds => ∀ vs H', Ext H H' → Tabs T H' → RpAll K (mask H' O) vs ds → Q vs H') (Wx T cl Ew H)
def tOp' (f : En → Rs (Option Int)) : TO := fun σ H Q => ∃ O ρ, EnOk K T O H σ ρ ∧ (f ρ).post (fun o => ∀ H', Ext H H' → Tabs T H' → Q o H') (Wx T cl Ew H)
/-- a walk over data -/
def ItD (J : It) (Hr : Hp) (ds : List D) : Prop := ∀ (i : Nat) (H : Hp) (O : List Addr), Ext Hr (mask H O) → OIn H O → Tabs T H →
  (i < ds.length → J.go i H ∧ ∀ x H', J.yld i H x H' → Ext H H' ∧ Tabs T H' ∧ ∃ d, ds[i]? = some d ∧ Rp K (mask H' O) x d) ∧ (ds.length = i → J.stop i H)
def tI (f : En → Rs (List D)) : TI := fun σ H R => ∃ O ρ, EnOk K T O H σ ρ ∧ (f ρ).post (fun ds => ∀ J H', Ext H H' → Tabs T H' → ItD K T J (mask H' O) ds → R J H') (Wx T cl Ew H)
end
section
variable {K : PySem.W.Frag} {T : List (Addr × Str)} {cl : Nat → Addr} {Ew : XK} {O : List Addr} {H : Hp} {σ : L2.St} {ρ : En}
/-- a part is run where the state stands, then k -/
theorem tE_run {f : En → Rs D} {P : D → Prop} {Q : VK} (en : EnOk K T O H σ ρ) (h : (f ρ).post P (Wx T cl Ew H)) (k : ∀ d v H1, P d → Ext H H1 → Tabs T H1 → EnOk K T O H1 σ ρ → Rp K (mask H1 O) v d → Q v H1) : tE K T cl Ew f σ H Q :=
  ⟨O, ρ, en, Rs.post_mono h (fun d pd v H' e t r => k d v H' pd e t (en.ext e t) r) fun _ z => z⟩
theorem tAs_run {f : En → Rs (List D)} {P : List D → Prop} {Q : List V → Hp → Prop} (en : EnOk K T O H σ ρ) (h : (f ρ).post P (Wx T cl Ew H)) (k : ∀ d v H1, P d → Ext H H1 → Tabs T H1 → EnOk K T O H1 σ ρ → RpAll K (mask H1 O) v d → Q v H1) : tAs K T cl Ew f σ H Q :=
  ⟨O, ρ, en, Rs.post_mono h (fun d pd v H' e t r => k d v H' pd e t (en.ext e t) r) fun _ z => z⟩
theorem tT_run {f : En → Rs D} {P : D → Prop} {Q : Bool → Hp → Prop} (en : EnOk K T O H σ ρ) (h : (f ρ).post P (Wx T cl Ew H)) (k : ∀ d H1, P d → Ext H H1 → Tabs T H1 → EnOk K T O H1 σ ρ → ∃ b, d = .bool b) (k2 : ∀ b H1, P (.bool b) → Ext H H1 → Tabs T H1 → EnOk K T O H1 σ ρ → Q b H1) : tT K T cl Ew f σ H Q :=
  ⟨O, ρ, en, Rs.post_mono h (fun d pd => by
    obtain ⟨b, e⟩ := k d H pd (Ext.refl H) en.tabs en
    subst e
    exact ⟨b, rfl, fun H' e t => k2 b H' pd e t (en.ext e t)⟩) fun _ z => z⟩
theorem post_at {α : Type} {r : Rs α} {P : α → Prop} {H H1 : Hp} (e : Ext H H1) (h : r.post P (Wx T cl Ew H)) : r.post P (Wx T cl Ew H1) := Rs.post_mono h (fun _ z => z) fun _ z => z.from e
end
section
variable {c : Nm} {Γ : G} {T : List (Addr × Str)} {cl : Nat → Addr} {Ew : XK} {sc : Scope} {X : Cx}
/-- what is shown of a term -/
structure Good (c : Nm) (Γ : G) (T : List (Addr × Str)) (cl : Nat → Addr) (m : E) : Prop where
  e : ∀ {Ew : XK} {sc : Scope} {X : Cx} {x : Expr}, Cok c Γ T cl Ew sc X → chk c m sc x = true → PE X x (tE X.K T cl Ew (ev Γ m))
  t : ∀ {Ew : XK} {sc : Scope} {X : Cx} {x : Expr}, Cok c Γ T cl Ew sc X → chk c m sc x = true → tst m = true → PT X x (tT X.K T cl Ew (ev Γ m))
  as : ∀ {Ew : XK} {sc : Scope} {X : Cx} {l : List Expr}, Cok c Γ T cl Ew sc X → chks c m sc l = true → PA X l (tAs X.K T cl Ew (evs Γ m))
  ts : ∀ {Ew : XK} {sc : Scope} {X : Cx} {l : List Expr}, Cok c Γ T cl Ew sc X → chkC c m sc l = true → PTs X l (tT X.K T cl Ew (evC Γ m))
  o : ∀ {Ew : XK} {sc : Scope} {X : Cx} {l : Option Expr}, Cok c Γ T cl Ew sc X → chkO c m sc l = true → PO X l (tOp' X.K T cl Ew (evO Γ m))
  i : ∀ {Ew : XK} {sc : Scope} {X : Cx} {tg x : Expr}, Cok c Γ T cl Ew sc X → chkI c m sc tg x = true → PI X tg x (tI X.K T cl Ew (evI Γ m)) ∧ ∀ v, foldedSetIterable x X.env v = pure v
  bv : ∀ {Ew : XK} {sc : Scope} {X : Cx} {op : BoolOp} {l : List Expr} {pos : Pos}, Cok c Γ T cl Ew sc X → chkB c m sc op l = true → PE X (.BoolOp op l pos) (tE X.K T cl Ew (ev Γ m))
  bt : ∀ {Ew : XK} {sc : Scope} {X : Cx} {op : BoolOp} {l : List Expr} {pos : Pos}, Cok c Γ T cl Ew sc X → chkB c m sc op l = true → tst m = true → PW X (.BoolOp op l pos) (tT X.K T cl Ew (ev Γ m))

/-- a value that is a bool, as a test, where the test is the value's truth -/
theorem pt_of {m : E} {x : Expr} (h : PE X x (tE X.K T cl Ew (ev Γ m))) (he : ∀ whole, isTrue x X.env whole = (do let v ← whole; standAt x.pos; holding [v] (truthy v))) : PT X x (tT X.K T cl Ew (ev Γ m)) := by
  refine (pt_val h he).imp fun σ H Q ⟨O, ρ, en, q⟩ => ?_
  exact tE_run en q fun d v H1 ⟨b, e, k⟩ e1 t1 _ r => by
    subst e
    cases r
    exact ⟨b, rfl, k H1 e1 t1⟩

theorem s_var {i : Nat} {x : Expr} (C : Cok c Γ T cl Ew sc X) (h : chk c (.var i) sc x = true) : PE X x (tE X.K T cl Ew (ev Γ (.var i))) := by
  unfold chk at h
  cases x <;> try (cases h; done)
  rename_i y p
  simp only [Bool.and_eq_true, decide_eq_true_eq, Bool.not_eq_true'] at h
  obtain ⟨⟨⟨h1, h2⟩, h3⟩, h4⟩ := h
  refine (pe_var (i := i) (by rw [C.N]; exact h1) (by rw [C.sc]; exact visB_of h2) h3 h4).imp fun σ H Q ⟨O, ρ, en, q⟩ => ?_
  simp only [ev] at q
  split at q
  · rename_i d e
    obtain ⟨o, e1, v, e2, r⟩ := en.at_ _ _ e
    subst e2
    exact ⟨v, e1, q v H (Ext.refl H) en.tabs r⟩
  · exact q.elim
theorem s_int {n : Int} {x : Expr} (h : chk c (.int n) sc x = true) : PE X x (tE X.K T cl Ew (ev Γ (.int n))) := by
  unfold chk at h
  cases x <;> try (cases h; done)
  rename_i v k p
  cases v <;> try (cases h; done)
  simp only [decide_eq_true_eq] at h
  subst h
  exact pe_int.imp fun σ H Q ⟨O, ρ, en, q⟩ => q _ H (Ext.refl H) en.tabs (.int _)
theorem s_str {n : Str} {x : Expr} (h : chk c (.str n) sc x = true) : PE X x (tE X.K T cl Ew (ev Γ (.str n))) := by
  unfold chk at h
  cases x <;> try (cases h; done)
  rename_i v k p
  cases v <;> try (cases h; done)
  simp only [decide_eq_true_eq] at h
  subst h
  exact pe_str.imp fun σ H Q ⟨O, ρ, en, q⟩ => q _ H (Ext.refl H) en.tabs (.str _)
theorem s_bl {n : Bool} {x : Expr} (h : chk c (.bl n) sc x = true) : PE X x (tE X.K T cl Ew (ev Γ (.bl n))) := by
  unfold chk at h
  cases x <;> try (cases h; done)
  rename_i v k p
  cases v <;> try (cases h; done)
  simp only [decide_eq_true_eq] at h
  subst h
  exact pe_bl.imp fun σ H Q ⟨O, ρ, en, q⟩ => q _ H (Ext.refl H) en.tabs (.bl _)
theorem s_non {x : Expr} (h : chk c .non sc x = true) : PE X x (tE X.K T cl Ew (ev Γ .non)) := by
  unfold chk at h
  cases x <;> try (cases h; done)
  rename_i v k p
  cases v <;> try (cases h; done)
  exact pe_non.imp fun σ H Q ⟨O, ρ, en, q⟩ => q _ H (Ext.refl H) en.tabs .non
theorem s_glob {k : Nat} {x : Expr} (C : Cok c Γ T cl Ew sc X) (h : chk c (.glob k) sc x = true) : PE X x (tE X.K T cl Ew (ev Γ (.glob k))) := by
  unfold chk at h
  cases x <;> try (cases h; done)
  rename_i y p
  simp only [Bool.and_eq_true, decide_eq_true_eq, Bool.not_eq_true'] at h
  obtain ⟨⟨h1, h2⟩, h3⟩ := h
  refine ⟨fun pins s σ H Q I ⟨O, ρ, en, q⟩ => ?_⟩
  obtain ⟨d, e, q⟩ := Rs.post_ofO (show (Rs.ofO Γ.cs[k]?).post _ _ from q)
  obtain ⟨v, u, g1, g2, g3⟩ := C.cs k y d h1 e
  exact (pe_glob (glB_of C.sc h2) g1 g2 h3).run pins s σ H Q I (q v H (Ext.refl H) en.tabs (g3 _))
theorem s_tup {es : E} {x : Expr} (g : Good c Γ T cl es) (C : Cok c Γ T cl Ew sc X) (h : chk c (.tup es) sc x = true) : PE X x (tE X.K T cl Ew (ev Γ (.tup es))) := by
  unfold chk at h
  cases x <;> try (cases h; done)
  refine (pe_tup (g.as C h)).imp fun σ H Q ⟨O, ρ, en, q⟩ => ?_
  simp only [ev, Rs.post_bind] at q
  refine tAs_run en q fun ds vs H1 p e1 t1 en1 r => ?_
  split at p
  · rename_i hl
    exact ⟨lim_size (by rw [r.length]; exact hl), fun a ha => Wv.tup (Wv.from p e1) en1.oin t1 r ha⟩
  · exact p.elim
theorem s_lst {es : E} {x : Expr} (g : Good c Γ T cl es) (C : Cok c Γ T cl Ew sc X) (h : chk c (.lst es) sc x = true) : PE X x (tE X.K T cl Ew (ev Γ (.lst es))) := by
  unfold chk at h
  cases x <;> try (cases h; done)
  refine (pe_lst (g.as C h)).imp fun σ H Q ⟨O, ρ, en, q⟩ => ?_
  simp only [ev, Rs.post_bind] at q
  refine tAs_run en q fun ds vs H1 p e1 t1 en1 r => ?_
  split at p
  · rename_i hl
    exact ⟨lim_size (by rw [r.length]; exact hl), fun a ha => Wv.lst (Wv.from p e1) en1.oin t1 r ha⟩
  · exact p.elim
theorem s_bin {op : Operator} {a b : E} {x : Expr} (ga : Good c Γ T cl a) (gb : Good c Γ T cl b) (C : Cok c Γ T cl Ew sc X) (h : chk c (.bin op a b) sc x = true) : PE X x (tE X.K T cl Ew (ev Γ (.bin op a b))) := by
  unfold chk at h
  cases x <;> try (cases h; done)
  simp only [Bool.and_eq_true, decide_eq_true_eq] at h
  obtain ⟨⟨h1, h2⟩, h3⟩ := h
  subst h1
  refine (pe_op (op_bin op) (ga.e C h2) (gb.e C h3)).imp fun σ H Q ⟨O, ρ, en, q⟩ => ?_
  simp only [ev, Rs.post_bind] at q
  refine tE_run en q fun y v H1 p e1 t1 en1 r1 => ?_
  refine tE_run en1 (post_at e1 p) fun z w H2 p2 e2 t2 en2 r2 => ?_
  exact rBin_of en2.oin t2 (r1.ext (e2.mask O)) r2 (Rs.post_mono p2 (fun d k => Wv.from k (e1.trans e2)) fun _ z => z)
theorem s_neg {a : E} {x : Expr} (ga : Good c Γ T cl a) (C : Cok c Γ T cl Ew sc X) (h : chk c (.neg a) sc x = true) : PE X x (tE X.K T cl Ew (ev Γ (.neg a))) := by
  unfold chk at h
  cases x <;> try (cases h; done)
  rename_i op l p
  cases op <;> try (cases h; done)
  refine (pe_un un_neg (ga.e C h)).imp fun σ H Q ⟨O, ρ, en, q⟩ => ?_
  simp only [ev, Rs.post_bind] at q
  refine tE_run en q fun y v H1 p e1 t1 en1 r1 => ?_
  split at p
  · cases r1
    exact ⟨_, rfl, (Wv.from p e1).int t1⟩
  · exact p.elim
theorem cmp_read {op : CmpOp} {a b : E} {σ : L2.St} {H : Hp} {Q : VK} (q : tE X.K T cl Ew (ev Γ (.cmp op a b)) σ H Q) : tOp (rCmp X.K op) (tE X.K T cl Ew (ev Γ a)) (tE X.K T cl Ew (ev Γ b)) σ H Q := by
  obtain ⟨O, ρ, en, q⟩ := q
  simp only [ev, Rs.post_bind] at q
  refine tE_run en q fun y v H1 p e1 t1 en1 r1 => ?_
  refine tE_run en1 (post_at e1 p) fun z w H2 p2 e2 t2 en2 r2 => ?_
  exact rCmp_of t2 (r1.ext (e2.mask O)) r2 (Rs.post_mono p2 (fun d k => Wv.from k (e1.trans e2)) fun _ z => z)
/-- from a test's reading to a value's -/
theorem tT_val {f : En → Rs D} {σ : L2.St} {H : Hp} {Q : Bool → Hp → Prop} (q : tT X.K T cl Ew f σ H Q) : tE X.K T cl Ew f σ H fun x H' => ∃ k, x = .bl k ∧ Q k H' := by
  obtain ⟨O, ρ, en, q⟩ := q
  exact tE_run en q fun d v H1 ⟨b, e, k⟩ e1 t1 _ r => by
    subst e
    cases r
    exact ⟨b, rfl, k H1 e1 t1⟩
theorem s_cmp {op : CmpOp} {a b : E} {x : Expr} (ga : Good c Γ T cl a) (gb : Good c Γ T cl b) (C : Cok c Γ T cl Ew sc X) (h : chk c (.cmp op a b) sc x = true) : PE X x (tE X.K T cl Ew (ev Γ (.cmp op a b))) ∧ PT X x (tT X.K T cl Ew (ev Γ (.cmp op a b))) := by
  unfold chk at h
  cases x <;> try (cases h; done)
  rename_i l os rs p
  split at h <;> try (cases h; done)
  rename_i hx
  cases hx
  simp only [Bool.and_eq_true, decide_eq_true_eq] at h
  obtain ⟨⟨h1, h2⟩, h3⟩ := h
  subst h1
  refine ⟨(pe_cmpR (op_cmp C.units op) (ga.e C h2) (gb.e C h3) (chk_mark h3 _)).imp fun σ H Q q => cmp_read q, (pt_cmpR (op_cmp C.units op) (ga.e C h2) (gb.e C h3) (chk_mark h3 _)).imp fun σ H Q q => cmp_read (tT_val q)⟩
theorem chain_read {o1 o2 : CmpOp} {a b d : E} {σ : L2.St} {H : Hp} {Q : VK} (q : tE X.K T cl Ew (ev Γ (.chain o1 o2 a b d)) σ H Q) : tChain (rCmp X.K o1) (rCmp X.K o2) (tE X.K T cl Ew (ev Γ a)) (tE X.K T cl Ew (ev Γ b)) (tE X.K T cl Ew (ev Γ d)) σ H Q := by
  obtain ⟨O, ρ, en, q⟩ := q
  simp only [ev, Rs.post_bind] at q
  refine tE_run en q fun y v H1 p e1 t1 en1 r1 => ?_
  refine tE_run en1 (post_at e1 p) fun z w H2 p2 e2 t2 en2 r2 => ?_
  have r1' := r1.ext (e2.mask O)
  cases hc : cmpD o1 y z with
  | no => rw [hc] at p2; exact p2.elim
  | exn x =>
    exfalso
    unfold cmpD at hc
    split at hc <;> first | cases hc | (split at hc <;> cases hc)
  | ok k =>
    obtain ⟨kb, ek⟩ := cmpD_bool hc
    subst ek
    rw [hc] at p2
    refine rCmp_of (T := T) (x := fun _ => True) t2 r1' r2 ?_
    rw [hc]
    intro v' H3 e3 t3 r3
    cases r3
    refine ⟨kb, rfl, ?_⟩
    cases kb with
    | false =>
      rw [if_neg Bool.false_ne_true]
      exact (Wv.from p2 ((e1.trans e2).trans e3)).bool t3
    | true =>
      rw [if_pos rfl]
      have p3 : ((ev Γ d ρ).bind fun z' => cmpD o2 z z').post (Wv X.K T O H Q) (Wx T cl Ew H) := p2
      rw [Rs.post_bind] at p3
      refine tE_run (en2.ext e3 t3) (post_at ((e1.trans e2).trans e3) p3) fun z' w' H4 p4 e4 t4 en4 r4 => ?_
      exact rCmp_of t4 (r2.ext ((e3.trans e4).mask O)) r4 (Rs.post_mono p4 (fun d k => Wv.from k (((e1.trans e2).trans e3).trans e4)) fun _ z => z)
theorem s_chain {o1 o2 : CmpOp} {a b d : E} {x : Expr} (ga : Good c Γ T cl a) (gb : Good c Γ T cl b) (gd : Good c Γ T cl d) (C : Cok c Γ T cl Ew sc X) (h : chk c (.chain o1 o2 a b d) sc x = true) : PE X x (tE X.K T cl Ew (ev Γ (.chain o1 o2 a b d))) ∧ PT X x (tT X.K T cl Ew (ev Γ (.chain o1 o2 a b d))) := by
  unfold chk at h
  cases x <;> try (cases h; done)
  rename_i l os rs p
  split at h <;> try (cases h; done)
  rename_i hx
  cases hx
  simp only [Bool.and_eq_true, decide_eq_true_eq] at h
  obtain ⟨⟨⟨⟨h1, h1'⟩, h2⟩, h3⟩, h4⟩ := h
  subst h1 h1'
  have hm : ∀ m r, chk c d sc r = true → lastMarks [o1, o2] [m, r] = false := fun m r hr => by
    show behindInMarks o2 r = false
    exact chk_mark hr _
  refine ⟨(pe_chain (op_cmp C.units o1) (op_cmp C.units o2) (ga.e C h2) (gb.e C h3) (gd.e C h4) (hm _ _ h4)).imp fun σ H Q q => chain_read q, (pt_chain (op_cmp C.units o1) (op_cmp C.units o2) (ga.e C h2) (gb.e C h3) (gd.e C h4) (hm _ _ h4)).imp fun σ H Q q => chain_read (tT_val q)⟩
theorem rp_none {K : PySem.W.Frag} {H : Hp} {v : V} {d : D} (r : Rp K H v d) : decide (v = .non) = isNone d := by
  cases r <;> simp [isNone]
theorem isN_read {a : E} {σ : L2.St} {H : Hp} {Q : VK} (q : tE X.K T cl Ew (ev Γ (.isN a)) σ H Q) : tIsN (tE X.K T cl Ew (ev Γ a)) σ H Q := by
  obtain ⟨O, ρ, en, q⟩ := q
  simp only [ev, Rs.post_bind] at q
  refine tE_run en q fun y v H1 p e1 t1 en1 r1 => ?_
  rw [rp_none r1]
  exact (Wv.from (show Wv X.K T O H Q _ from p) e1).bool t1
theorem notN_read {a : E} {σ : L2.St} {H : Hp} {Q : VK} (q : tE X.K T cl Ew (ev Γ (.notN a)) σ H Q) : tNotN (tE X.K T cl Ew (ev Γ a)) σ H Q := by
  obtain ⟨O, ρ, en, q⟩ := q
  simp only [ev, Rs.post_bind] at q
  refine tE_run en q fun y v H1 p e1 t1 en1 r1 => ?_
  rw [rp_none r1]
  exact (Wv.from (show Wv X.K T O H Q _ from p) e1).bool t1
theorem s_isN {a : E} {x : Expr} (ga : Good c Γ T cl a) (C : Cok c Γ T cl Ew sc X) (h : chk c (.isN a) sc x = true) : PE X x (tE X.K T cl Ew (ev Γ (.isN a))) ∧ PT X x (tT X.K T cl Ew (ev Γ (.isN a))) := by
  unfold chk at h
  cases x <;> try (cases h; done)
  rename_i l os rs p
  split at h <;> try (cases h; done)
  rename_i hx
  cases hx
  exact ⟨(pe_cmp (pc_isN (ga.e C h)) rfl).imp fun σ H Q q => isN_read q, (pt_cmp (pc_isN (ga.e C h)) rfl).imp fun σ H Q q => isN_read (tT_val q)⟩
theorem s_notN {a : E} {x : Expr} (ga : Good c Γ T cl a) (C : Cok c Γ T cl Ew sc X) (h : chk c (.notN a) sc x = true) : PE X x (tE X.K T cl Ew (ev Γ (.notN a))) ∧ PT X x (tT X.K T cl Ew (ev Γ (.notN a))) := by
  unfold chk at h
  cases x <;> try (cases h; done)
  rename_i l os rs p
  split at h <;> try (cases h; done)
  rename_i hx
  cases hx
  exact ⟨(pe_cmp (pc_notN (ga.e C h)) rfl).imp fun σ H Q q => notN_read q, (pt_cmp (pc_notN (ga.e C h)) rfl).imp fun σ H Q q => notN_read (tT_val q)⟩
end
end Mn
/-! Mini, part 6: expressions, further -/
namespace Mn
open PySem PySem.Spec PyProof.Rows L2 LamX
section
variable {c : Nm} {Γ : G} {T : List (Addr × Str)} {cl : Nat → Addr} {Ew : XK} {sc : Scope} {X : Cx}

theorem and_readV {a b : E} {σ : L2.St} {H : Hp} {Q : VK} (q : tE X.K T cl Ew (ev Γ (.and a b)) σ H Q) : tAndV (tE X.K T cl Ew (ev Γ a)) (tE X.K T cl Ew (ev Γ b)) σ H Q := by
  obtain ⟨O, ρ, en, q⟩ := q
  simp only [ev, Rs.post_bind] at q
  refine tE_run en q fun y v H1 p e1 t1 en1 r1 => ?_
  split at p
  · cases r1
    refine ⟨true, rfl, ?_⟩
    rw [if_pos rfl]
    exact ⟨O, ρ, en1, Rs.post_mono p (fun d k => Wv.from k e1) fun _ k => Wx.from k e1⟩
  · cases r1
    refine ⟨false, rfl, ?_⟩
    rw [if_neg Bool.false_ne_true]
    exact (Wv.from p e1).bool t1
  · exact p.elim
theorem or_readV {a b : E} {σ : L2.St} {H : Hp} {Q : VK} (q : tE X.K T cl Ew (ev Γ (.or a b)) σ H Q) : tOrV (tE X.K T cl Ew (ev Γ a)) (tE X.K T cl Ew (ev Γ b)) σ H Q := by
  obtain ⟨O, ρ, en, q⟩ := q
  simp only [ev, Rs.post_bind] at q
  refine tE_run en q fun y v H1 p e1 t1 en1 r1 => ?_
  split at p
  · cases r1
    refine ⟨true, rfl, ?_⟩
    rw [if_pos rfl]
    exact (Wv.from p e1).bool t1
  · cases r1
    refine ⟨false, rfl, ?_⟩
    rw [if_neg Bool.false_ne_true]
    exact ⟨O, ρ, en1, Rs.post_mono p (fun d k => Wv.from k e1) fun _ k => Wx.from k e1⟩
  · exact p.elim
/-- a test is read, then another test or an answer -/
theorem tT_then {f : En → Rs D} {g : D → Rs D} {σ : L2.St} {H : Hp} {Q R : Bool → Hp → Prop} {O : List Addr} {ρ : En} (en : EnOk X.K T O H σ ρ) (hg : ∀ d, (∀ b, d ≠ .bool b) → g d = .no)
    (q : ((f ρ).bind g).post (fun d => ∃ b, d = .bool b ∧ ∀ H', Ext H H' → Tabs T H' → Q b H') (Wx T cl Ew H))
    (k : ∀ b H1, Ext H H1 → Tabs T H1 → EnOk X.K T O H1 σ ρ → (g (.bool b)).post (fun d => ∃ b, d = .bool b ∧ ∀ H', Ext H1 H' → Tabs T H' → Q b H') (Wx T cl Ew H1) → R b H1) : tT X.K T cl Ew f σ H R := by
  rw [Rs.post_bind] at q
  refine tT_run en q (fun d H1 p _ _ _ => ?_) fun b H1 p e1 t1 en1 => ?_
  · cases d with
    | bool b => exact ⟨b, rfl⟩
    | _ =>
      rw [hg _ fun b z => by cases z] at p
      exact p.elim
  · exact k b H1 e1 t1 en1 (Rs.post_mono p (fun d ⟨b, e, z⟩ => ⟨b, e, fun H' e' t' => z H' (e1.trans e') t'⟩) fun _ z => Wx.from z e1)
theorem and_readT {a b : E} {σ : L2.St} {H : Hp} {Q : Bool → Hp → Prop} (q : tT X.K T cl Ew (ev Γ (.and a b)) σ H Q) : tAnd (tT X.K T cl Ew (ev Γ a)) (tT X.K T cl Ew (ev Γ b)) σ H Q := by
  obtain ⟨O, ρ, en, q⟩ := q
  simp only [ev] at q
  refine tT_then en (fun d hd => by cases d <;> first | rfl | exact absurd rfl (hd _)) q fun b' H1 e1 t1 en1 p => ?_
  cases b' with
  | true =>
    rw [if_pos rfl]
    exact ⟨O, ρ, en1, p⟩
  | false =>
    rw [if_neg Bool.false_ne_true]
    obtain ⟨b2, e2, z⟩ := p
    cases e2
    exact z H1 (Ext.refl H1) t1
theorem or_readT {a b : E} {σ : L2.St} {H : Hp} {Q : Bool → Hp → Prop} (q : tT X.K T cl Ew (ev Γ (.or a b)) σ H Q) : tOr (tT X.K T cl Ew (ev Γ a)) (tT X.K T cl Ew (ev Γ b)) σ H Q := by
  obtain ⟨O, ρ, en, q⟩ := q
  simp only [ev] at q
  refine tT_then en (fun d hd => by cases d <;> first | rfl | exact absurd rfl (hd _)) q fun b' H1 e1 t1 en1 p => ?_
  cases b' with
  | true =>
    rw [if_pos rfl]
    obtain ⟨b2, e2, z⟩ := p
    cases e2
    exact z H1 (Ext.refl H1) t1
  | false =>
    rw [if_neg Bool.false_ne_true]
    exact ⟨O, ρ, en1, p⟩
theorem not_readT {a : E} {σ : L2.St} {H : Hp} {Q : Bool → Hp → Prop} (q : tT X.K T cl Ew (ev Γ (.not a)) σ H Q) : tNot (tT X.K T cl Ew (ev Γ a)) σ H Q := by
  obtain ⟨O, ρ, en, q⟩ := q
  simp only [ev] at q
  refine tT_then en (fun d hd => by cases d <;> first | rfl | exact absurd rfl (hd _)) q fun b' H1 e1 t1 en1 p => ?_
  obtain ⟨b2, e2, z⟩ := p
  cases e2
  exact z H1 (Ext.refl H1) t1
theorem not_readV {a : E} {σ : L2.St} {H : Hp} {Q : VK} (q : tE X.K T cl Ew (ev Γ (.not a)) σ H Q) : tNotV (tE X.K T cl Ew (ev Γ a)) σ H Q := by
  obtain ⟨O, ρ, en, q⟩ := q
  simp only [ev, Rs.post_bind] at q
  refine tE_run en q fun y v H1 p e1 t1 en1 r1 => ?_
  split at p
  · cases r1
    exact ⟨_, rfl, (Wv.from p e1).bool t1⟩
  · exact p.elim
theorem ite_readV {t a b : E} {σ : L2.St} {H : Hp} {Q : VK} (q : tE X.K T cl Ew (ev Γ (.ite t a b)) σ H Q) : tIf (tT X.K T cl Ew (ev Γ t)) (tE X.K T cl Ew (ev Γ a)) (tE X.K T cl Ew (ev Γ b)) σ H Q := by
  obtain ⟨O, ρ, en, q⟩ := q
  simp only [ev, Rs.post_bind] at q
  refine tT_run en q (fun d H1 p _ _ _ => ?_) fun b' H1 p e1 t1 en1 => ?_
  · cases d with
    | bool b => exact ⟨b, rfl⟩
    | _ => exact p.elim
  · cases b' with
    | true =>
      rw [if_pos rfl]
      exact ⟨O, ρ, en1, Rs.post_mono p (fun d k => Wv.from k e1) fun _ k => Wx.from k e1⟩
    | false =>
      rw [if_neg Bool.false_ne_true]
      exact ⟨O, ρ, en1, Rs.post_mono p (fun d k => Wv.from k e1) fun _ k => Wx.from k e1⟩
theorem s_ite {t a b : E} {x : Expr} (gt : Good c Γ T cl t) (ga : Good c Γ T cl a) (gb : Good c Γ T cl b) (C : Cok c Γ T cl Ew sc X) (h : chk c (.ite t a b) sc x = true) : PE X x (tE X.K T cl Ew (ev Γ (.ite t a b))) := by
  unfold chk at h
  cases x <;> try (cases h; done)
  simp only [Bool.and_eq_true] at h
  exact (pe_ifExp (gt.t C h.1.1.2 h.1.1.1) (ga.e C h.1.2) (gb.e C h.2)).imp fun σ H Q q => ite_readV q
theorem s_ix {a i : E} {x : Expr} (ga : Good c Γ T cl a) (gi : Good c Γ T cl i) (C : Cok c Γ T cl Ew sc X) (h : chk c (.ix a i) sc x = true) : PE X x (tE X.K T cl Ew (ev Γ (.ix a i))) := by
  unfold chk at h
  cases x <;> try (cases h; done)
  simp only [Bool.and_eq_true] at h
  refine (pe_ix ix_seq (ga.e C h.1) (gi.e C h.2) (chk_plainIx h.2)).imp fun σ H Q ⟨O, ρ, en, q⟩ => ?_
  simp only [ev, Rs.post_bind] at q
  refine tE_run en q fun y v H1 p e1 t1 en1 r1 => ?_
  refine tE_run en1 (post_at e1 p) fun z w H2 p2 e2 t2 en2 r2 => ?_
  exact rIx_of t2 (r1.ext (e2.mask O)) r2 (Rs.post_mono p2 (fun d k => Wv.from k (e1.trans e2)) fun _ z => z)
theorem s_sl {a lo hi : E} {x : Expr} (ga : Good c Γ T cl a) (gl : Good c Γ T cl lo) (gh : Good c Γ T cl hi) (C : Cok c Γ T cl Ew sc X) (h : chk c (.sl a lo hi) sc x = true) : PE X x (tE X.K T cl Ew (ev Γ (.sl a lo hi))) := by
  unfold chk at h
  cases x <;> try (cases h; done)
  split at h <;> try (cases h; done)
  rename_i hx
  cases hx
  simp only [Bool.and_eq_true] at h
  refine (pe_slice sl_list (ga.e C h.1.1) (gl.o C h.1.2) (gh.o C h.2)).imp fun σ H Q ⟨O, ρ, en, q⟩ => ?_
  simp only [ev, Rs.post_bind] at q
  refine tE_run en q fun y v H1 p e1 t1 en1 r1 => ?_
  refine ⟨O, ρ, en1, Rs.post_mono p (fun o1 p1 H2 e2 t2 => ?_) fun _ z => Wx.from z e1⟩
  refine ⟨O, ρ, en1.ext e2 t2, Rs.post_mono p1 (fun o2 p2 H3 e3 t3 => ?_) fun _ z => Wx.from z (e1.trans e2)⟩
  exact rSl_of (en1.oin.ext (e2.trans e3)) t3 (r1.ext ((e2.trans e3).mask O)) (Rs.post_mono p2 (fun d k => Wv.from k ((e1.trans e2).trans e3)) fun _ z => z)
theorem s_rev {a : E} {x : Expr} (ga : Good c Γ T cl a) (C : Cok c Γ T cl Ew sc X) (h : chk c (.rev a) sc x = true) : PE X x (tE X.K T cl Ew (ev Γ (.rev a))) := by
  unfold chk at h
  cases x <;> try (cases h; done)
  split at h <;> try (cases h; done)
  rename_i hx
  cases hx
  simp only [Bool.and_eq_true, decide_eq_true_eq] at h
  obtain ⟨h1, h2⟩ := h
  subst h1
  refine (pe_revL (ga.e C h2)).imp fun σ H Q ⟨O, ρ, en, q⟩ => ?_
  simp only [ev, Rs.post_bind] at q
  refine tE_run en q fun y v H1 p e1 t1 en1 r1 => ?_
  split at p
  · cases r1 with
    | lst h1 r1 => exact ⟨_, _, rfl, .inl (Rd.ext (mask_le _ _) (fun _ z => by cases z) h1), fun a ha => Wv.lst (Wv.from p e1) en1.oin t1 r1.reverse ha⟩
  · exact p.elim
theorem call_read {k : Nat} {f : Addr} {fd : FuncData} {ps : List Str} {n : Nat} {g : List D → Rs D} {es : E} {j : Nat} {σ : L2.St} {H : Hp} {Q : VK} (hj : Γ.fs[j]? = some (n, g))
    (q : tE X.K T cl Ew (ev Γ (.call j es)) σ H Q) : tCall (spD X.K T cl n g) [] Ew (tAs X.K T cl Ew (evs Γ es)) σ H Q := by
  obtain ⟨O, ρ, en, q⟩ := q
  simp only [ev, Rs.post_bind, hj] at q
  refine tAs_run en q fun ds vs H1 p e1 t1 en1 r => ?_
  rw [List.append_nil]
  split at p
  · rename_i hl
    exact ⟨by rw [r.length]; exact hl, O, ds, en1.oin, t1, r, Rs.post_mono p (fun d k => Wv.from k e1) fun _ k => Wx.from k e1⟩
  · exact p.elim
theorem s_call {j : Nat} {es : E} {x : Expr} (g : Good c Γ T cl es) (C : Cok c Γ T cl Ew sc X) (h : chk c (.call j es) sc x = true) : PE X x (tE X.K T cl Ew (ev Γ (.call j es))) := by
  unfold chk at h
  cases x <;> try (cases h; done)
  rename_i func l kws pos
  split at h <;> try (cases h; done)
  rename_i hx
  cases hx
  simp only [Bool.and_eq_true, decide_eq_true_eq, Bool.not_eq_true'] at h
  obtain ⟨⟨⟨h1, h2⟩, h3⟩, h4⟩ := h
  cases hj : Γ.fs[j]? with
  | none =>
    refine ⟨fun pins s σ H Q I ⟨O, ρ, en, q⟩ => ?_⟩
    simp only [ev, hj] at q
    exact q.elim
  | some ng =>
    obtain ⟨n, gd⟩ := ng
    obtain ⟨k, f, fd, ps, f1, f2, f3, f4, f5⟩ := C.fs j _ _ h1 hj
    cases l with
    | nil =>
      have as0 := g.as C h4
      refine (pe_call0 (E := Ew) (dvs := []) f5 f1 (glB_of C.sc h2) f2 f3 f4 .nil C.pass h3).imp fun σ H Q ⟨O, ρ, en, q⟩ => ?_
      simp only [ev, Rs.post_bind, hj] at q
      cases es with
      | nil =>
        have q' : (if 0 = n then gd [] else Rs.no).post (Wv X.K T O H Q) (Wx T cl Ew H) := q
        split at q'
        · rename_i hl
          exact ⟨hl, O, [], en.oin, en.tabs, .nil, q'⟩
        · exact q'.elim
      | _ => simp [chks] at h4
    | cons e r =>
      have hh : chks c es sc (e :: r) = true := h4
      cases es with
      | cons m ms =>
        simp only [chks, Bool.and_eq_true] at h4
        exact (pe_call (E := Ew) (dvs := []) f5 f1 (glB_of C.sc h2) f2 f3 f4 .nil C.pass (g.as C hh) h3 (chk_star h4.1 _ _) (chks_plain h4.2 _ _)).imp fun σ H Q q => call_read (k := k) (f := f) (fd := fd) (ps := ps) hj q
      | _ => simp [chks] at hh
end
end Mn
/-! Mini, part 7: built-ins, owned lists, arguments, walks -/
namespace Mn
open PySem PySem.Spec PyProof.Rows L2 LamX
theorem boolsOf_eq : ∀ {ds : List D} {bs : List Bool}, boolsOf ds = some bs → ds = bs.map PyData.bool
  | [], bs, h => by cases h; rfl
  | d :: ds, bs, h => by
    cases d with
    | bool b =>
      simp only [boolsOf] at h
      cases e : boolsOf ds with
      | none => rw [e] at h; cases h
      | some r =>
        rw [e] at h
        cases h
        rw [boolsOf_eq e]
        rfl
    | _ => cases h
theorem intsOf_eq : ∀ {ds : List D} {bs : List Int}, intsOf ds = some bs → ds = bs.map PyData.int
  | [], bs, h => by cases h; rfl
  | d :: ds, bs, h => by
    cases d with
    | int b =>
      simp only [intsOf] at h
      cases e : intsOf ds with
      | none => rw [e] at h; cases h
      | some r =>
        rw [e] at h
        cases h
        rw [intsOf_eq e]
        rfl
    | _ => cases h
theorem idxOf_at {x : D} : ∀ {ds : List D} {n j : Nat}, idxOf x ds n = some j → n ≤ j ∧ ∃ z, ds[j - n]? = some z ∧ PyData.eqv z x = true ∧ ∀ (m : Nat) (z' : D), m < j - n → ds[m]? = some z' → PyData.eqv z' x = false
  | [], n, j, h => by cases h
  | d :: ds, n, j, h => by
    unfold idxOf at h
    split at h
    · rename_i hd
      cases h
      refine ⟨Nat.le_refl _, d, by simp, hd, fun m z' hm => by omega⟩
    · rename_i hd
      obtain ⟨h1, z, h2, h3, h4⟩ := idxOf_at h
      refine ⟨by omega, z, ?_, h3, fun m z' hm e => ?_⟩
      · have e : j - n = (j - (n + 1)) + 1 := by omega
        rw [e]
        simpa using h2
      · cases m with
        | zero =>
          have e' : d = z' := by simpa using e
          subst e'
          simpa using hd
        | succ m => exact h4 m z' (by omega) (by simpa using e)
section
variable {c : Nm} {Γ : G} {T : List (Addr × Str)} {cl : Nat → Addr} {Ew : XK} {sc : Scope} {X : Cx}
/-- the arguments of a built-in are read, then its rule -/
theorem bi_read {b : B} {es : E} {r : List V → Hp → VK → Prop} {σ : L2.St} {H : Hp} {Q : VK} (hr : ∀ O H1 vs ds, OIn H1 O → Tabs T H1 → RpAll X.K (mask H1 O) vs ds → (biD b ds).post (Wv X.K T O H1 Q) (Wx T cl Ew H1) → r vs H1 Q)
    (q : tE X.K T cl Ew (ev Γ (.bi b es)) σ H Q) : tCB r (tAs X.K T cl Ew (evs Γ es)) σ H Q := by
  obtain ⟨O, ρ, en, q⟩ := q
  simp only [ev, Rs.post_bind] at q
  refine tAs_run en q fun ds vs H1 p e1 t1 en1 rr => ?_
  exact hr O H1 vs ds en1.oin t1 rr (Rs.post_mono p (fun d k => Wv.from k e1) fun _ k => Wx.from k e1)
theorem RpAll.one {K : PySem.W.Frag} {H : Hp} {vs : List V} {d : D} (r : RpAll K H vs [d]) : ∃ v, vs = [v] ∧ Rp K H v d := by
  cases r with
  | cons h t => cases t; exact ⟨_, rfl, h⟩
theorem RpAll.two {K : PySem.W.Frag} {H : Hp} {vs : List V} {d e : D} (r : RpAll K H vs [d, e]) : ∃ v w, vs = [v, w] ∧ Rp K H v d ∧ Rp K H w e := by
  cases r with
  | cons h t =>
    obtain ⟨w, rfl, hw⟩ := RpAll.one t
    exact ⟨_, _, rfl, h, hw⟩
theorem Rp.lst_of {K : PySem.W.Frag} {H : Hp} {v : V} {ds : List D} (r : Rp K H v (.list ds)) : ∃ a xs, v = .ref a ∧ Rd H a (.lst xs) ∧ RpAll K H xs ds := by
  cases r with
  | lst h t => exact ⟨_, _, rfl, h, t⟩
theorem Rp.tup_of {K : PySem.W.Frag} {H : Hp} {v : V} {ds : List D} (r : Rp K H v (.tuple ds)) : ∃ a xs, v = .ref a ∧ SqT K H a xs ∧ RpAll K H xs ds := by
  cases r with
  | tup h t => exact ⟨_, _, rfl, h, t⟩
theorem rd_sq {K : PySem.W.Frag} {H : Hp} {O : List Addr} {a : Addr} {xs : List V} (h : Rd (mask H O) a (.lst xs)) : SqL K H a xs := .inl (Rd.ext (mask_le H O) (fun _ z => by cases z) h)
theorem sqt_le {K : PySem.W.Frag} {H : Hp} {O : List Addr} {a : Addr} {xs : List V} (h : SqT K (mask H O) a xs) : SqT K H a xs := SqT.ext (mask_le H O) h
theorem s_bi {b : B} {es : E} {x : Expr} (g : Good c Γ T cl es) (C : Cok c Γ T cl Ew sc X) (h : chk c (.bi b es) sc x = true) : PE X x (tE X.K T cl Ew (ev Γ (.bi b es))) := by
  unfold chk at h
  cases x <;> try (cases h; done)
  rename_i func l kws pos
  split at h <;> try (cases h; done)
  rename_i hx
  cases hx
  simp only [Bool.and_eq_true, decide_eq_true_eq] at h
  obtain ⟨⟨h1, h2⟩, h3⟩ := h
  subst h1
  cases l with
  | nil =>
    refine ⟨fun pins s σ H Q I ⟨O, ρ, en, q⟩ => ?_⟩
    exfalso
    cases es with
    | nil =>
      simp only [ev, evs, Rs.bind_ok] at q
      cases b <;> exact q
    | _ => simp [chks] at h3
  | cons e r =>
    have hh : chks c es sc (e :: r) = true := h3
    cases es with
    | cons m ms =>
      simp only [chks, Bool.and_eq_true] at h3
      have A := g.as C hh
      have s1 := chk_star h3.1 r X.env
      have s2 := chks_plain h3.2 pos X.env
      have G := glB_of C.sc h2
      have M := C.bs b
      cases b with
      | len =>
        refine (pe_callB (call_len_seq (X := X)) G M (by decide +kernel) A (by decide) (by decide) s1 s2).imp fun σ H Q q => bi_read (fun O H1 vs ds oin t1 rr p => ?_) q
        unfold biD at p
        split at p <;> first
          | contradiction
          | (obtain ⟨v, rfl, r1⟩ := rr.one
             obtain ⟨a, xs, rfl, h4, h5⟩ := r1.lst_of
             refine ⟨a, xs, rfl, .inl (rd_sq h4), ?_⟩
             rw [h5.length]
             exact Wv.int p t1)
          | (obtain ⟨v, rfl, r1⟩ := rr.one
             obtain ⟨a, xs, rfl, h4, h5⟩ := r1.tup_of
             refine ⟨a, xs, rfl, .inr (sqt_le h4), ?_⟩
             rw [h5.length]
             exact Wv.int p t1)
          | (obtain ⟨v, rfl, r1⟩ := rr.one
             obtain ⟨a, ns, rfl, rfl, h4⟩ := r1.scr_of
             refine ⟨a, _, rfl, .inl (SqL.ext (mask_le _ _) h4), ?_⟩
             rw [List.length_map]
             rw [List.length_map] at p
             exact Wv.int p t1)
          | exact p.elim
      | abs =>
        refine (pe_callB (call_abs (X := X)) G M (by decide +kernel) A (by decide) (by decide) s1 s2).imp fun σ H Q q => bi_read (fun O H1 vs ds oin t1 rr p => ?_) q
        unfold biD at p
        split at p <;> first
          | contradiction
          | (obtain ⟨v, rfl, r1⟩ := rr.one
             cases r1
             exact ⟨_, rfl, Wv.int p t1⟩)
          | exact p.elim
      | int =>
        refine (pe_callTy (call_int1 (X := X)) G M (by decide +kernel) A (by decide) (by decide) s1 s2).imp fun σ H Q q => bi_read (fun O H1 vs ds oin t1 rr p => ?_) q
        unfold biD at p
        split at p <;> first
          | contradiction
          | (obtain ⟨v, rfl, r1⟩ := rr.one
             cases r1
             first
               | exact .inl ⟨_, rfl, Wv.int p t1⟩
               | exact .inr ⟨_, rfl, Wv.int p t1⟩)
          | exact p.elim
      | max =>
        refine (pe_callB (call_max2 (X := X) C.calm) G M (by decide +kernel) A (by decide) (by decide) s1 s2).imp fun σ H Q q => bi_read (fun O H1 vs ds oin t1 rr p => ?_) q
        unfold biD at p
        split at p <;> first
          | contradiction
          | (obtain ⟨v, w, rfl, r1, r2⟩ := rr.two
             cases r1
             cases r2
             exact ⟨_, _, rfl, Wv.int p t1⟩)
          | exact p.elim
      | min =>
        refine (pe_callB (call_min2 (X := X) C.calm) G M (by decide +kernel) A (by decide) (by decide) s1 s2).imp fun σ H Q q => bi_read (fun O H1 vs ds oin t1 rr p => ?_) q
        unfold biD at p
        split at p <;> first
          | contradiction
          | (obtain ⟨v, w, rfl, r1, r2⟩ := rr.two
             cases r1
             cases r2
             exact ⟨_, _, rfl, Wv.int p t1⟩)
          | exact p.elim
      | any =>
        refine (pe_callB (cr_any (X := X) C.calm) G M (by decide +kernel) A (by decide) (by decide) s1 s2).imp fun σ H Q q => bi_read (fun O H1 vs ds oin t1 rr p => ?_) q
        unfold biD at p
        split at p <;> first
          | contradiction
          | (obtain ⟨v, rfl, r1⟩ := rr.one
             obtain ⟨a, xs, rfl, h4, h5⟩ := r1.lst_of
             split at p
             · rename_i hb
               rw [boolsOf_eq hb] at h5
               have e5 := h5.bools
               subst e5
               exact ⟨a, _, rfl, rd_sq h4, Wv.bool p t1⟩
             · exact p.elim)
          | exact p.elim
      | all =>
        refine (pe_callB (cr_all (X := X) C.calm) G M (by decide +kernel) A (by decide) (by decide) s1 s2).imp fun σ H Q q => bi_read (fun O H1 vs ds oin t1 rr p => ?_) q
        unfold biD at p
        split at p <;> first
          | contradiction
          | (obtain ⟨v, rfl, r1⟩ := rr.one
             obtain ⟨a, xs, rfl, h4, h5⟩ := r1.lst_of
             split at p
             · rename_i hb
               rw [boolsOf_eq hb] at h5
               have e5 := h5.bools
               subst e5
               exact ⟨a, _, rfl, rd_sq h4, Wv.bool p t1⟩
             · exact p.elim)
          | exact p.elim
      | sum =>
        refine (pe_callB (cr_sum (X := X) C.calm) G M (by decide +kernel) A (by decide) (by decide) s1 s2).imp fun σ H Q q => bi_read (fun O H1 vs ds oin t1 rr p => ?_) q
        unfold biD at p
        split at p <;> first
          | contradiction
          | (obtain ⟨v, rfl, r1⟩ := rr.one
             obtain ⟨a, xs, rfl, h4, h5⟩ := r1.lst_of
             split at p
             · rename_i hb
               rw [intsOf_eq hb] at h5
               have e5 := h5.ints
               subst e5
               exact ⟨a, _, rfl, rd_sq h4, Wv.int p t1⟩
             · exact p.elim)
          | exact p.elim
      | tuple =>
        refine (pe_callTy (call_tuple_of (X := X)) G M (by decide +kernel) A (by decide) (by decide) s1 s2).imp fun σ H Q q => bi_read (fun O H1 vs ds oin t1 rr p => ?_) q
        unfold biD at p
        split at p <;> first
          | contradiction
          | (obtain ⟨v, rfl, r1⟩ := rr.one
             obtain ⟨a, xs, rfl, h4, h5⟩ := r1.lst_of
             exact ⟨a, xs, rfl, .inl ⟨rd_sq h4, fun l hl => Wv.tup p oin t1 h5 hl⟩⟩)
          | (obtain ⟨v, rfl, r1⟩ := rr.one
             obtain ⟨a, xs, rfl, h4, h5⟩ := r1.tup_of
             exact ⟨a, xs, rfl, .inr ⟨sqt_le h4, (show Wv X.K T O H1 Q _ from p) _ _ (Ext.refl H1) t1 r1⟩⟩)
          | exact p.elim
      | list =>
        refine (pe_callTy (call_list_of (X := X)) G M (by decide +kernel) A (by decide) (by decide) s1 s2).imp fun σ H Q q => bi_read (fun O H1 vs ds oin t1 rr p => ?_) q
        unfold biD at p
        split at p <;> first
          | contradiction
          | (obtain ⟨v, rfl, r1⟩ := rr.one
             obtain ⟨a, xs, rfl, h4, h5⟩ := r1.lst_of
             exact ⟨a, xs, rfl, .inl (rd_sq h4), fun l hl => Wv.lst p oin t1 h5 hl⟩)
          | (obtain ⟨v, rfl, r1⟩ := rr.one
             obtain ⟨a, xs, rfl, h4, h5⟩ := r1.tup_of
             exact ⟨a, xs, rfl, .inr (sqt_le h4), fun l hl => Wv.lst p oin t1 h5 hl⟩)
          | exact p.elim
    | _ => simp [chks] at hh
end
end Mn
/-! Mini, part 8: methods, isinstance, owned lists, arguments, walks -/
namespace Mn
open PySem PySem.Spec PyProof.Rows L2 LamX
section
variable {c : Nm} {Γ : G} {T : List (Addr × Str)} {cl : Nat → Addr} {Ew : XK} {sc : Scope} {X : Cx}
theorem s_idx {a b : E} {x : Expr} (ga : Good c Γ T cl a) (gb : Good c Γ T cl b) (C : Cok c Γ T cl Ew sc X) (h : chk c (.idx a b) sc x = true) : PE X x (tE X.K T cl Ew (ev Γ (.idx a b))) := by
  unfold chk at h
  cases x <;> try (cases h; done)
  rename_i func args kws pos
  split at h <;> try (cases h; done)
  rename_i hx
  cases hx
  simp only [Bool.and_eq_true, decide_eq_true_eq] at h
  obtain ⟨⟨⟨⟨h1, h2⟩, h3⟩, h4⟩, h5⟩ := h
  subst h1
  have s1 := chk_star h5 [] X.env
  refine (pe_bm PySem.F.plainAttrs_list PySem.F.slot_list_index PySem.F.type_list_index (mt_indexD C.units) (ga.e C h4) (pa_cons (gb.e C h5) pa_nil s1) (ncall_base h2 _ _ _) (by rw [s1]; rfl) h3 s1 rfl).imp fun σ H Q ⟨O, ρ, en, q⟩ => ?_
  simp only [ev, Rs.post_bind] at q
  refine tE_run en q fun y v H1 p e1 t1 en1 r1 => ?_
  split at p
  · rename_i ds
    obtain ⟨a', xs, rfl, h6, h7⟩ := r1.lst_of
    refine ⟨.inl ⟨rfl, xs, rd_sq h6⟩, ?_⟩
    rw [Rs.post_bind] at p
    refine tE_run en1 (post_at e1 p) fun z w H2 p2 e2 t2 en2 r2 => ?_
    split at p2
    · rename_i hs
      rw [Bool.and_eq_true] at hs
      split at p2
      · rename_i j hj
        obtain ⟨_, z', h8, h9, h10⟩ := idxOf_at hj
        have r1' := (r1.ext (e2.mask O)).ext (mask_le H2 O)
        refine ⟨a', w, z, ds, j, z', rfl, rfl, r1'.dp (SeqAt.canLay_of_shaped hs.2), (r2.ext (mask_le H2 O)).dp (SeqAt.canLay_of_shaped hs.1), hs.2, hs.1, by simpa using h8, h9, fun m z2 hm e => h10 m z2 (by simpa using hm) e, ?_⟩
        exact (Wv.from (show Wv X.K T O H Q _ from p2) (e1.trans e2)).int t2
      · exact p2.elim
    · exact p2.elim
  · exact p.elim

def tyD : D → String
  | .none => "NoneType" | .bool _ => "bool" | .int _ => "int" | .str _ => "str" | .list _ => "list" | .tuple _ => "tuple" | .dict _ => "list"
theorem ty_of {K : PySem.W.Frag} {H : Hp} {v : V} {d : D} (r : Rp K H v d) : TyX K H v (.type (tyD d)) := by
  cases r with
  | non => exact .base .non
  | bl b => exact .base (.bl b)
  | int i => exact .base (.int i)
  | str x => exact .base (.str x)
  | lst h t =>
    rcases h with h | ⟨o, h⟩
    · exact .base (.lst h)
    · exact .base (.frz h)
  | tup h t =>
    rcases h with (h | ⟨o, h⟩) | ⟨o, its, n, h1, h2, _⟩
    · exact .base (.tup h)
    · exact .fTuple h
    · exact .kTuple h1 h2
  | scr ns h =>
    rcases h with (h | ⟨o, h⟩) | ⟨o, its, n, h1, h2, _⟩
    · exact .base (.lst h)
    · exact .base (.frz h)
    · exact .kList h1 h2
def tyS : Nat → String
  | 0 => "bool" | 1 => "list" | 2 => "tuple" | _ => "str"
def isS : Nat → String → Bool
  | 0, s => s == "bool" | 1, s => s == "list" | 2, s => s == "tuple" | _, s => s == "str"
theorem kit_str : ∀ n, n < 4 → ∀ s ∈ ["NoneType", "bool", "int", "str", "list", "tuple", "dict"], kitB s (tyS n) = some (isS n s) := by decide +kernel
theorem kit_all {K : PySem.W.Frag} {d : D} {n : Nat} (hn : n < 4) : PySem.W.kitOne K (.type (tyD d)) (.type (tyS n)) = some (isiD n d) := by
  have h : kitB (tyD d) (tyS n) = some (isS n (tyD d)) := kit_str n hn _ (by cases d <;> simp [tyD])
  have e : isS n (tyD d) = isiD n d := by
    have hn' : n = 0 ∨ n = 1 ∨ n = 2 ∨ n = 3 := by omega
    rcases hn' with rfl | rfl | rfl | rfl <;> cases d <;> rfl
  rw [e] at h
  exact kit_ty h
theorem boot_t : ∀ n, n < 4 → bootBuiltins (tnm n) = some (.type (tyS n))
  | 0, _ => by decide +kernel
  | 1, _ => by decide +kernel
  | 2, _ => by decide +kernel
  | 3, _ => by decide +kernel
  | n + 4, h => by omega
theorem s_isi {a : E} {t : Nat} {x : Expr} (ga : Good c Γ T cl a) (C : Cok c Γ T cl Ew sc X) (h : chk c (.isi a t) sc x = true) : PE X x (tE X.K T cl Ew (ev Γ (.isi a t))) := by
  unfold chk at h
  cases x <;> try (cases h; done)
  rename_i func args kws pos
  split at h <;> try (cases h; done)
  rename_i hx
  cases hx
  simp only [Bool.and_eq_true, decide_eq_true_eq] at h
  obtain ⟨⟨⟨⟨⟨h1, h2⟩, h3⟩, h4⟩, h5⟩, h6⟩ := h
  subst h1 h4
  have s1 := fun r => chk_star h6 r X.env
  have hne : tnm t ≠ "__name__" ∧ (tnm t == ("__debug__" : Str)) = false := by
    have : t = 0 ∨ t = 1 ∨ t = 2 ∨ t = 3 := by omega
    rcases this with rfl | rfl | rfl | rfl <;> exact ⟨by decide, by decide⟩
  refine (pe_callB (call_isi (X := X)) (glB_of C.sc h2) C.isi (by decide +kernel) (pa_cons (ga.e C h6) (pa_cons (pe_bltn (v := .ty (tyS t)) (glB_of C.sc h5) (C.tns t) (boot_t t h3) rfl hne.1 hne.2) pa_nil rfl) (s1 _)) (by decide) (by decide) (s1 _) rfl).imp fun σ H Q ⟨O, ρ, en, q⟩ => ?_
  simp only [ev, Rs.post_bind] at q
  refine tE_run en q fun y v H1 p e1 t1 en1 r1 => ?_
  exact ⟨v, _, _, _, _, rfl, .ty _, ty_of (r1.ext (mask_le H1 O)), kit_all h3, (Wv.from (show Wv X.K T O H Q _ from p) e1).bool t1⟩

/-! ### owned lists -/
theorem own_at {K : PySem.W.Frag} {O : List Addr} {H : Hp} {σ : L2.St} {ρ : En} {i : Nat} {xs : List D} (en : EnOk K T O H σ ρ) (h : ρ[i]? = some (.own xs)) : ∃ p vs, σ[i]? = some (some (.ref p)) ∧ p ∈ O ∧ H p = some (.lst vs) ∧ RpAll K (mask H O) vs xs := by
  obtain ⟨o, h1, p, vs, h2, h3, h4, h5⟩ := en.at_ _ _ h
  subst h2
  exact ⟨p, vs, h1, h3, h4, h5⟩
theorem s_olen {i : Nat} {x : Expr} (C : Cok c Γ T cl Ew sc X) (h : chk c (.olen i) sc x = true) : PE X x (tE X.K T cl Ew (ev Γ (.olen i))) := by
  unfold chk at h
  cases x <;> try (cases h; done)
  rename_i func args kws pos
  split at h <;> try (cases h; done)
  rename_i hx
  cases hx
  simp only [Bool.and_eq_true, decide_eq_true_eq, Bool.not_eq_true'] at h
  obtain ⟨⟨⟨⟨⟨h1, h2⟩, h3⟩, h4⟩, h5⟩, h6⟩ := h
  subst h1
  refine (pe_callB (call_len_seq (X := X)) (glB_of C.sc h2) (C.bs .len) (by decide +kernel) (pa_cons (pe_var (i := i) (by rw [C.N]; exact h3) (by rw [C.sc]; exact visB_of h4) h5 h6) pa_nil rfl) (by decide) (by decide) rfl rfl).imp fun σ H Q ⟨O, ρ, en, q⟩ => ?_
  simp only [ev] at q
  split at q
  · rename_i xs e
    obtain ⟨p, vs, h7, h8, h9, h10⟩ := own_at en e
    refine ⟨_, h7, p, vs, rfl, .inl (.inl (.inl h9)), ?_⟩
    rw [h10.length]
    exact Wv.int q en.tabs
  · exact q.elim
theorem s_oix {i : Nat} {e : E} {x : Expr} (ge : Good c Γ T cl e) (C : Cok c Γ T cl Ew sc X) (h : chk c (.oix i e) sc x = true) : PE X x (tE X.K T cl Ew (ev Γ (.oix i e))) := by
  unfold chk at h
  cases x <;> try (cases h; done)
  split at h <;> try (cases h; done)
  rename_i hx
  cases hx
  simp only [Bool.and_eq_true, decide_eq_true_eq, Bool.not_eq_true'] at h
  obtain ⟨⟨⟨⟨h3, h4⟩, h5⟩, h6⟩, h7⟩ := h
  refine (pe_ix ix_list (pe_var (i := i) (by rw [C.N]; exact h3) (by rw [C.sc]; exact visB_of h4) h5 h6) (ge.e C h7) (chk_plainIx h7)).imp fun σ H Q ⟨O, ρ, en, q⟩ => ?_
  simp only [ev] at q
  split at q
  · rename_i xs e'
    obtain ⟨p, vs, h7, h8, h9, h10⟩ := own_at en e'
    rw [Rs.post_bind] at q
    refine ⟨_, h7, tE_run en q fun y v H1 q1 e1 t1 en1 r1 => ?_⟩
    split at q1
    · obtain ⟨d, e2, q2⟩ := Rs.post_ofO q1
      cases r1
      obtain ⟨w, h11, h12⟩ := atI_rel h10 e2
      exact ⟨_, _, _, _, rfl, rfl, .inl (.inl (e1 _ _ h9 (fun _ z => by cases z))), h11, q2 _ _ e1 t1 (h12.ext (e1.mask O))⟩
    · exact q1.elim
  · exact q.elim
theorem dp_nil {K : PySem.W.Frag} {H : Hp} {a : Addr} (h : H a = some (.lst [])) : Dp K H (.ref a) (.list []) := .lst (.inl (.inl h)) .nil
theorem eqv_nil (xs : List D) : PyData.eqv (.list xs) (.list []) = xs.isEmpty := by cases xs <;> rfl
theorem s_oemp {i : Nat} {neg : Bool} {x : Expr} (C : Cok c Γ T cl Ew sc X) (h : chk c (.oemp i neg) sc x = true) : PE X x (tE X.K T cl Ew (ev Γ (.oemp i neg))) ∧ PT X x (tT X.K T cl Ew (ev Γ (.oemp i neg))) := by
  unfold chk at h
  cases x <;> try (cases h; done)
  split at h <;> try (cases h; done)
  rename_i hx
  cases hx
  simp only [Bool.and_eq_true, decide_eq_true_eq, Bool.not_eq_true'] at h
  obtain ⟨⟨⟨⟨h2, h3⟩, h4⟩, h5⟩, h6⟩ := h
  subst h2
  have rd : ∀ {σ H Q}, tE X.K T cl Ew (ev Γ (.oemp i neg)) σ H Q → tOp (rCmp X.K (if neg = true then CmpOp.NotEq else CmpOp.Eq)) (tVar i) (tLst tNil) σ H Q := fun {σ H Q} ⟨O, ρ, en, q⟩ => by
    simp only [ev] at q
    split at q
    · rename_i xs e'
      obtain ⟨p, vs, h7, h8, h9, h10⟩ := own_at en e'
      split at q
      · rename_i hs
        refine ⟨_, h7, Nat.zero_le _, fun a ha => ?_⟩
        have d1 : Dp X.K (upd H a (.lst [])) (.ref p) (.list xs) := .lst (.inl (.inl (by rw [upd_ne (ne_of_none h9 ha)]; exact h9))) (((h10.ext (mask_le H O)).ext (Ext.new ha)).dp (by have := SeqAt.canLay_of_shaped hs; simpa only [PyData.canLay0] using this))
        have q' : Wv X.K T O H Q (.bool (if neg = true then !xs.isEmpty else xs.isEmpty)) := q
        cases neg with
        | true =>
          refine ⟨_, _, d1, dp_nil upd_same, hs, by decide, ?_⟩
          rw [eqv_nil]
          exact q' _ _ (Ext.new ha) (Tabs.new en.tabs ha) (.bl _)
        | false =>
          refine ⟨_, _, d1, dp_nil upd_same, hs, by decide, ?_⟩
          rw [eqv_nil]
          exact q' _ _ (Ext.new ha) (Tabs.new en.tabs ha) (.bl _)
      · exact q.elim
    · exact q.elim
  have v1 := pe_var (X := X) (pos := ‹Pos›) (i := i) (by rw [C.N]; exact h3) (by rw [C.sc]; exact visB_of h4) h5 h6
  exact ⟨(pe_cmpR (op_cmp C.units _) (pe_var (i := i) (by rw [C.N]; exact h3) (by rw [C.sc]; exact visB_of h4) h5 h6) (pe_lst pa_nil) rfl).imp fun σ H Q q => rd q,
    (pt_cmpR (op_cmp C.units _) (pe_var (i := i) (by rw [C.N]; exact h3) (by rw [C.sc]; exact visB_of h4) h5 h6) (pe_lst pa_nil) rfl).imp fun σ H Q q => rd (tT_val q)⟩

/-! ### arguments, tests, parts -/
theorem s_nilA {l : List Expr} (h : chks c .nil sc l = true) : PA X l (tAs X.K T cl Ew (evs Γ .nil)) := by
  cases l with
  | nil => exact pa_nil.imp fun σ H Q ⟨O, ρ, en, q⟩ => q [] H (Ext.refl H) en.tabs .nil
  | cons x r => simp [chks] at h
theorem s_consA {e es : E} {l : List Expr} (ge : Good c Γ T cl e) (gs : Good c Γ T cl es) (C : Cok c Γ T cl Ew sc X) (h : chks c (.cons e es) sc l = true) : PA X l (tAs X.K T cl Ew (evs Γ (.cons e es))) := by
  cases l with
  | nil => simp [chks] at h
  | cons x r =>
    simp only [chks, Bool.and_eq_true] at h
    refine (pa_cons (ge.e C h.1) (gs.as C h.2) (chk_star h.1 _ _)).imp fun σ H Q ⟨O, ρ, en, q⟩ => ?_
    simp only [evs, Rs.post_bind] at q
    refine tE_run en q fun y v H1 p e1 t1 en1 r1 => ?_
    refine tAs_run en1 (post_at e1 p) fun ys vs H2 p2 e2 t2 en2 r2 => ?_
    exact (show ∀ vs H', Ext H H' → Tabs T H' → RpAll X.K (mask H' O) vs (y :: ys) → Q vs H' from p2) (v :: vs) H2 (e1.trans e2) t2 (.cons (r1.ext (e2.mask O)) r2)
theorem s_nilC {l : List Expr} (h : chkC c .nil sc l = true) : PTs X l (tT X.K T cl Ew (evC Γ .nil)) := by
  cases l with
  | nil => exact ⟨fun pins s σ H Q I ⟨O, ρ, en, b, e, q⟩ => by cases e; exact pts_nil.run pins s σ H Q I (q H (Ext.refl H) en.tabs)⟩
  | cons x r => simp [chkC] at h
theorem s_consC {e es : E} {l : List Expr} (ge : Good c Γ T cl e) (C : Cok c Γ T cl Ew sc X) (h : chkC c (.cons e es) sc l = true) : PTs X l (tT X.K T cl Ew (evC Γ (.cons e es))) := by
  match l, h with
  | [], h => simp [chkC] at h
  | x :: y :: r, h => simp [chkC] at h
  | [x], h =>
    simp only [chkC, Bool.and_eq_true] at h
    exact pts_one (ge.t C h.1 h.2)
theorem s_nilO {l : Option Expr} (h : chkO c .nil sc l = true) : PO X l (tOp' X.K T cl Ew (evO Γ .nil)) := by
  cases l with
  | none => exact ⟨fun pins s σ H Q I ⟨O, ρ, en, q⟩ => po_none.run pins s σ H Q I (q H (Ext.refl H) en.tabs)⟩
  | some x => simp [chkO] at h
theorem s_consO {e es : E} {l : Option Expr} (ge : Good c Γ T cl e) (C : Cok c Γ T cl Ew sc X) (h : chkO c (.cons e es) sc l = true) : PO X l (tOp' X.K T cl Ew (evO Γ (.cons e es))) := by
  cases l with
  | none => simp [chkO] at h
  | some x =>
    simp only [chkO] at h
    refine ⟨fun pins s σ H Q I ⟨O, ρ, en, q⟩ => (po_some (ge.e C h)).run pins s σ H Q I ?_⟩
    simp only [evO, Rs.post_bind] at q
    refine tE_run en q fun y v H1 p e1 t1 en1 r1 => ?_
    split at p
    · cases r1
      exact ⟨_, rfl, (show ∀ H', Ext H H' → Tabs T H' → Q (some _) H' from p) H1 e1 t1⟩
    · exact p.elim
end
end Mn
/-! Mini, part 9: targets, walks, comprehensions; every term is good -/
namespace Mn
open PySem PySem.Spec PyProof.Rows L2 LamX

/-- what a store changes: the slots vs alone; what is owned behind it was so ahead of it -/
structure Sto (vs : List Nat) (σ σ' : L2.St) (ρ ρ' : En) : Prop where
  len : σ'.length = σ.length
  out : ∀ i : Nat, i ∉ vs → σ'[i]? = σ[i]?
  own : ∀ (i : Nat) (xs : List D), ρ'[i]? = some (.own xs) → ρ[i]? = some (.own xs) ∧ σ'[i]? = σ[i]?
theorem Sto.trans {v1 v2 : List Nat} {σ σ1 σ2 : L2.St} {ρ ρ1 ρ2 : En} (a : Sto v1 σ σ1 ρ ρ1) (b : Sto v2 σ1 σ2 ρ1 ρ2) : Sto (v1 ++ v2) σ σ2 ρ ρ2 :=
  ⟨b.len.trans a.len, fun i h => (b.out i fun z => h (List.mem_append_right _ z)).trans (a.out i fun z => h (List.mem_append_left _ z)), fun i xs h =>
    let ⟨h1, h2⟩ := b.own i xs h
    let ⟨h3, h4⟩ := a.own i xs h1
    ⟨h3, h2.trans h4⟩⟩
theorem Sto.refl (σ : L2.St) (ρ : En) : Sto [] σ σ ρ ρ := ⟨rfl, fun _ _ => rfl, fun _ _ h => ⟨h, rfl⟩⟩
theorem EnOk.set {K : PySem.W.Frag} {T : List (Addr × Str)} {O : List Addr} {H : Hp} {σ : L2.St} {ρ : En} {i : Nat} {v : V} {d : D} (en : EnOk K T O H σ ρ) (r : Rp K (mask H O) v d) (hi : i < ρ.length) :
    EnOk K T O H (σ.set i (some v)) (ρ.set i (.dt d)) ∧ Sto [i] σ (σ.set i (some v)) ρ (ρ.set i (.dt d)) := by
  have hσ : i < σ.length := by rw [en.len]; exact hi
  have own : ∀ (j : Nat) (xs : List D), (ρ.set i (.dt d))[j]? = some (.own xs) → j ≠ i ∧ ρ[j]? = some (.own xs) := fun j xs h => by
    by_cases e : i = j
    · subst e
      rw [List.getElem?_set_self hi] at h
      cases h
    · rw [List.getElem?_set_ne e] at h
      exact ⟨fun z => e z.symm, h⟩
  refine ⟨⟨by rw [List.length_set, List.length_set]; exact en.len, fun j s h => ?_, fun j k xs ys hjk h1 h2 => ?_, en.oin, en.tabs⟩, ⟨by rw [List.length_set], fun j hj => ?_, fun j xs h => ?_⟩⟩
  · by_cases e : i = j
    · subst e
      rw [List.getElem?_set_self hi] at h
      cases h
      exact ⟨some v, List.getElem?_set_self hσ, v, rfl, r⟩
    · rw [List.getElem?_set_ne e] at h ⊢
      exact en.at_ j s h
  · obtain ⟨n1, o1⟩ := own j xs h1
    obtain ⟨n2, o2⟩ := own k ys h2
    rw [List.getElem?_set_ne (Ne.symm n1), List.getElem?_set_ne (Ne.symm n2)]
    exact en.dis j k xs ys hjk o1 o2
  · rw [List.getElem?_set_ne fun z => hj (by simp [z])]
  · obtain ⟨n1, o1⟩ := own j xs h
    exact ⟨o1, by rw [List.getElem?_set_ne (Ne.symm n1)]⟩

section
variable (K : PySem.W.Frag) (T : List (Addr × Str))
def tG (t : Mn.T) : TG := fun v σ H Q => ∃ O ρ d ρ', EnOk K T O H σ ρ ∧ Rp K (mask H O) v d ∧ asgT t d ρ = some ρ' ∧ ∀ σ', EnOk K T O H σ' ρ' → Sto (Tslots t) σ σ' ρ ρ' → Q σ' H
def tGs (t : Mn.T) : TGs := fun vs σ H Q => ∃ O ρ ds ρ', EnOk K T O H σ ρ ∧ RpAll K (mask H O) vs ds ∧ asgTs t ds ρ = some ρ' ∧ ∀ σ', EnOk K T O H σ' ρ' → Sto (Tslots t) σ σ' ρ ρ' → Q σ' H
end
theorem chkT_star {N : List Str} {sc : Scope} {fn : Str → Bool} {t : T} {x : Expr} (h : chkT N sc fn t x = true) (es : List Expr) (env : Env) : (assignEach (x :: es) env) = (false, assign x env) :: assignEach es env := by
  cases x <;> first
    | rfl
    | (cases t <;> simp [chkT] at h)
theorem chkTs_len {N : List Str} {sc : Scope} {fn : Str → Bool} : ∀ {t : T} {l : List Expr}, chkTs N sc fn t l = true → ∀ env, (assignEach l env).length = l.length ∧ (assignEach l env).findIdx? (·.1) = none := by
  intro t
  induction t with
  | nil =>
    intro l h env
    cases l with
    | nil => exact ⟨rfl, rfl⟩
    | cons x r => simp [chkTs] at h
  | cons t ts _ ih =>
    intro l h env
    cases l with
    | nil => simp [chkTs] at h
    | cons x r =>
      simp only [chkTs, Bool.and_eq_true] at h
      rw [chkT_star h.1]
      obtain ⟨h1, h2⟩ := ih h.2 env
      refine ⟨by simp [h1], ?_⟩
      rw [List.findIdx?_cons]
      simp [h2]
  | _ => intro l h; simp [chkTs] at h
theorem asgTs_len : ∀ {t : T} {ds : List D} {ρ ρ' : En} {N : List Str} {sc : Scope} {fn : Str → Bool} {l : List Expr}, chkTs N sc fn t l = true → asgTs t ds ρ = some ρ' → ds.length = l.length := by
  intro t
  induction t with
  | nil =>
    intro ds ρ ρ' N sc fn l h e
    cases l with
    | nil => cases ds with | nil => rfl | cons _ _ => simp [asgTs] at e
    | cons x r => simp [chkTs] at h
  | cons t ts _ ih =>
    intro ds ρ ρ' N sc fn l h e
    cases l with
    | nil => simp [chkTs] at h
    | cons x r =>
      simp only [chkTs, Bool.and_eq_true] at h
      cases ds with
      | nil => simp [asgTs] at e
      | cons d ds =>
        simp only [asgTs] at e
        cases e1 : asgT t d ρ with
        | none => rw [e1] at e; cases e
        | some ρ1 =>
          rw [e1] at e
          simp [ih h.2 e]
  | _ => intro ds ρ ρ' N sc fn l h; simp [chkTs] at h
section
variable {T : List (Addr × Str)} {X : Cx} {N : List Str} {sc : Scope} {fn : Str → Bool}
mutual
theorem s_T (hN : X.N = N) (nd : X.N.Nodup) (hs : X.env.scope = sc) (hc : X.calm = true) (hf : ∀ x, fn x = true → X.fn x = true) : ∀ (t : Mn.T) (x : Expr), chkT N sc fn t x = true → PG X x (tG X.K T t)
  | .name i, x, h => by
    unfold chkT at h
    cases x <;> try (cases h; done)
    rename_i y pos
    simp only [Bool.and_eq_true, decide_eq_true_eq] at h
    obtain ⟨h1, h2⟩ := h
    have hl : Loc X.env.scope y ∧ (X.fn y = true ∨ X.env.scope.names.lookup y = some .local) := by
      rw [hs]
      unfold locB at h2
      split at h2
      · rename_i q
        exact ⟨.inl q, .inr q⟩
      · rename_i q
        exact ⟨.inr q, .inl (hf _ h2)⟩
      · cases h2
    refine (pg_name (i := i) nd (by rw [hN]; exact h1) hl.1 hl.2).imp fun v σ H Q ⟨O, ρ, d, ρ', en, r, e, k⟩ => ?_
    simp only [asgT] at e
    split at e
    · rename_i hi
      cases e
      obtain ⟨e1, e2⟩ := en.set r hi
      exact k _ e1 e2
    · cases e
  | .tup ts, x, h => by
    unfold chkT at h
    cases x <;> try (cases h; done)
    obtain ⟨l1, l2⟩ := chkTs_len h X.env
    refine (pg_tup hc (s_Ts hN nd hs hc hf ts _ h) l1 l2).imp fun v σ H Q ⟨O, ρ, d, ρ', en, r, e, k⟩ => ?_
    cases d <;> try (simp [asgT] at e; done)
    rename_i ds
    obtain ⟨a, xs, rfl, h1, h2⟩ := r.tup_of
    simp only [asgT] at e
    refine ⟨a, xs, rfl, sqt_le h1, ?_, O, ρ, ds, ρ', en, h2, e, k⟩
    rw [h2.length]
    exact asgTs_len h e
  | .nil, x, h => by simp [chkT] at h
  | .cons _ _, x, h => by simp [chkT] at h
theorem s_Ts (hN : X.N = N) (nd : X.N.Nodup) (hs : X.env.scope = sc) (hc : X.calm = true) (hf : ∀ x, fn x = true → X.fn x = true) : ∀ (t : Mn.T) (l : List Expr), chkTs N sc fn t l = true → PGs X l (tGs X.K T t)
  | .nil, l, h => by
    cases l with
    | nil =>
      refine pgs_nil.imp fun vs σ H Q ⟨O, ρ, ds, ρ', en, r, e, k⟩ => ?_
      cases ds with
      | nil =>
        cases r
        cases e
        exact ⟨rfl, k σ en (Sto.refl _ _)⟩
      | cons _ _ => simp [asgTs] at e
    | cons x r => simp [chkTs] at h
  | .cons t ts, l, h => by
    cases l with
    | nil => simp [chkTs] at h
    | cons x r =>
      simp only [chkTs, Bool.and_eq_true] at h
      refine (pgs_cons (s_T hN nd hs hc hf t x h.1) (s_Ts hN nd hs hc hf ts r h.2) (by rw [chkT_star h.1]; rfl)).imp fun vs σ H Q ⟨O, ρ, ds, ρ', en, rr, e, k⟩ => ?_
      cases ds with
      | nil => simp [asgTs] at e
      | cons d ds =>
        cases rr with
        | cons r1 r2 =>
          simp only [asgTs] at e
          cases e1 : asgT t d ρ with
          | none => rw [e1] at e; cases e
          | some ρ1 =>
            rw [e1] at e
            exact ⟨_, _, rfl, O, ρ, d, ρ1, en, r1, e1, fun σ1 en1 st1 => ⟨O, ρ1, ds, ρ', en1, r2, e, fun σ2 en2 st2 => k σ2 en2 (st1.trans st2)⟩⟩
  | .name _, l, h => by simp [chkTs] at h
  | .tup _, l, h => by simp [chkTs] at h
end
/-- at the top of an assignment: a list, too, is laid apart -/
def tGL (K : PySem.W.Frag) (T : List (Addr × Str)) (t : Mn.T) : TG := fun v σ H Q => ∃ O ρ d ρ', EnOk K T O H σ ρ ∧ Rp K (mask H O) v d ∧ asgL t d ρ = some ρ' ∧ ∀ σ', EnOk K T O H σ' ρ' → Sto (Tslots t) σ σ' ρ ρ' → Q σ' H
theorem s_TL (hN : X.N = N) (nd : X.N.Nodup) (hs : X.env.scope = sc) (hc : X.calm = true) (hf : ∀ x, fn x = true → X.fn x = true) (t : Mn.T) (x : Expr) (h : chkT N sc fn t x = true) : PG X x (tGL X.K T t) := by
  have g := s_T (T := T) hN nd hs hc hf t x h
  refine ⟨fun pins s σ H v u Q I r ⟨O, ρ, d, ρ', en, rp, e, k⟩ => ?_⟩
  by_cases hd : ∃ ts ds, t = .tup ts ∧ d = .list ds
  · obtain ⟨ts, ds, rfl, rfl⟩ := hd
    unfold chkT at h
    cases x <;> try (cases h; done)
    obtain ⟨l1, l2⟩ := chkTs_len h X.env
    obtain ⟨a, xs, rfl, h1, h2⟩ := rp.lst_of
    have e' : asgTs ts ds ρ = some ρ' := e
    refine (pg_unl hc (s_Ts (T := T) hN nd hs hc hf ts _ h) l1 l2).run pins s σ H _ u Q I r ⟨a, xs, rfl, rd_sq h1, ?_, O, ρ, ds, ρ', en, h2, e', k⟩
    rw [h2.length]
    exact asgTs_len h e'
  · have e' : asgT t d ρ = some ρ' := by
      unfold asgL at e
      split at e
      · exact absurd ⟨_, _, rfl, rfl⟩ hd
      · exact e
    exact g.run pins s σ H v u Q I r ⟨O, ρ, d, ρ', en, rp, e', k⟩
end
end Mn
/-! Mini, part 10: walks, comprehensions; every term is good -/
namespace Mn
open PySem PySem.Spec PyProof.Rows L2 LamX
theorem rangeD_len : ∀ (n : Nat) (lo : Int), (rangeD lo n).length = n
  | 0, _ => rfl
  | n + 1, lo => by simp [rangeD, rangeD_len n]
theorem rangeD_get : ∀ (n : Nat) (lo : Int) (i : Nat), i < n → (rangeD lo n)[i]? = some (.int (lo + i))
  | 0, _, i, h => by omega
  | n + 1, lo, 0, h => by simp [rangeD]
  | n + 1, lo, i + 1, h => by
    have := rangeD_get n (lo + 1) i (by omega)
    simp only [rangeD, List.getElem?_cons_succ, this]
    congr 2
    omega
theorem enumD_len : ∀ (ds : List D) (n : Nat), (enumD n ds).length = ds.length
  | [], _ => rfl
  | d :: ds, n => by simp [enumD, enumD_len ds]
theorem enumD_get : ∀ (ds : List D) (n i : Nat) (d : D), ds[i]? = some d → (enumD n ds)[i]? = some (.tuple [.int (n + i : Nat), d])
  | [], _, i, d, h => by simp at h
  | x :: ds, n, 0, d, h => by simp at h; subst h; simp [enumD]
  | x :: ds, n, i + 1, d, h => by
    have := enumD_get ds (n + 1) i d (by simpa using h)
    simp only [enumD, List.getElem?_cons_succ, this]
    congr 5
    omega
theorem zipD_len : ∀ (as bs : List D), (zipD as bs).length = min as.length bs.length
  | [], bs => by simp [zipD]
  | a :: as, [] => by simp [zipD]
  | a :: as, b :: bs => by simp [zipD, zipD_len as bs]
theorem zipD_get : ∀ (as bs : List D) (i : Nat) (a b : D), as[i]? = some a → bs[i]? = some b → (zipD as bs)[i]? = some (.tuple [a, b])
  | [], _, i, a, b, h, _ => by simp at h
  | _ :: _, [], i, a, b, _, h => by simp at h
  | x :: as, y :: bs, 0, a, b, h1, h2 => by simp at h1 h2; subst h1 h2; simp [zipD]
  | x :: as, y :: bs, i + 1, a, b, h1, h2 => by
    have := zipD_get as bs i a b (by simpa using h1) (by simpa using h2)
    simpa [zipD] using this
section
variable {K : PySem.W.Frag} {T : List (Addr × Str)}
/-- a read list, wherever the frozen part stands -/
theorem rd_at {Hr H : Hp} {O : List Addr} {a : Addr} {xs : List V} (e : Ext Hr (mask H O)) (h : Rd Hr a (.lst xs)) : SqL K H a xs := rd_sq (Rd.ext e (fun _ z => by cases z) h)
theorem sqL_inj {H : Hp} {a : Addr} {xs ys : List V} (h1 : Rd H a (.lst xs)) (h2 : Rd H a (.lst ys)) : xs = ys := by
  rcases h1 with h1 | ⟨o, h1⟩ <;> rcases h2 with h2 | ⟨o', h2⟩ <;> rw [h1] at h2 <;> cases h2 <;> rfl
theorem itl_of {Hr : Hp} {a : Addr} {xs : List V} {ds : List D} (h : Rd Hr a (.lst xs)) (r : RpAll K Hr xs ds) : ItD K T (Itl K a) Hr ds := fun i H O e oin t => by
  have hq := rd_at (K := K) e h
  refine ⟨fun hi => ⟨?_, fun x H' y => ?_⟩, fun hi => ⟨xs, hq, by rw [r.length]; exact Nat.le_of_eq hi⟩⟩
  · obtain ⟨v, h1, _⟩ := (r.ext e).get (List.getElem?_eq_getElem hi)
    exact ⟨xs, v, hq, h1⟩
  · obtain ⟨rfl, y⟩ := y
    obtain ⟨d, h1, h2⟩ := (r.ext e).getV (y xs hq)
    exact ⟨Ext.refl _, t, d, h1, h2⟩
theorem itt_of {Hr : Hp} {a : Addr} {xs : List V} {ds : List D} (h : SqT K Hr a xs) (r : RpAll K Hr xs ds) : ItD K T (Itt K a) Hr ds := fun i H O e oin t => by
  have hq : SqT K H a xs := sqt_le (SqT.ext e h)
  refine ⟨fun hi => ⟨?_, fun x H' y => ?_⟩, fun hi => ⟨xs, hq, by rw [r.length]; exact Nat.le_of_eq hi⟩⟩
  · obtain ⟨v, h1, _⟩ := (r.ext e).get (List.getElem?_eq_getElem hi)
    exact ⟨xs, v, hq, h1⟩
  · obtain ⟨rfl, y⟩ := y
    obtain ⟨d, h1, h2⟩ := (r.ext e).getV (y xs hq)
    exact ⟨Ext.refl _, t, d, h1, h2⟩
theorem itr_of {Hr : Hp} {lo : Int} {n : Nat} : ItD K T (Itr lo n) Hr (rangeD lo n) := fun i H O e oin t => by
  refine ⟨fun hi => ⟨by rw [rangeD_len] at hi; exact hi, fun x H' y => ?_⟩, fun hi => by rw [rangeD_len] at hi; exact Nat.le_of_eq hi⟩
  obtain ⟨rfl, rfl⟩ := y
  rw [rangeD_len] at hi
  exact ⟨Ext.refl _, t, _, rangeD_get n lo i hi, .int _⟩
theorem itv_of {Hr : Hp} {a : Addr} {xs : List V} {ds : List D} (h : Rd Hr a (.lst xs)) (r : RpAll K Hr xs ds) : ItD K T (Itv K a xs.length) Hr ds.reverse := fun i H O e oin t => by
  have hq := rd_at (K := K) e h
  have hl := r.length
  have ge : ∀ {i : Nat} {v : V}, i < ds.length → xs[xs.length - 1 - i]? = some v → ∃ d, ds.reverse[i]? = some d ∧ Rp K (mask H O) v d := fun {i v} hi hv => by
    obtain ⟨d, h1, h2⟩ := (r.ext e).getV hv
    refine ⟨d, ?_, h2⟩
    rw [List.getElem?_reverse hi]
    rw [hl] at h1
    exact h1
  refine ⟨fun hi => ⟨?_, fun x H' y => ?_⟩, fun hi => ?_⟩
  · rw [List.length_reverse] at hi
    have hx : xs.length - 1 - i < xs.length := by omega
    exact ⟨by omega, xs, xs[xs.length - 1 - i], hq, List.getElem?_eq_getElem hx⟩
  · rw [List.length_reverse] at hi
    obtain ⟨rfl, y⟩ := y
    obtain ⟨d, h1, h2⟩ := ge hi (y xs hq)
    exact ⟨Ext.refl _, t, d, h1, h2⟩
  · rw [List.length_reverse] at hi
    show xs.length ≤ i
    omega
theorem ite_of {Hr : Hp} {a : Addr} {xs : List V} {ds : List D} (h : Rd Hr a (.lst xs)) (r : RpAll K Hr xs ds) : ItD K T (Ite K a) Hr (enumD 0 ds) := fun i H O e oin t => by
  have hq := rd_at (K := K) e h
  refine ⟨fun hi => ⟨?_, fun x H' y => ?_⟩, fun hi => ⟨xs, hq, by rw [enumD_len] at hi; rw [r.length]; exact Nat.le_of_eq hi⟩⟩
  · rw [enumD_len] at hi
    obtain ⟨v, h1, _⟩ := (r.ext e).get (List.getElem?_eq_getElem hi)
    exact ⟨xs, v, hq, h1⟩
  · obtain ⟨Tp, v, rfl, hn, rfl, y⟩ := y
    obtain ⟨d, h1, h2⟩ := (r.ext e).getV (y xs hq)
    refine ⟨Ext.new hn, Tabs.new t hn, _, enumD_get ds 0 i d h1, .tup (.inl (.inl (mask_new oin hn))) (.cons ?_ (.cons (h2.ext ((Ext.new hn).mask O)) .nil))⟩
    rw [Nat.zero_add]
    exact .int _
theorem itz_of {Hr : Hp} {a b : Addr} {xs ys : List V} {ds es : List D} (h : Rd Hr a (.lst xs)) (h' : Rd Hr b (.lst ys)) (r : RpAll K Hr xs ds) (r' : RpAll K Hr ys es) : ItD K T (Itz K a b) Hr (zipD ds es) := fun i H O e oin t => by
  have hq := rd_at (K := K) e h
  have hq' := rd_at (K := K) e h'
  refine ⟨fun hi => ⟨?_, fun x H' y => ?_⟩, fun hi => ⟨xs, ys, hq, hq', ?_⟩⟩
  · rw [zipD_len] at hi
    obtain ⟨v, h1, _⟩ := (r.ext e).get (List.getElem?_eq_getElem (show i < ds.length by omega))
    obtain ⟨w, h2, _⟩ := (r'.ext e).get (List.getElem?_eq_getElem (show i < es.length by omega))
    exact ⟨xs, ys, v, w, hq, hq', h1, h2⟩
  · obtain ⟨Tp, v, w, rfl, hn, rfl, y, y'⟩ := y
    obtain ⟨d, h1, h2⟩ := (r.ext e).getV (y xs hq)
    obtain ⟨d', h1', h2'⟩ := (r'.ext e).getV (y' ys hq')
    exact ⟨Ext.new hn, Tabs.new t hn, _, zipD_get ds es i d d' h1 h1', .tup (.inl (.inl (mask_new oin hn))) (.cons (h2.ext ((Ext.new hn).mask O)) (.cons (h2'.ext ((Ext.new hn).mask O)) .nil))⟩
  · rw [zipD_len] at hi
    rw [r.length, r'.length]
    omega
theorem rpAll_of {H : Hp} : ∀ {vs : List V} {ds : List D}, vs.length = ds.length → (∀ (j : Nat) (v : V) (d : D), vs[j]? = some v → ds[j]? = some d → Rp K H v d) → RpAll K H vs ds
  | [], [], _, _ => .nil
  | [], _ :: _, h, _ => by simp at h
  | _ :: _, [], h, _ => by simp at h
  | v :: vs, d :: ds, h, k => .cons (k 0 v d rfl rfl) (rpAll_of (by simpa using h) fun j v' d' h1 h2 => k (j + 1) v' d' (by simpa using h1) (by simpa using h2))
theorem itzT_of {Hr : Hp} {a b : Addr} {xs ys : List V} {ds es : List D} (h : SqT K Hr a xs) (h' : SqT K Hr b ys) (r : RpAll K Hr xs ds) (r' : RpAll K Hr ys es) : ItD K T (RZ.ItzT K a b) Hr (zipD ds es) := fun i H O e oin t => by
  have hq := sqt_le (SqT.ext e h)
  have hq' := sqt_le (SqT.ext e h')
  refine ⟨fun hi => ⟨?_, fun x H' y => ?_⟩, fun hi => ⟨xs, ys, hq, hq', ?_⟩⟩
  · rw [zipD_len] at hi
    obtain ⟨v, h1, _⟩ := (r.ext e).get (List.getElem?_eq_getElem (show i < ds.length by omega))
    obtain ⟨w, h2, _⟩ := (r'.ext e).get (List.getElem?_eq_getElem (show i < es.length by omega))
    exact ⟨xs, ys, v, w, hq, hq', h1, h2⟩
  · obtain ⟨Tp, v, w, rfl, hn, rfl, y, y'⟩ := y
    obtain ⟨d, h1, h2⟩ := (r.ext e).getV (y xs hq)
    obtain ⟨d', h1', h2'⟩ := (r'.ext e).getV (y' ys hq')
    exact ⟨Ext.new hn, Tabs.new t hn, _, zipD_get ds es i d d' h1 h1', .tup (.inl (.inl (mask_new oin hn))) (.cons (h2.ext ((Ext.new hn).mask O)) (.cons (h2'.ext ((Ext.new hn).mask O)) .nil))⟩
  · rw [zipD_len] at hi
    rw [r.length, r'.length]
    omega
theorem itS_of {S : Hp → Addr → List V → Prop} {Hr : Hp} {a b : Addr} {xs ys : List V} {ds es : List D} (up : ∀ H O c zs, Ext Hr (mask H O) → S Hr c zs → S H c zs) (h : S Hr a xs) (h' : S Hr b ys) (r : RpAll K Hr xs ds) (r' : RpAll K Hr ys es) : ItD K T (Zp.ItS S a b) Hr (zipD ds es) := fun i H O e oin t => by
  have hq := up H O a xs e h
  have hq' := up H O b ys e h'
  refine ⟨fun hi => ⟨?_, fun x H' y => ?_⟩, fun hi => ⟨xs, ys, hq, hq', ?_⟩⟩
  · rw [zipD_len] at hi
    obtain ⟨v, h1, _⟩ := (r.ext e).get (List.getElem?_eq_getElem (show i < ds.length by omega))
    obtain ⟨w, h2, _⟩ := (r'.ext e).get (List.getElem?_eq_getElem (show i < es.length by omega))
    exact ⟨xs, ys, v, w, hq, hq', h1, h2⟩
  · obtain ⟨Tp, v, w, rfl, hn, rfl, y, y'⟩ := y
    obtain ⟨d, h1, h2⟩ := (r.ext e).getV (y xs hq)
    obtain ⟨d', h1', h2'⟩ := (r'.ext e).getV (y' ys hq')
    exact ⟨Ext.new hn, Tabs.new t hn, _, zipD_get ds es i d d' h1 h1', .tup (.inl (.inl (mask_new oin hn))) (.cons (h2.ext ((Ext.new hn).mask O)) (.cons (h2'.ext ((Ext.new hn).mask O)) .nil))⟩
  · rw [zipD_len] at hi
    rw [r.length, r'.length]
    omega
end
section
variable {c : Nm} {Γ : G} {T : List (Addr × Str)} {cl : Nat → Addr} {Ew : XK} {sc : Scope} {X : Cx}
theorem s_iseq {a : E} {tg x : Expr} (ga : Good c Γ T cl a) (C : Cok c Γ T cl Ew sc X) (h : chkI c (.iseq a) sc tg x = true) : PI X tg x (tI X.K T cl Ew (evI Γ (.iseq a))) ∧ ∀ v, foldedSetIterable x X.env v = pure v := by
  simp only [chkI] at h
  refine ⟨⟨fun pins s σ H R I ⟨O, ρ, en, q⟩ => ?_⟩, fun v => chk_fold h _ _⟩
  simp only [evI, Rs.post_bind] at q
  have pe := ga.e C h
  cases hv : ev Γ a ρ with
  | no => rw [hv] at q; exact q.elim
  | exn k => rw [hv] at q; exact (pi_list (tg := tg) pe).run pins s σ H R I ⟨O, ρ, en, by rw [hv]; exact q⟩
  | ok d =>
    rw [hv] at q
    cases d <;> try exact (show False from q).elim
    · rename_i ds
      refine (pi_list (tg := tg) pe).run pins s σ H R I ⟨O, ρ, en, ?_⟩
      rw [hv]
      intro v H1 e1 t1 r1
      obtain ⟨b, xs, rfl, h1, h2⟩ := r1.lst_of
      exact ⟨b, rfl, ⟨xs, rd_sq h1⟩, (show ∀ J H', Ext H H' → Tabs T H' → ItD X.K T J (mask H' O) ds → R J H' from q) _ H1 e1 t1 (itl_of h1 h2)⟩
    · rename_i ds
      refine (pi_tup (tg := tg) pe).run pins s σ H R I ⟨O, ρ, en, ?_⟩
      rw [hv]
      intro v H1 e1 t1 r1
      obtain ⟨b, xs, rfl, h1, h2⟩ := r1.tup_of
      exact ⟨b, rfl, ⟨xs, sqt_le h1⟩, (show ∀ J H', Ext H H' → Tabs T H' → ItD X.K T J (mask H' O) ds → R J H' from q) _ H1 e1 t1 (itt_of h1 h2)⟩
theorem tAs_run' {K : PySem.W.Frag} {O : List Addr} {H : Hp} {σ : L2.St} {ρ : En} {f : En → Rs (List D)} {P : List D → Prop} {Q : List V → Hp → Prop} (en : EnOk K T O H σ ρ) (h : (f ρ).post P (Wx T cl Ew H)) (k : ∀ d v H1, f ρ = .ok d → P d → Ext H H1 → Tabs T H1 → EnOk K T O H1 σ ρ → RpAll K (mask H1 O) v d → Q v H1) : tAs K T cl Ew f σ H Q := by
  refine ⟨O, ρ, en, ?_⟩
  cases hf : f ρ with
  | no => rw [hf] at h; exact h
  | exn c => rw [hf] at h; exact h
  | ok d => rw [hf] at h; exact fun v H' e t r => k d v H' hf h e t (en.ext e t) r
theorem evs_len : ∀ {m : E} {l : List Expr} {ρ : En} {ds : List D}, chks c m sc l = true → evs Γ m ρ = .ok ds → ds.length = l.length := by
  intro m
  induction m with
  | nil =>
    intro l ρ ds h e
    cases l with
    | nil => simp only [evs] at e; cases e; rfl
    | cons x r => simp [chks] at h
  | cons e es _ ih =>
    intro l ρ ds h hv
    cases l with
    | nil => simp [chks] at h
    | cons x r =>
      simp only [chks, Bool.and_eq_true] at h
      simp only [evs] at hv
      cases h1 : ev Γ e ρ with
      | no => rw [h1] at hv; cases hv
      | exn k => rw [h1] at hv; cases hv
      | ok d =>
        rw [h1] at hv
        simp only [Rs.bind_ok] at hv
        cases h2 : evs Γ es ρ with
        | no => rw [h2] at hv; cases hv
        | exn k => rw [h2] at hv; cases hv
        | ok xs =>
          rw [h2] at hv
          cases hv
          simp [ih h.2 h2]
  | _ => intro l ρ ds h; simp [chks] at h
theorem s_irange {es : E} {tg x : Expr} (g : Good c Γ T cl es) (C : Cok c Γ T cl Ew sc X) (h : chkI c (.irange es) sc tg x = true) : PI X tg x (tI X.K T cl Ew (evI Γ (.irange es))) ∧ ∀ v, foldedSetIterable x X.env v = pure v := by
  unfold chkI at h
  cases x <;> try (cases h; done)
  rename_i func args kws pos
  split at h <;> try (cases h; done)
  rename_i hx
  cases hx
  simp only [Bool.and_eq_true, decide_eq_true_eq] at h
  obtain ⟨⟨⟨⟨h1, h2⟩, h3⟩, h3'⟩, h4⟩ := h
  subst h1
  refine ⟨?_, fun v => rfl⟩
  match args, h3, h3', h4 with
  | [], h3, _, _ => simp at h3
  | _ :: _ :: _ :: _, _, h3', _ => simp at h3'
  | [x1], _, _, h4 =>
    have A := g.as C h4
    have L := @evs_len c Γ sc es [x1]
    cases es with
    | cons m ms =>
      have hh := h4
      simp only [chks, Bool.and_eq_true] at h4
      refine (pi_range1 (tg := tg) (glB_of C.sc h2) C.rng A (by rw [chk_star h4.1]; rfl)).imp fun σ H R ⟨O, ρ, en, q⟩ => ?_
      simp only [evI, Rs.post_bind] at q
      refine tAs_run' en q fun ds vs H1 he p e1 t1 en1 r => ?_
      have hl := L hh he
      split at p
      · obtain ⟨v, rfl, r1⟩ := r.one
        cases r1
        split at p
        · rename_i hj
          exact ⟨_, rfl, hj.1, hj.2, p _ H1 e1 t1 itr_of⟩
        · exact p.elim
      · simp at hl
      · exact p.elim
    | _ => simp [chks] at h4
  | [x1, x2], _, _, h4 =>
    have A := g.as C h4
    have L := @evs_len c Γ sc es [x1, x2]
    cases es with
    | cons m ms =>
      have hh := h4
      simp only [chks, Bool.and_eq_true] at h4
      cases ms with
      | cons m' ms' =>
        have h5 := h4.2
        simp only [chks, Bool.and_eq_true] at h5
        have s1 := chk_star h5.1 [] X.env
        refine (pi_range2 (tg := tg) (glB_of C.sc h2) C.rng A (by rw [chk_star h4.1, s1]; rfl) (by rw [s1]; rfl)).imp fun σ H R ⟨O, ρ, en, q⟩ => ?_
        simp only [evI, Rs.post_bind] at q
        refine tAs_run' en q fun ds vs H1 he p e1 t1 en1 r => ?_
        have hl := L hh he
        split at p
        · simp at hl
        · obtain ⟨v, w, rfl, r1, r2⟩ := r.two
          cases r1
          cases r2
          split at p
          · rename_i hj
            exact ⟨_, _, rfl, hj, p _ H1 e1 t1 itr_of⟩
          · exact p.elim
        · exact p.elim
      | _ => have h5 := h4.2; simp [chks] at h5
    | _ => simp [chks] at h4
theorem s_ienum {a : E} {tg x : Expr} (ga : Good c Γ T cl a) (C : Cok c Γ T cl Ew sc X) (h : chkI c (.ienum a) sc tg x = true) : PI X tg x (tI X.K T cl Ew (evI Γ (.ienum a))) ∧ ∀ v, foldedSetIterable x X.env v = pure v := by
  unfold chkI at h
  cases tg <;> try (cases h; done)
  cases x <;> try (cases h; done)
  rename_i func args kws pos
  dsimp only at h
  split at h <;> try (cases h; done)
  rename_i hx
  cases hx
  simp only [Bool.and_eq_true, decide_eq_true_eq] at h
  obtain ⟨⟨h1, h2⟩, h3⟩ := h
  subst h1
  have s1 := chk_star h3 [] X.env
  refine ⟨(pi_enum (glB_of C.sc h2) C.enm (pa_cons (ga.e C h3) pa_nil s1) (by rw [s1]; rfl)).imp fun σ H R ⟨O, ρ, en, q⟩ => ?_, fun v => rfl⟩
  simp only [evI, Rs.post_bind] at q
  refine tE_run en q fun y v H1 p e1 t1 en1 r1 => ?_
  split at p
  · obtain ⟨b, xs, rfl, h4, h5⟩ := r1.lst_of
    exact ⟨b, xs, rfl, rd_sq h4, p _ H1 e1 t1 (ite_of h4 h5)⟩
  · exact p.elim
theorem s_irev {a : E} {tg x : Expr} (ga : Good c Γ T cl a) (C : Cok c Γ T cl Ew sc X) (h : chkI c (.irev a) sc tg x = true) : PI X tg x (tI X.K T cl Ew (evI Γ (.irev a))) ∧ ∀ v, foldedSetIterable x X.env v = pure v := by
  unfold chkI at h
  cases x <;> try (cases h; done)
  rename_i func args kws pos
  split at h <;> try (cases h; done)
  rename_i hx
  cases hx
  simp only [Bool.and_eq_true, decide_eq_true_eq] at h
  obtain ⟨⟨h1, h2⟩, h3⟩ := h
  subst h1
  have s1 := chk_star h3 [] X.env
  refine ⟨(pi_reversed (glB_of C.sc h2) C.rev (pa_cons (ga.e C h3) pa_nil s1) (by rw [s1]; rfl)).imp fun σ H R ⟨O, ρ, en, q⟩ => ?_, fun v => rfl⟩
  simp only [evI, Rs.post_bind] at q
  refine tE_run en q fun y v H1 p e1 t1 en1 r1 => ?_
  split at p
  · obtain ⟨b, xs, rfl, h4, h5⟩ := r1.lst_of
    exact ⟨b, xs, rfl, rd_sq h4, p _ H1 e1 t1 (itv_of h4 h5)⟩
  · exact p.elim
theorem s_izip {a b : E} {tg x : Expr} (ga : Good c Γ T cl a) (gb : Good c Γ T cl b) (C : Cok c Γ T cl Ew sc X) (h : chkI c (.izip a b) sc tg x = true) : PI X tg x (tI X.K T cl Ew (evI Γ (.izip a b))) ∧ ∀ v, foldedSetIterable x X.env v = pure v := by
  unfold chkI at h
  cases tg <;> try (cases h; done)
  all_goals
    cases x <;> try (cases h; done)
    rename_i func args kws pos
    dsimp only at h
    split at h <;> try (cases h; done)
    rename_i hx
    cases hx
    simp only [Bool.and_eq_true, decide_eq_true_eq] at h
    obtain ⟨⟨⟨h1, h2⟩, h3⟩, h4⟩ := h
    subst h1
    have s2 := chk_star h4 [] X.env
    have s1 := fun r => chk_star h3 r X.env
  · refine ⟨(Zp.pi_zipN (glB_of C.sc h2) C.zip (pa_cons (ga.e C h3) (pa_cons (gb.e C h4) pa_nil s2) (s1 _)) (s1 _) (by rw [s2]; rfl)).imp fun σ H R ⟨O, ρ, en, q⟩ => ?_, fun v => rfl⟩
    simp only [evI, Rs.post_bind] at q
    refine tE_run en q fun y v H1 p e1 t1 en1 r1 => ?_
    refine tE_run en1 (post_at e1 p) fun z w H2 p2 e2 t2 en2 r2 => ?_
    split at p2
    · obtain ⟨b1, xs, rfl, h5, h6⟩ := (r1.ext (e2.mask O)).lst_of
      obtain ⟨b2, ys, rfl, h7, h8⟩ := r2.lst_of
      exact ⟨b1, b2, xs, ys, rfl, .inl ⟨rd_sq h5, rd_sq h7, p2 _ H2 (e1.trans e2) t2 (itS_of (S := SqL X.K) (fun H O c zs e h => SqL.ext (mask_le H O) (SqL.ext e h)) (.inl h5) (.inl h7) h6 h8)⟩⟩
    · obtain ⟨b1, xs, rfl, h5, h6⟩ := (r1.ext (e2.mask O)).tup_of
      obtain ⟨b2, ys, rfl, h7, h8⟩ := r2.tup_of
      exact ⟨b1, b2, xs, ys, rfl, .inr ⟨sqt_le h5, sqt_le h7, p2 _ H2 (e1.trans e2) t2 (itS_of (S := SqT X.K) (fun H O c zs e h => sqt_le (SqT.ext e h)) h5 h7 h6 h8)⟩⟩
    · exact p2.elim
  · refine ⟨(RZ.pi_zipA (glB_of C.sc h2) C.zip (pa_cons (ga.e C h3) (pa_cons (gb.e C h4) pa_nil s2) (s1 _)) (s1 _) (by rw [s2]; rfl)).imp fun σ H R ⟨O, ρ, en, q⟩ => ?_, fun v => rfl⟩
    simp only [evI, Rs.post_bind] at q
    refine tE_run en q fun y v H1 p e1 t1 en1 r1 => ?_
    refine tE_run en1 (post_at e1 p) fun z w H2 p2 e2 t2 en2 r2 => ?_
    split at p2
    · obtain ⟨b1, xs, rfl, h5, h6⟩ := (r1.ext (e2.mask O)).lst_of
      obtain ⟨b2, ys, rfl, h7, h8⟩ := r2.lst_of
      exact ⟨b1, b2, xs, ys, rfl, .inl ⟨rd_sq h5, rd_sq h7, p2 _ H2 (e1.trans e2) t2 (itz_of h5 h7 h6 h8)⟩⟩
    · obtain ⟨b1, xs, rfl, h5, h6⟩ := (r1.ext (e2.mask O)).tup_of
      obtain ⟨b2, ys, rfl, h7, h8⟩ := r2.tup_of
      exact ⟨b1, b2, xs, ys, rfl, .inr ⟨sqt_le h5, sqt_le h7, p2 _ H2 (e1.trans e2) t2 (itzT_of h5 h7 h6 h8)⟩⟩
    · exact p2.elim
theorem s_lzip {a b : E} {x : Expr} (ga : Good c Γ T cl a) (gb : Good c Γ T cl b) (C : Cok c Γ T cl Ew sc X) (h : chk c (.lzip a b) sc x = true) : PE X x (tE X.K T cl Ew (ev Γ (.lzip a b))) := by
  unfold chk at h
  cases x <;> try (cases h; done)
  rename_i func args kws pos
  split at h <;> try (cases h; done)
  rename_i hx
  cases hx
  simp only [Bool.and_eq_true, decide_eq_true_eq] at h
  obtain ⟨⟨⟨⟨⟨h1, h2⟩, h1'⟩, h2'⟩, h3⟩, h4⟩ := h
  subst h1 h1'
  have s2 := chk_star h4 [] X.env
  have s1 := fun r => chk_star h3 r X.env
  refine (Zp.pe_lzip C.calm (glB_of C.sc h2) (C.bs .list) (glB_of C.sc h2') C.zip (pa_cons (ga.e C h3) (pa_cons (gb.e C h4) pa_nil s2) (s1 _)) (s1 _) (by rw [s2]; rfl)).imp fun σ H Q ⟨O, ρ, en, q⟩ => ?_
  simp only [ev, Rs.post_bind] at q
  refine tE_run en q fun y v H1 p e1 t1 en1 r1 => ?_
  refine tE_run en1 (post_at e1 p) fun z w H2 p2 e2 t2 en2 r2 => ?_
  split at p2
  · rename_i ds es
    obtain ⟨b1, xs, rfl, h5, h6⟩ := (r1.ext (e2.mask O)).lst_of
    obtain ⟨b2, ys, rfl, h7, h8⟩ := r2.lst_of
    refine ⟨b1, b2, xs, ys, rfl, rd_sq h5, rd_sq h7, fun H' S Ts up hS hn hl hT => ?_⟩
    have ext : Ext H2 H' := fun a o e _ => up a o e
    have tabs : Tabs T H' := t2.ext fun b u e => up b u e
    have notO : ∀ a, H2 a = none → a ∉ O := fun a e => en2.oin.fresh e
    refine p2 _ H' ((e1.trans e2).trans ext) tabs (.lst (xs := Ts.map V.ref) (.inl ?_) ?_)
    · rw [mask_of (notO S hn)]
      exact hS
    · have hlen : (zipD ds es).length = Ts.length := by rw [zipD_len, hl, h6.length, h8.length]
      refine rpAll_of (by rw [List.length_map]; exact hlen.symm) fun j v d hv hd => ?_
      rw [List.getElem?_map] at hv
      cases hTj : Ts[j]? with
      | none => rw [hTj] at hv; cases hv
      | some Tp =>
        rw [hTj] at hv
        cases hv
        obtain ⟨x, y, ex, ey, eh, en'⟩ := hT j Tp hTj
        obtain ⟨dx, hx1, hx2⟩ := h6.getV ex
        obtain ⟨dy, hy1, hy2⟩ := h8.getV ey
        rw [zipD_get ds es j dx dy hx1 hy1] at hd
        cases hd
        exact .tup (.inl (.inl (by rw [mask_of (notO Tp en')]; exact eh))) (.cons (hx2.ext (ext.mask O)) (.cons (hy2.ext (ext.mask O)) .nil))
  · exact p2.elim
end
end Mn
/-! Mini, part 11: comprehensions; every term is good -/
namespace Mn
open PySem PySem.Spec PyProof.Rows L2 LamX
theorem wipe_out {σ : L2.St} : ∀ {vs : List Nat} {i : Nat}, i ∉ vs → (wipe σ vs)[i]? = σ[i]?
  | [], _, _ => rfl
  | v :: vs, i, h => by
    unfold wipe
    rw [List.getElem?_set_ne fun z => h (by simp [z])]
    exact wipe_out fun z => h (List.mem_cons_of_mem _ z)
theorem wipe_in {σ : L2.St} : ∀ {vs : List Nat} {i : Nat}, i ∈ vs → i < σ.length → (wipe σ vs)[i]? = some none
  | [], _, h, _ => by cases h
  | v :: vs, i, h, hl => by
    unfold wipe
    by_cases e : v = i
    · subst e
      rw [List.getElem?_set_self (by rw [wipe_length]; exact hl)]
    · rw [List.getElem?_set_ne e]
      rcases List.mem_cons.mp h with z | z
      · exact absurd z.symm e
      · exact wipe_in z hl
theorem wipe_eq {σ1 σ2 : L2.St} {vs : List Nat} (hl : σ1.length = σ2.length) (h : ∀ i, i ∉ vs → σ1[i]? = σ2[i]?) : wipe σ1 vs = wipe σ2 vs := by
  refine List.ext_getElem? fun i => ?_
  by_cases hi : i ∈ vs
  · by_cases hb : i < σ1.length
    · rw [wipe_in hi hb, wipe_in hi (by omega)]
    · rw [List.getElem?_eq_none (by rw [wipe_length]; omega), List.getElem?_eq_none (by rw [wipe_length]; omega)]
  · rw [wipe_out hi, wipe_out hi, h i hi]
theorem wipeE_len {ρ : En} : ∀ vs : List Nat, (wipeE ρ vs).length = ρ.length
  | [] => rfl
  | v :: vs => by unfold wipeE; rw [List.length_set, wipeE_len vs]
theorem wipeE_out {ρ : En} : ∀ {vs : List Nat} {i : Nat}, i ∉ vs → (wipeE ρ vs)[i]? = ρ[i]?
  | [], _, _ => rfl
  | v :: vs, i, h => by
    unfold wipeE
    rw [List.getElem?_set_ne fun z => h (by simp [z])]
    exact wipeE_out fun z => h (List.mem_cons_of_mem _ z)
theorem wipeE_in {ρ : En} : ∀ {vs : List Nat} {i : Nat}, i ∈ vs → i < ρ.length → (wipeE ρ vs)[i]? = some .un
  | [], _, h, _ => by cases h
  | v :: vs, i, h, hl => by
    unfold wipeE
    by_cases e : v = i
    · subst e
      rw [List.getElem?_set_self (by rw [wipeE_len]; exact hl)]
    · rw [List.getElem?_set_ne e]
      rcases List.mem_cons.mp h with z | z
      · exact absurd z.symm e
      · exact wipeE_in z hl
theorem mask_cons {H H' : Hp} {O : List Addr} {D : Addr} (e : Ext H H') (hD : H D = none) : Ext (mask H O) (mask H' (D :: O)) := fun b o h n => by
  obtain ⟨h1, h2⟩ := mask_in h
  rw [mask_of fun z => ?_]
  · exact e b o h2 n
  · rcases List.mem_cons.mp z with z | z
    · rw [z, hD] at h2
      cases h2
    · exact h1 z
theorem EnOk.blk {K : PySem.W.Frag} {T : List (Addr × Str)} {O : List Addr} {H H' : Hp} {σ : L2.St} {ρ : En} {D : Addr} {vs : List Nat} {acc : List V} (en : EnOk K T O H σ ρ) (e : Ext H H') (hD : H D = none) (hD' : H' D = some (.lst acc)) (t : Tabs T H') :
    EnOk K T (D :: O) H' (wipe σ vs) (wipeE ρ vs) := by
  have mk := mask_cons (O := O) e hD
  have own : ∀ (i : Nat) (xs : List Mn.D), (wipeE ρ vs)[i]? = some (.own xs) → i ∉ vs ∧ ρ[i]? = some (.own xs) := fun i xs h => by
    by_cases hi : i ∈ vs
    · by_cases hb : i < ρ.length
      · rw [wipeE_in hi hb] at h
        cases h
      · rw [List.getElem?_eq_none (by rw [wipeE_len]; omega)] at h
        cases h
    · rw [wipeE_out hi] at h
      exact ⟨hi, h⟩
  refine ⟨by rw [wipe_length, wipeE_len]; exact en.len, fun i s h => ?_, fun i j xs ys hij h1 h2 => ?_, fun p hp => ?_, t⟩
  · by_cases hi : i ∈ vs
    · by_cases hb : i < ρ.length
      · rw [wipeE_in hi hb] at h
        cases h
        exact ⟨none, wipe_in hi (by rw [en.len]; exact hb), True.intro⟩
      · rw [List.getElem?_eq_none (by rw [wipeE_len]; omega)] at h
        cases h
    · rw [wipeE_out hi] at h
      rw [wipe_out hi]
      obtain ⟨o, h1, h2⟩ := en.at_ i s h
      refine ⟨o, h1, ?_⟩
      cases s with
      | un => exact True.intro
      | dt d =>
        obtain ⟨v, e1, r⟩ := h2
        exact ⟨v, e1, r.ext mk⟩
      | own xs =>
        obtain ⟨p, ws, e1, e2, e3, e4⟩ := h2
        exact ⟨p, ws, e1, List.mem_cons_of_mem _ e2, e p _ e3 (fun _ z => by cases z), e4.ext mk⟩
  · obtain ⟨n1, o1⟩ := own i xs h1
    obtain ⟨n2, o2⟩ := own j ys h2
    rw [wipe_out n1, wipe_out n2]
    exact en.dis i j xs ys hij o1 o2
  · rcases List.mem_cons.mp hp with z | z
    · rw [z]
      exact ⟨_, hD', fun _ z => by cases z⟩
    · exact en.oin.ext e p z
theorem codeO_lst {c : Addr} {q : Str} {vs : List V} : CodeO c q ≠ .lst vs := fun z => by
  unfold CodeO at z
  cases z
theorem Tabs.put {T : List (Addr × Str)} {H : Hp} {D : Addr} {vs ws : List V} (t : Tabs T H) (h : H D = some (.lst vs)) : Tabs T (upd H D (.lst ws)) := fun p hp => by
  obtain ⟨ps, h1, h2, h3⟩ := t p hp
  refine ⟨ps, ?_, h2, fun pos cv hc => ?_⟩
  · rw [upd_ne (ne_of h1 h (fun z => by cases z))]
    exact h1
  · obtain ⟨c, e1, e2⟩ := h3 pos cv hc
    exact ⟨c, e1, by rw [upd_ne (ne_of e2 h codeO_lst)]; exact e2⟩
theorem compRun_cons {as : D → Option En} {c e : En → Rs D} {d : D} {ds xs : List D} (h : compRun as c e (d :: ds) = .ok xs) :
    ∃ ρ, as d = some ρ ∧ ((c ρ = .ok (.bool true) ∧ ∃ x r, e ρ = .ok x ∧ compRun as c e ds = .ok r ∧ xs = x :: r) ∨ (c ρ = .ok (.bool false) ∧ compRun as c e ds = .ok xs)) := by
  unfold compRun at h
  split at h
  · cases h
  · rename_i ρ hρ
    refine ⟨ρ, hρ, ?_⟩
    split at h
    · rename_i hc
      split at h
      · rename_i x hx
        split at h
        · rename_i r hr
          cases h
          exact .inl ⟨hc, x, r, hx, hr, rfl⟩
        · cases h
      · cases h
    · rename_i hc
      exact .inr ⟨hc, h⟩
    · cases h
theorem compRun_exn {as : D → Option En} {c e : En → Rs D} {k : Nat} : ∀ {ds : List D}, compRun as c e ds ≠ .exn k
  | [], h => by cases h
  | d :: ds, h => by
    unfold compRun at h
    split at h
    · cases h
    · split at h
      · split at h
        · split at h <;> cases h
        · cases h
      · exact compRun_exn h
      · cases h
section
variable {c : Nm} {Γ : G} {T : List (Addr × Str)} {cl : Nat → Addr} {Ew : XK} {sc : Scope} {X : Cx}
theorem passN {X : Cx} : Passes (L2N.CX X.prog X.w) X E0 := fun pins σ H s e s' I c => by
  obtain ⟨_, _, _, _, _, _, _, _, _, _, _, _, z⟩ := c
  exact z.elim
theorem Cok.blk {scope : Scope} (C : Cok c Γ T cl Ew sc X) (ho : ownS sc = true ∨ c.td = 0) (s : Shared) (H : Hp) (A : Addr) (l : List (Str × Addr)) (fp : List Addr) : Cok c Γ T cl E0 (relS scope sc) (X.blk s H scope (compEnvC scope l A X.env) fp) := by
  have hs : (compEnvC scope l A X.env).scope = relS scope sc := by rw [← C.sc]; rfl
  exact ⟨C.N, C.nd, hs, C.calm, C.units, C.fs, C.cs, C.bs, C.rng, C.enm, C.zip, C.rev, C.isi, C.tns, passN, fun _ h0 => C.td (by rw [C.sc]; exact ho.resolve_right (by omega)) h0⟩
theorem comp_core {own : List (Str × Nat)} {tg : Mn.T} {it t e : E} {σ : L2.St} {H : Hp} {Q : VK} {O : List Addr} {ρ : En} (hsl : ∀ i ∈ Tslots tg, i ∈ own.map (·.2)) (en : EnOk X.K T O H σ ρ)
    (q : (ev Γ (.comp own tg it t e) ρ).post (fun d => ∀ xs, d = .list xs → ∀ H1 D vs H', Ext H H1 → H1 D = none → Ext H1 H' → Tabs T H' → H' D = some (.lst vs) → RpAll X.K (mask H' (D :: O)) vs xs → Q (.ref D) H') (Wx T cl Ew H)) :
    tLc (tI X.K T cl Ew (evI Γ it)) (tG X.K T tg) (tT X.K T cl E0 (evC Γ t)) (tE X.K T cl E0 (ev Γ e)) (own.map (·.2)) σ H Q := by
  simp only [ev, Rs.post_bind] at q
  refine ⟨O, ρ, en, Rs.post_mono q (fun ds p J H1 e1 t1 itd D hD => ?_) fun _ z => z⟩
  split at p
  · rename_i hlim
    rw [Rs.post_bind] at p
    generalize hw : wipeE ρ (own.map (·.2)) = ρw at p
    cases hr : compRun (fun d => asgT tg d ρw) (fun ρ' => evC Γ t ρ') (fun ρ' => ev Γ e ρ') ds with
    | no => rw [hr] at p; exact p.elim
    | exn k => exact absurd hr compRun_exn
    | ok xs =>
      rw [hr] at p
      have p := (show ∀ ys, PyData.list xs = .list ys → ∀ H1 D vs H', Ext H H1 → H1 D = none → Ext H1 H' → Tabs T H' → H' D = some (.lst vs) → RpAll X.K (mask H' (D :: O)) vs ys → Q (.ref D) H' from p) xs rfl
      have en1 := en.ext e1 t1
      refine ⟨fun i m H' => m = ds.length - i ∧ i ≤ ds.length ∧ ∃ acc vs rest, Ext H1 H' ∧ Tabs T H' ∧ H' D = some (.lst vs) ∧ RpAll X.K (mask H' (D :: O)) vs acc ∧ compRun (fun d => asgT tg d ρw) (fun ρ' => evC Γ t ρ') (fun ρ' => ev Γ e ρ') (ds.drop i) = .ok rest ∧ acc ++ rest = xs ∧ acc.length ≤ i, ?_, ?_⟩
      · exact ⟨ds.length, rfl, Nat.zero_le _, [], [], xs, Ext.new hD, Tabs.new t1 hD, upd_same, .nil, hr, rfl, Nat.le_refl _⟩
      · rintro i m H' ⟨rfl, hi, acc, vs, rest, e2, t2, hH, rv, hrun, hx, hal⟩
        have hit := itd i H' (D :: O) (mask_cons e2 hD) (fun b hb => ?_) t2
        · by_cases hlt : i < ds.length
          · obtain ⟨hgo, hy⟩ := hit.1 hlt
            refine .inr ⟨hgo, fun H2 => ∃ acc vs rest, Ext H1 H2 ∧ Tabs T H2 ∧ H2 D = some (.lst vs) ∧ RpAll X.K (mask H2 (D :: O)) vs acc ∧ compRun (fun d => asgT tg d ρw) (fun ρ' => evC Γ t ρ') (fun ρ' => ev Γ e ρ') (ds.drop (i + 1)) = .ok rest ∧ acc ++ rest = xs ∧ acc.length ≤ i + 1, fun H2 h => ⟨ds.length - (i + 1), by omega, rfl, hlt, h⟩, fun x H2 y => ?_⟩
            obtain ⟨e3, t3, d, hd, rd⟩ := hy x H2 y
            have hH2 := e3 D _ hH (fun _ z => by cases z)
            have enb : EnOk X.K T (D :: O) H2 (wipe σ (own.map (·.2))) ρw := by
              rw [← hw]
              exact en1.blk (e2.trans e3) hD hH2 t3
            have hdrop : ds.drop i = d :: ds.drop (i + 1) := by
              obtain ⟨h1, h2⟩ := List.getElem?_eq_some_iff.mp hd
              rw [← h2]
              exact List.drop_eq_getElem_cons h1
            rw [hdrop] at hrun
            obtain ⟨ρ', hρ', hcase⟩ := compRun_cons hrun
            refine ⟨D :: O, ρw, d, ρ', enb, rd, hρ', fun σ' en' sto => ⟨?_, ?_⟩⟩
            · have l1 := sto.len
              rw [wipe_length] at l1
              refine wipe_eq l1 fun j hj => ?_
              rw [sto.out j fun z => hj (hsl j z), wipe_out hj]
            · rcases hcase with ⟨hc, y', r', hy', hr', hxs⟩ | ⟨hc, hr'⟩
              · refine ⟨D :: O, ρ', en', ?_⟩
                rw [hc]
                refine ⟨true, rfl, fun H3 e4 t4 => ?_⟩
                refine L2.iteT ?_
                refine ⟨D :: O, ρ', en'.ext e4 t4, ?_⟩
                rw [hy']
                intro w H4 e5 t5 r5
                have eA := (e3.trans e4).trans e5
                have hH4 := eA D _ hH (fun _ z => by cases z)
                have hal' : vs.length < sizeLine := by
                  rw [rv.length]
                  exact lim_lt (by omega)
                have stay : Ext (mask H4 (D :: O)) (mask (upd H4 D (.lst (vs ++ [w]))) (D :: O)) := fun b o hb _ => by
                  obtain ⟨n1, n2⟩ := mask_in hb
                  rw [mask_of n1, upd_ne fun z => n1 (by simp [z])]
                  exact n2
                refine ⟨vs, hH4, hal', acc ++ [y'], vs ++ [w], r', ?_, ?_, upd_same, ?_, hr', ?_, by rw [List.length_append, List.length_singleton]; omega⟩
                · intro b o hb hn
                  rw [upd_ne (ne_of_none hb hD)]
                  exact (e2.trans eA) b o hb hn
                · exact Tabs.put t5 hH4
                · exact ((rv.ext (eA.mask _)).append (.cons r5 .nil)).ext stay
                · rw [List.append_assoc]
                  rw [← hx, hxs]
                  rfl
              · refine ⟨D :: O, ρ', en', ?_⟩
                rw [hc]
                refine ⟨false, rfl, fun H3 e4 t4 => ?_⟩
                refine L2.iteF ?_
                have eA := e3.trans e4
                exact ⟨acc, vs, rest, e2.trans eA, t4, eA D _ hH (fun _ z => by cases z), rv.ext (eA.mask _), hr', hx, by omega⟩
          · have hie : i = ds.length := by omega
            refine .inl ⟨hit.2 (by omega), ?_⟩
            rw [hie, List.drop_length] at hrun
            cases hrun
            rw [List.append_nil] at hx
            subst hx
            exact p H1 D vs H' e1 hD e2 t2 hH rv
        · rcases List.mem_cons.mp hb with z | z
          · rw [z]
            exact ⟨_, hH, fun _ z => by cases z⟩
          · exact en1.oin.ext e2 b z
  · exact p.elim
theorem comp_read {own : List (Str × Nat)} {tg : Mn.T} {it t e : E} {σ : L2.St} {H : Hp} {Q : VK} (hsl : ∀ i ∈ Tslots tg, i ∈ own.map (·.2)) (q : tE X.K T cl Ew (ev Γ (.comp own tg it t e)) σ H Q) :
    tLc (tI X.K T cl Ew (evI Γ it)) (tG X.K T tg) (tT X.K T cl E0 (evC Γ t)) (tE X.K T cl E0 (ev Γ e)) (own.map (·.2)) σ H Q := by
  obtain ⟨O, ρ, en, q⟩ := q
  refine comp_core hsl en (Rs.post_mono q (fun d k xs hd H1 D vs H' e1 hD e2 t2 hH rv => ?_) fun _ z => z)
  subst hd
  refine k _ H' (e1.trans e2) t2 (.lst (.inl ?_) (rv.ext (mask_mono fun a ha => List.mem_cons_of_mem _ ha)))
  rw [mask_of ((en.oin.ext e1).fresh hD)]
  exact hH
end
end Mn
/-! Mini, part 12: every term is good -/
namespace Mn
open PySem PySem.Spec PyProof.Rows L2 LamX
section
variable {c : Nm} {Γ : G} {T : List (Addr × Str)} {cl : Nat → Addr} {Ew : XK} {sc : Scope} {X : Cx}
theorem s_comp {own : List (Str × Nat)} {tg : Mn.T} {it t e : E} {x : Expr} (gi : Good c Γ T cl it) (gt : Good c Γ T cl t) (ge : Good c Γ T cl e) (C : Cok c Γ T cl Ew sc X) (h : chk c (.comp own tg it t e) sc x = true) :
    PE X x (tE X.K T cl Ew (ev Γ (.comp own tg it t e))) := by
  unfold chk at h
  cases x <;> try (cases h; done)
  rename_i elt gens scope pos
  split at h <;> try (cases h; done)
  rename_i hx
  cases hx
  simp only [Bool.and_eq_true, decide_eq_true_eq, List.all_eq_true] at h
  obtain ⟨⟨⟨⟨⟨⟨⟨h1, h2⟩, h3⟩, h4⟩, h5⟩, h6⟩, ho⟩, h7⟩ := h
  have ho' : ownS sc = true ∨ c.td = 0 := by simpa using ho
  subst h1
  obtain ⟨pi, hf⟩ := gi.i C h5
  have bo : BlkOk X.N X.env.scope scope own := by
    rw [C.N, C.sc]
    exact blkOk_by h2
  refine (pe_lc C.calm C.nd pi bo (fun s H A l fp => ?_) (fun s H A l fp => ?_) (fun s H A l fp => ?_) hf).imp fun σ H Q q => comp_read h4 q
  · have Cb := C.blk (scope := scope) ho' s H A l fp
    exact s_T (fn := blkFn scope) Cb.N Cb.nd Cb.sc Cb.calm (fun x hx => hx) tg _ h3
  · exact gt.ts (C.blk ho' s H A l fp) h6
  · exact ge.e (C.blk ho' s H A l fp) h7
/-- told(lambda: a) -/
theorem s_told {n : Nat} {a : E} {x : Expr} (ga : Good c Γ T cl a) (C : Cok c Γ T cl Ew sc X) (h : chk c (.told n a) sc x = true) : PE X x (tE X.K T cl Ew (ev Γ (.told n a))) := by
  unfold chk at h
  cases x <;> try (cases h; done)
  rename_i func args kws pos
  split at h <;> try (cases h; done)
  rename_i hx
  cases hx
  simp only [Bool.and_eq_true, decide_eq_true_eq] at h
  obtain ⟨⟨⟨⟨⟨⟨h1, h2⟩, h3⟩, h4⟩, h5⟩, h6⟩, h7⟩ := h
  subst h1 h4
  obtain ⟨f, CS, g, c0, P, k, D, Gt, TB, hcode, hmT, hu, hr, fs⟩ := C.td (by rw [C.sc]; exact h3) h2
  refine (pe_told (k := k) (t := fun E => tE X.K T cl E (ev Γ a)) D Gt (glB_of C.sc h5) TB hcode hmT hu hr (by rw [C.sc]; exact lamS_by h6) rfl (fun _ _ _ _ _ => rfl) (fun A outer s H E f1 c1 hr1 => ?_)).imp fun σ H Q ⟨O, ρ, en, q⟩ => ?_
  · refine ga.e (Ew := E) ⟨C.N, C.nd, rfl, rfl, by have := hr1.un; show (A.deeper _).units + 65 < _; omega, fun j x g e1 e2 => ?_, C.cs, C.bs, C.rng, C.enm, C.zip, C.rev, C.isi, C.tns, L2N.passes_call (L2N.takes_of rfl rfl rfl rfl) (fun _ _ _ _ z => z), fun z => ?_⟩ h7
    · obtain ⟨f2, fd2, ps2, k1, k2, k3, k4⟩ := fs j x g e1 e2
      exact ⟨k, f2, fd2, ps2, hr1, k1, k2, k3, k4⟩
    · have L := lamS_by h6
      unfold ownS at z
      obtain ⟨y, hy, hz⟩ := List.any_eq_true.mp z
      simp only [Bool.or_eq_true, decide_eq_true_eq] at hz
      exact (hz.elim (L.own y hy).1 (L.own y hy).2).elim
  · refine ⟨en.tabs, fun H1 e1 t1 => ⟨O, ρ, en.ext e1 t1, ?_⟩⟩
    simp only [ev] at q
    cases hv : ev Γ a ρ with
    | ok d =>
      rw [hv] at q
      exact Wv.from (show Wv X.K T O H Q d from q) e1
    | no =>
      rw [hv] at q
      exact (show False from q).elim
    | exn j =>
      rw [hv] at q
      unfold toldD at q
      simp only [] at q
      cases hw : (wordsAll.take c.td)[j]? with
      | none =>
        rw [hw] at q
        exact (show False from q).elim
      | some w =>
        rw [hw] at q
        have q1 : Wv X.K T O H Q (.str w) := q
        exact fun H2 e2 t2 => ⟨j, w, rfl, rfl, hw, fun H3 e3 => q1 (.str w) H3 (e1.trans (e2.trans (ExtN.of e3))) (t2.ext e3) (.str w)⟩
/-- and, or: the list behind the first -/
theorem and_list {a b : E} (ga : Good c Γ T cl a) (gb : Good c Γ T cl b) (C : Cok c Γ T cl Ew sc X) {l : List Expr} {pos : Pos} (h : chkB c (.and a b) sc .And l = true) :
    PE X (.BoolOp .And l pos) (tE X.K T cl Ew (ev Γ (.and a b))) ∧ (tst (.and a b) = true → PW X (.BoolOp .And l pos) (tT X.K T cl Ew (ev Γ (.and a b)))) := by
  match l, h with
  | [], h => simp [chkB] at h
  | [_], h => simp [chkB] at h
  | [y, z], h =>
    simp only [chkB, Bool.and_eq_true] at h
    refine ⟨(pe_and (ga.e C h.1) (pe_one (gb.e C h.2))).imp fun σ H Q q => and_readV q, fun ht => ?_⟩
    simp only [tst, Bool.and_eq_true] at ht
    exact (pw_and (ga.t C h.1 ht.1) (pw_and1 (gb.t C h.2 ht.2))).imp fun σ H Q q => and_readT q
  | y :: z :: z' :: r, h =>
    simp only [chkB, Bool.and_eq_true] at h
    refine ⟨(pe_and (ga.e C h.1) (gb.bv C h.2)).imp fun σ H Q q => and_readV q, fun ht => ?_⟩
    simp only [tst, Bool.and_eq_true] at ht
    exact (pw_and (ga.t C h.1 ht.1) (gb.bt C h.2 ht.2)).imp fun σ H Q q => and_readT q
theorem or_list {a b : E} (ga : Good c Γ T cl a) (gb : Good c Γ T cl b) (C : Cok c Γ T cl Ew sc X) {l : List Expr} {pos : Pos} (h : chkB c (.or a b) sc .Or l = true) :
    PE X (.BoolOp .Or l pos) (tE X.K T cl Ew (ev Γ (.or a b))) ∧ (tst (.or a b) = true → PW X (.BoolOp .Or l pos) (tT X.K T cl Ew (ev Γ (.or a b)))) := by
  match l, h with
  | [], h => simp [chkB] at h
  | [_], h => simp [chkB] at h
  | [y, z], h =>
    simp only [chkB, Bool.and_eq_true] at h
    refine ⟨(pe_or (ga.e C h.1) (pe_one (gb.e C h.2))).imp fun σ H Q q => or_readV q, fun ht => ?_⟩
    simp only [tst, Bool.and_eq_true] at ht
    exact (pw_or (ga.t C h.1 ht.1) (pw_or1 (gb.t C h.2 ht.2))).imp fun σ H Q q => or_readT q
  | y :: z :: z' :: r, h =>
    simp only [chkB, Bool.and_eq_true] at h
    refine ⟨(pe_or (ga.e C h.1) (gb.bv C h.2)).imp fun σ H Q q => or_readV q, fun ht => ?_⟩
    simp only [tst, Bool.and_eq_true] at ht
    exact (pw_or (ga.t C h.1 ht.1) (gb.bt C h.2 ht.2)).imp fun σ H Q q => or_readT q
theorem chk_and {a b : E} {x : Expr} (h : chk c (.and a b) sc x = true) : ∃ l pos, x = .BoolOp .And l pos ∧ chkB c (.and a b) sc .And l = true := by
  unfold chk at h
  cases x <;> try (cases h; done)
  rename_i op l pos
  cases op <;> try (cases h; done)
  exact ⟨l, pos, rfl, by unfold chkB; exact h⟩
theorem chk_or {a b : E} {x : Expr} (h : chk c (.or a b) sc x = true) : ∃ l pos, x = .BoolOp .Or l pos ∧ chkB c (.or a b) sc .Or l = true := by
  unfold chk at h
  cases x <;> try (cases h; done)
  rename_i op l pos
  cases op <;> try (cases h; done)
  exact ⟨l, pos, rfl, by unfold chkB; exact h⟩
/-- a plain term: its test is its value's truth -/
theorem good_plain {m : E} (he : ∀ {Ew : XK} {sc : Scope} {X : Cx} {x : Expr}, Cok c Γ T cl Ew sc X → chk c m sc x = true → PE X x (tE X.K T cl Ew (ev Γ m)))
    (ht : ∀ {sc : Scope} {x : Expr} (env : Env), chk c m sc x = true → tst m = true → ∀ whole, isTrue x env whole = (do let v ← whole; standAt x.pos; holding [v] (truthy v)))
    (h1 : ∀ {sc l}, chks c m sc l = true → False) (h2 : ∀ {sc l}, chkC c m sc l = true → False) (h3 : ∀ {sc l}, chkO c m sc l = true → False) (h4 : ∀ {sc tg x}, chkI c m sc tg x = true → False) (h5 : ∀ {sc op l}, chkB c m sc op l = true → False) : Good c Γ T cl m :=
  ⟨fun C h => he C h, fun C h t => pt_of (he C h) (ht _ h t), fun _ h => (h1 h).elim, fun _ h => (h2 h).elim, fun _ h => (h3 h).elim, fun _ h => (h4 h).elim, fun _ h => (h5 h).elim, fun _ h _ => (h5 h).elim⟩
theorem good_test {m : E} (he : ∀ {Ew : XK} {sc : Scope} {X : Cx} {x : Expr}, Cok c Γ T cl Ew sc X → chk c m sc x = true → PE X x (tE X.K T cl Ew (ev Γ m)) ∧ PT X x (tT X.K T cl Ew (ev Γ m)))
    (h1 : ∀ {sc l}, chks c m sc l = true → False) (h2 : ∀ {sc l}, chkC c m sc l = true → False) (h3 : ∀ {sc l}, chkO c m sc l = true → False) (h4 : ∀ {sc tg x}, chkI c m sc tg x = true → False) (h5 : ∀ {sc op l}, chkB c m sc op l = true → False) : Good c Γ T cl m :=
  ⟨fun C h => (he C h).1, fun C h _ => (he C h).2, fun _ h => (h1 h).elim, fun _ h => (h2 h).elim, fun _ h => (h3 h).elim, fun _ h => (h4 h).elim, fun _ h => (h5 h).elim, fun _ h _ => (h5 h).elim⟩
theorem good_list {m : E} (h0 : ∀ {sc x}, chk c m sc x = true → False) (has : ∀ {Ew : XK} {sc : Scope} {X : Cx} {l : List Expr}, Cok c Γ T cl Ew sc X → chks c m sc l = true → PA X l (tAs X.K T cl Ew (evs Γ m)))
    (hts : ∀ {Ew : XK} {sc : Scope} {X : Cx} {l : List Expr}, Cok c Γ T cl Ew sc X → chkC c m sc l = true → PTs X l (tT X.K T cl Ew (evC Γ m)))
    (ho : ∀ {Ew : XK} {sc : Scope} {X : Cx} {l : Option Expr}, Cok c Γ T cl Ew sc X → chkO c m sc l = true → PO X l (tOp' X.K T cl Ew (evO Γ m))) (h4 : ∀ {sc tg x}, chkI c m sc tg x = true → False) (h5 : ∀ {sc op l}, chkB c m sc op l = true → False) : Good c Γ T cl m :=
  ⟨fun _ h => (h0 h).elim, fun _ h => (h0 h).elim, has, hts, ho, fun _ h => (h4 h).elim, fun _ h => (h5 h).elim, fun _ h _ => (h5 h).elim⟩
theorem good_walk {m : E} (h0 : ∀ {sc x}, chk c m sc x = true → False) (hi : ∀ {Ew : XK} {sc : Scope} {X : Cx} {tg x : Expr}, Cok c Γ T cl Ew sc X → chkI c m sc tg x = true → PI X tg x (tI X.K T cl Ew (evI Γ m)) ∧ ∀ v, foldedSetIterable x X.env v = pure v)
    (h1 : ∀ {sc l}, chks c m sc l = true → False) (h2 : ∀ {sc l}, chkC c m sc l = true → False) (h3 : ∀ {sc l}, chkO c m sc l = true → False) (h5 : ∀ {sc op l}, chkB c m sc op l = true → False) : Good c Γ T cl m :=
  ⟨fun _ h => (h0 h).elim, fun _ h => (h0 h).elim, fun _ h => (h1 h).elim, fun _ h => (h2 h).elim, fun _ h => (h3 h).elim, hi, fun _ h => (h5 h).elim, fun _ h _ => (h5 h).elim⟩
end
theorem good (c : Nm) (Γ : G) (T : List (Addr × Str)) (cl : Nat → Addr) : ∀ m : E, Good c Γ T cl m := by
  intro m
  induction m with
  | var i => refine good_plain (fun C h => s_var C h) ?_ ?_ ?_ ?_ ?_ ?_ <;> first | (intros; rename_i h; simp [chks, chkC, chkO, chkI, chkB] at h; done) | (intro sc x env h _ wh; unfold chk at h; cases x <;> first | rfl | (cases h; done))
  | int n => refine good_plain (fun C h => s_int h) ?_ ?_ ?_ ?_ ?_ ?_ <;> first | (intros; rename_i h; simp [chks, chkC, chkO, chkI, chkB] at h; done) | (intro sc x env h _ wh; unfold chk at h; cases x <;> first | rfl | (cases h; done))
  | str n => refine good_plain (fun C h => s_str h) ?_ ?_ ?_ ?_ ?_ ?_ <;> first | (intros; rename_i h; simp [chks, chkC, chkO, chkI, chkB] at h; done) | (intro sc x env h _ wh; unfold chk at h; cases x <;> first | rfl | (cases h; done))
  | bl n => refine good_plain (fun C h => s_bl h) ?_ ?_ ?_ ?_ ?_ ?_ <;> first | (intros; rename_i h; simp [chks, chkC, chkO, chkI, chkB] at h; done) | (intro sc x env h _ wh; unfold chk at h; cases x <;> first | rfl | (cases h; done))
  | non => refine good_plain (fun C h => s_non h) ?_ ?_ ?_ ?_ ?_ ?_ <;> first | (intros; rename_i h; simp [chks, chkC, chkO, chkI, chkB] at h; done) | (intro sc x env h _ wh; unfold chk at h; cases x <;> first | rfl | (cases h; done))
  | glob n => refine good_plain (fun C h => s_glob C h) ?_ ?_ ?_ ?_ ?_ ?_ <;> first | (intros; rename_i h; simp [chks, chkC, chkO, chkI, chkB] at h; done) | (intro sc x env h _ wh; unfold chk at h; cases x <;> first | rfl | (cases h; done))
  | nil => refine good_list ?_ (fun C h => s_nilA h) (fun C h => s_nilC h) (fun C h => s_nilO h) ?_ ?_ <;> (intros; rename_i h; simp [chk, chkI, chkB] at h)
  | cons e es ge gs => refine good_list ?_ (fun C h => s_consA ge gs C h) (fun C h => s_consC ge C h) (fun C h => s_consO ge C h) ?_ ?_ <;> (intros; rename_i h; simp [chk, chkI, chkB] at h)
  | tup es g => refine good_plain (fun C h => s_tup g C h) ?_ ?_ ?_ ?_ ?_ ?_ <;> first | (intros; rename_i h; simp [chks, chkC, chkO, chkI, chkB] at h; done) | (intro sc x env h _ wh; unfold chk at h; cases x <;> first | rfl | (cases h; done))
  | lst es g => refine good_plain (fun C h => s_lst g C h) ?_ ?_ ?_ ?_ ?_ ?_ <;> first | (intros; rename_i h; simp [chks, chkC, chkO, chkI, chkB] at h; done) | (intro sc x env h _ wh; unfold chk at h; cases x <;> first | rfl | (cases h; done))
  | bin op a b ga gb => refine good_plain (fun C h => s_bin ga gb C h) ?_ ?_ ?_ ?_ ?_ ?_ <;> first | (intros; rename_i h; simp [chks, chkC, chkO, chkI, chkB] at h; done) | (intro sc x env h _ wh; unfold chk at h; cases x <;> first | rfl | (cases h; done))
  | neg a ga => refine good_plain (fun C h => s_neg ga C h) ?_ ?_ ?_ ?_ ?_ ?_ <;> first | (intros; rename_i h; simp [chks, chkC, chkO, chkI, chkB] at h; done) | (intro sc x env h ht wh; simp [tst] at ht)
  | cmp op a b ga gb => refine good_test (fun C h => s_cmp ga gb C h) ?_ ?_ ?_ ?_ ?_ <;> (intros; rename_i h; simp [chks, chkC, chkO, chkI, chkB] at h)
  | chain o1 o2 a b d ga gb gd => refine good_test (fun C h => s_chain ga gb gd C h) ?_ ?_ ?_ ?_ ?_ <;> (intros; rename_i h; simp [chks, chkC, chkO, chkI, chkB] at h)
  | isN a ga => refine good_test (fun C h => s_isN ga C h) ?_ ?_ ?_ ?_ ?_ <;> (intros; rename_i h; simp [chks, chkC, chkO, chkI, chkB] at h)
  | notN a ga => refine good_test (fun C h => s_notN ga C h) ?_ ?_ ?_ ?_ ?_ <;> (intros; rename_i h; simp [chks, chkC, chkO, chkI, chkB] at h)
  | and a b ga gb =>
    refine ⟨fun C h => ?_, fun C h ht => ?_, fun C h => ?_, fun C h => ?_, fun C h => ?_, fun C h => ?_, fun {Ew sc X op l pos} C h => ?_, fun {Ew sc X op l pos} C h ht => ?_⟩
    · obtain ⟨l, pos, rfl, h'⟩ := chk_and h
      exact (and_list ga gb C h').1
    · obtain ⟨l, pos, rfl, h'⟩ := chk_and h
      exact ((and_list ga gb C h').2 ht).pt
    · simp [chks] at h
    · simp [chkC] at h
    · simp [chkO] at h
    · simp [chkI] at h
    · cases op with
      | And => exact (and_list ga gb C h).1
      | Or => simp [chkB] at h
    · cases op with
      | And => exact (and_list ga gb C h).2 ht
      | Or => simp [chkB] at h
  | or a b ga gb =>
    refine ⟨fun C h => ?_, fun C h ht => ?_, fun C h => ?_, fun C h => ?_, fun C h => ?_, fun C h => ?_, fun {Ew sc X op l pos} C h => ?_, fun {Ew sc X op l pos} C h ht => ?_⟩
    · obtain ⟨l, pos, rfl, h'⟩ := chk_or h
      exact (or_list ga gb C h').1
    · obtain ⟨l, pos, rfl, h'⟩ := chk_or h
      exact ((or_list ga gb C h').2 ht).pt
    · simp [chks] at h
    · simp [chkC] at h
    · simp [chkO] at h
    · simp [chkI] at h
    · cases op with
      | Or => exact (or_list ga gb C h).1
      | And => simp [chkB] at h
    · cases op with
      | Or => exact (or_list ga gb C h).2 ht
      | And => simp [chkB] at h
  | not a ga =>
    refine ⟨fun {Ew sc X x} C h => ?_, fun {Ew sc X x} C h ht => ?_, fun C h => ?_, fun C h => ?_, fun C h => ?_, fun C h => ?_, fun C h => ?_, fun C h _ => ?_⟩
    · unfold chk at h
      cases x <;> try (cases h; done)
      rename_i op l p
      cases op <;> try (cases h; done)
      exact (pe_not (ga.e C h)).imp fun σ H Q q => not_readV q
    · unfold chk at h
      cases x <;> try (cases h; done)
      rename_i op l p
      cases op <;> try (cases h; done)
      exact (pt_not (ga.t C h ht)).imp fun σ H Q q => not_readT q
    · simp [chks] at h
    · simp [chkC] at h
    · simp [chkO] at h
    · simp [chkI] at h
    · simp [chkB] at h
    · simp [chkB] at h
  | ite t a b gt ga gb => refine good_plain (fun C h => s_ite gt ga gb C h) ?_ ?_ ?_ ?_ ?_ ?_ <;> first | (intros; rename_i h; simp [chks, chkC, chkO, chkI, chkB] at h; done) | (intro sc x env h ht wh; simp [tst] at ht)
  | ix a i ga gi => refine good_plain (fun C h => s_ix ga gi C h) ?_ ?_ ?_ ?_ ?_ ?_ <;> first | (intros; rename_i h; simp [chks, chkC, chkO, chkI, chkB] at h; done) | (intro sc x env h _ wh; unfold chk at h; cases x <;> first | rfl | (cases h; done))
  | sl a lo hi ga gl gh => refine good_plain (fun C h => s_sl ga gl gh C h) ?_ ?_ ?_ ?_ ?_ ?_ <;> first | (intros; rename_i h; simp [chks, chkC, chkO, chkI, chkB] at h; done) | (intro sc x env h _ wh; unfold chk at h; cases x <;> first | rfl | (cases h; done))
  | rev a ga => refine good_plain (fun C h => s_rev ga C h) ?_ ?_ ?_ ?_ ?_ ?_ <;> first | (intros; rename_i h; simp [chks, chkC, chkO, chkI, chkB] at h; done) | (intro sc x env h _ wh; unfold chk at h; cases x <;> first | rfl | (cases h; done))
  | call f es g => refine good_plain (fun C h => s_call g C h) ?_ ?_ ?_ ?_ ?_ ?_ <;> first | (intros; rename_i h; simp [chks, chkC, chkO, chkI, chkB] at h; done) | (intro sc x env h _ wh; unfold chk at h; cases x <;> first | rfl | (cases h; done))
  | bi b es g => refine good_plain (fun C h => s_bi g C h) ?_ ?_ ?_ ?_ ?_ ?_ <;> first | (intros; rename_i h; simp [chks, chkC, chkO, chkI, chkB] at h; done) | (intro sc x env h _ wh; unfold chk at h; cases x <;> first | rfl | (cases h; done))
  | idx a b ga gb => refine good_plain (fun C h => s_idx ga gb C h) ?_ ?_ ?_ ?_ ?_ ?_ <;> first | (intros; rename_i h; simp [chks, chkC, chkO, chkI, chkB] at h; done) | (intro sc x env h _ wh; unfold chk at h; cases x <;> first | rfl | (cases h; done))
  | told n a ga => refine good_plain (fun C h => s_told ga C h) ?_ ?_ ?_ ?_ ?_ ?_ <;> first | (intros; rename_i h; simp [chks, chkC, chkO, chkI, chkB] at h; done) | (intro sc x env h _ wh; unfold chk at h; cases x <;> first | rfl | (cases h; done))
  | lzip a b ga gb => refine good_plain (fun C h => s_lzip ga gb C h) ?_ ?_ ?_ ?_ ?_ ?_ <;> first | (intros; rename_i h; simp [chks, chkC, chkO, chkI, chkB] at h; done) | (intro sc x env h _ wh; unfold chk at h; cases x <;> first | rfl | (cases h; done))
  | isi a t ga => refine good_plain (fun C h => s_isi ga C h) ?_ ?_ ?_ ?_ ?_ ?_ <;> first | (intros; rename_i h; simp [chks, chkC, chkO, chkI, chkB] at h; done) | (intro sc x env h _ wh; unfold chk at h; cases x <;> first | rfl | (cases h; done))
  | comp own tg it t e gi gt ge => refine good_plain (fun C h => s_comp gi gt ge C h) ?_ ?_ ?_ ?_ ?_ ?_ <;> first | (intros; rename_i h; simp [chks, chkC, chkO, chkI, chkB] at h; done) | (intro sc x env h _ wh; unfold chk at h; cases x <;> first | rfl | (cases h; done))
  | iseq a ga => refine good_walk ?_ (fun C h => s_iseq ga C h) ?_ ?_ ?_ ?_ <;> (intros; rename_i h; simp [chk, chks, chkC, chkO, chkB] at h)
  | irange a ga => refine good_walk ?_ (fun C h => s_irange ga C h) ?_ ?_ ?_ ?_ <;> (intros; rename_i h; simp [chk, chks, chkC, chkO, chkB] at h)
  | ienum a ga => refine good_walk ?_ (fun C h => s_ienum ga C h) ?_ ?_ ?_ ?_ <;> (intros; rename_i h; simp [chk, chks, chkC, chkO, chkB] at h)
  | izip a b ga gb => refine good_walk ?_ (fun C h => s_izip ga gb C h) ?_ ?_ ?_ ?_ <;> (intros; rename_i h; simp [chk, chks, chkC, chkO, chkB] at h)
  | irev a ga => refine good_walk ?_ (fun C h => s_irev ga C h) ?_ ?_ ?_ ?_ <;> (intros; rename_i h; simp [chk, chks, chkC, chkO, chkB] at h)
  | olen i => refine good_plain (fun C h => s_olen C h) ?_ ?_ ?_ ?_ ?_ ?_ <;> first | (intros; rename_i h; simp [chks, chkC, chkO, chkI, chkB] at h; done) | (intro sc x env h _ wh; unfold chk at h; cases x <;> first | rfl | (cases h; done))
  | oix i e ge => refine good_plain (fun C h => s_oix ge C h) ?_ ?_ ?_ ?_ ?_ ?_ <;> first | (intros; rename_i h; simp [chks, chkC, chkO, chkI, chkB] at h; done) | (intro sc x env h _ wh; unfold chk at h; cases x <;> first | rfl | (cases h; done))
  | oemp i n => refine good_test (fun C h => s_oemp C h) ?_ ?_ ?_ ?_ ?_ <;> (intros; rename_i h; simp [chks, chkC, chkO, chkI, chkB] at h)
end Mn
/-! Mini, part 13: statements, their readings -/
namespace Mn
open PySem PySem.Spec PyProof.Rows L2 LamX

/-- nothing but a table stands there -/
def Nw (H : Hp) (p : Addr) : Prop := ∀ o, H p = some o → ∃ ps, o = .tbl ps
theorem Nw.of {H H1 : Hp} {p : Addr} (e : Ext H H1) (h : H1 p = none) : Nw H p := fun o ho => by
  by_cases ht : ∃ ps, o = .tbl ps
  · exact ht
  · have := e p o ho fun ps z => ht ⟨ps, z⟩
    rw [h] at this
    cases this
theorem Nw.ne {H : Hp} {p b : Addr} {o : HO} (h : Nw H p) (hb : H b = some o) (hn : ∀ ps, o ≠ .tbl ps) : b ≠ p := fun z => by
  subst z
  obtain ⟨ps, e⟩ := h o hb
  exact hn ps e
/-- what others own is owned, and was there at the entry -/
def Osub (H0 : Hp) (O0 O : List Addr) : Prop := ∀ p ∈ O0, p ∈ O ∧ ¬ Nw H0 p
/-- where a def stands: entered at H0 with O0 owned by others; what is frozen at Hr stays so -/
def SR (K : PySem.W.Frag) (T : List (Addr × Str)) (H0 : Hp) (O0 : List Addr) (Hr H : Hp) (σ : L2.St) (ρ : En) : Prop :=
  ∃ O, EnOk K T O H σ ρ ∧ Ext H0 H ∧ Osub H0 O0 O ∧ (∀ (i : Nat) (xs : List D) (p : Addr), ρ[i]? = some (.own xs) → σ[i]? = some (some (.ref p)) → Nw H0 p) ∧ Ext Hr (mask H O)
def Fl.post (r : Fl) (nx : En → Prop) (rt : D → Prop) (bk ct : En → Prop) (x : Nat → Prop) : Prop := match r with
  | .next ρ => nx ρ
  | .ret d => rt d
  | .brk ρ => bk ρ
  | .cont ρ => ct ρ
  | .exn c => x c
  | .no => False
theorem Rs.fl_post {α : Type} {r : Rs α} {f : α → Fl} {nx : En → Prop} {rt : D → Prop} {bk ct : En → Prop} {x : Nat → Prop} : (r.fl f).post nx rt bk ct x ↔ r.post (fun a => (f a).post nx rt bk ct x) x := by
  cases r <;> exact Iff.rfl
theorem Fl.seq_post {r : Fl} {f : En → Fl} {nx : En → Prop} {rt : D → Prop} {bk ct : En → Prop} {x : Nat → Prop} : (r.seq f).post nx rt bk ct x ↔ r.post (fun ρ => (f ρ).post nx rt bk ct x) rt bk ct x := by
  cases r <;> exact Iff.rfl
section
variable (K : PySem.W.Frag) (T : List (Addr × Str)) (cl : Nat → Addr) (Ew : XK)
/-- what is wanted behind a statement -/
def FP (H0 : Hp) (O0 : List Addr) (Hr : Hp) (D : Ends) (r : Fl) : Prop :=
  r.post (fun ρ => ∀ σ' H', SR K T H0 O0 Hr H' σ' ρ → D.nx σ' H') (fun d => ∀ v H', Ext H0 H' → Tabs T H' → Rp K (mask H' O0) v d → D.rt v H') (fun ρ => ∀ σ' H', SR K T H0 O0 Hr H' σ' ρ → D.bk σ' H') (fun ρ => ∀ σ' H', SR K T H0 O0 Hr H' σ' ρ → D.ct σ' H') (Wx T cl Ew H0)
def tS (f : En → Fl) : TS := fun D σ H => ∃ H0 O0 Hr ρ, SR K T H0 O0 Hr H σ ρ ∧ FP K T cl Ew H0 O0 Hr D (f ρ)
end
section
variable {K : PySem.W.Frag} {T : List (Addr × Str)} {cl : Nat → Addr} {Ew : XK} {H0 Hr H : Hp} {O0 O : List Addr} {σ : L2.St} {ρ : En} {D : Ends}
theorem SR.ext {H1 : Hp} (s : SR K T H0 O0 Hr H σ ρ) (e : Ext H H1) (t : Tabs T H1) : SR K T H0 O0 Hr H1 σ ρ := by
  obtain ⟨O, en, e0, o0, ow, er⟩ := s
  exact ⟨O, en.ext e t, e0.trans e, o0, ow, er.trans (e.mask O)⟩
theorem SR.hr {Hr' : Hp} (s : SR K T H0 O0 Hr' H σ ρ) (e : Ext Hr Hr') : SR K T H0 O0 Hr H σ ρ := by
  obtain ⟨O, en, e0, o0, ow, er⟩ := s
  exact ⟨O, en, e0, o0, ow, e.trans er⟩
/-- an expression in a statement -/
theorem sr_run {f : En → Rs Mn.D} {g : Mn.D → Fl} {Q : VK} (s : SR K T H0 O0 Hr H σ ρ) (h : FP K T cl Ew H0 O0 Hr D ((f ρ).fl g))
    (k : ∀ d v H1 O, FP K T cl Ew H0 O0 Hr D (g d) → EnOk K T O H1 σ ρ → Ext H0 H1 → Osub H0 O0 O → (∀ (i : Nat) (xs : List Mn.D) (p : Addr), ρ[i]? = some (.own xs) → σ[i]? = some (some (.ref p)) → Nw H0 p) → Ext Hr (mask H1 O) → Rp K (mask H1 O) v d → Q v H1) : tE K T cl Ew f σ H Q := by
  obtain ⟨O, en, e0, o0, ow, er⟩ := s
  unfold FP at h
  rw [Rs.fl_post] at h
  exact ⟨O, ρ, en, Rs.post_mono h (fun d p v H1 e1 t1 r => k d v H1 O p (en.ext e1 t1) (e0.trans e1) o0 ow (er.trans (e1.mask O)) r) fun c z => Wx.from z e0⟩
theorem sr_test {f : En → Rs Mn.D} {g : Mn.D → Fl} {Q : Bool → Hp → Prop} (s : SR K T H0 O0 Hr H σ ρ) (h : FP K T cl Ew H0 O0 Hr D ((f ρ).fl g)) (hg : ∀ d, (∀ b, d ≠ .bool b) → g d = .no)
    (k : ∀ b H1, FP K T cl Ew H0 O0 Hr D (g (.bool b)) → SR K T H0 O0 Hr H1 σ ρ → Q b H1) : tT K T cl Ew f σ H Q := by
  have s' := s
  obtain ⟨O, en, e0, o0, ow, er⟩ := s
  unfold FP at h
  rw [Rs.fl_post] at h
  refine tT_run (P := fun d => FP K T cl Ew H0 O0 Hr D (g d)) en (Rs.post_mono h (fun d p => p) fun c z => Wx.from z e0) (fun d H1 p _ _ _ => ?_) fun b H1 p e1 t1 _ => k b H1 p (s'.ext e1 t1)
  cases d with
  | bool b => exact ⟨b, rfl⟩
  | _ =>
    rw [hg _ fun b z => by cases z] at p
    exact p.elim
theorem SR.sto {σ' : L2.St} {ρ' : En} {vs : List Nat} (en' : EnOk K T O H σ' ρ') (st : Sto vs σ σ' ρ ρ') (e0 : Ext H0 H) (o0 : Osub H0 O0 O) (ow : ∀ (i : Nat) (xs : List Mn.D) (p : Addr), ρ[i]? = some (.own xs) → σ[i]? = some (some (.ref p)) → Nw H0 p) (er : Ext Hr (mask H O)) :
    SR K T H0 O0 Hr H σ' ρ' := ⟨O, en', e0, o0, fun i xs p h1 h2 => let ⟨h3, h4⟩ := st.own i xs h1; ow i xs p h3 (by rw [← h4]; exact h2), er⟩
theorem SR.ret {d : Mn.D} {v : V} {H1 : Hp} (o0 : Osub H0 O0 O) (r : Rp K (mask H1 O) v d) : Rp K (mask H1 O0) v d := r.ext (mask_mono fun a ha => (o0 a ha).1)
/-- an owned list is written -/
theorem SR.put {i : Nat} {p : Addr} {vs ws : List V} {xs ys : List Mn.D} (en : EnOk K T O H σ ρ) (e0 : Ext H0 H) (o0 : Osub H0 O0 O) (ow : ∀ (i : Nat) (xs : List Mn.D) (p : Addr), ρ[i]? = some (.own xs) → σ[i]? = some (some (.ref p)) → Nw H0 p) (er : Ext Hr (mask H O))
    (hi : ρ[i]? = some (.own xs)) (hs : σ[i]? = some (some (.ref p))) (hO : p ∈ O) (hp : H p = some (.lst vs)) (r : RpAll K (mask H O) ws ys) : SR K T H0 O0 Hr (upd H p (.lst ws)) σ (ρ.set i (.own ys)) ∧ EnOk K T O (upd H p (.lst ws)) σ (ρ.set i (.own ys)) := by
  have hil : i < ρ.length := (List.getElem?_eq_some_iff.mp hi).1
  have mk : Ext (mask H O) (mask (upd H p (.lst ws)) O) := fun b o hb _ => by
    obtain ⟨n1, n2⟩ := mask_in hb
    rw [mask_of n1, upd_ne fun z => n1 (by rw [z]; exact hO)]
    exact n2
  have own : ∀ (j : Nat) (zs : List Mn.D), (ρ.set i (.own ys))[j]? = some (.own zs) → ∃ zs', ρ[j]? = some (.own zs') := fun j zs h => by
    by_cases e : i = j
    · subst e; exact ⟨xs, hi⟩
    · rw [List.getElem?_set_ne e] at h; exact ⟨zs, h⟩
  have hp0 := ow i xs p hi hs
  have en' : EnOk K T O (upd H p (.lst ws)) σ (ρ.set i (.own ys)) := by
    refine ⟨by rw [List.length_set]; exact en.len, fun j s h => ?_, fun j k z1 z2 hjk h1 h2 => ?_, fun b hb => ?_, Tabs.put en.tabs hp⟩
    · by_cases e : i = j
      · subst e
        rw [List.getElem?_set_self hil] at h
        cases h
        exact ⟨_, hs, p, ws, rfl, hO, upd_same, r.ext mk⟩
      · rw [List.getElem?_set_ne e] at h
        obtain ⟨o, h1, h2⟩ := en.at_ j s h
        refine ⟨o, h1, ?_⟩
        cases s with
        | un => exact True.intro
        | dt d =>
          obtain ⟨v, e1, r1⟩ := h2
          exact ⟨v, e1, r1.ext mk⟩
        | own zs =>
          obtain ⟨q, us, e1, e2, e3, e4⟩ := h2
          subst e1
          have ne : q ≠ p := fun z => en.dis i j xs zs e hi h (by rw [hs, h1, z])
          exact ⟨q, us, rfl, e2, by rw [upd_ne ne]; exact e3, e4.ext mk⟩
    · obtain ⟨y1, o1⟩ := own j z1 h1
      obtain ⟨y2, o2⟩ := own k z2 h2
      exact en.dis j k y1 y2 hjk o1 o2
    · obtain ⟨o, h1, h2⟩ := en.oin b hb
      by_cases e : b = p
      · rw [e]
        exact ⟨_, upd_same, fun _ z => by cases z⟩
      · exact ⟨o, by rw [upd_ne e]; exact h1, h2⟩
  refine ⟨⟨O, en', fun b o hb hn => ?_, o0, fun j zs q h1 h2 => ?_, er.trans mk⟩, en'⟩
  · rw [upd_ne (hp0.ne hb hn)]
    exact e0 b o hb hn
  · obtain ⟨y1, o1⟩ := own j zs h1
    exact ow j y1 q o1 h2
end
/-- a statement's place -/
structure Sok (c : Nm) (Γ : G) (T : List (Addr × Str)) (cl : Nat → Addr) (Ew : XK) (sc : Scope) (X : Cx) : Prop where
  cok : Cok c Γ T cl Ew sc X
  fn : ∀ x, X.fn x = true
  own : PassesOwn (model X.prog X.w) X.A X.env X.xe
  tk : L2N.Takes X (fun cls d _ H => Ew cls d H)
  exs : ∀ (k : Nat) (x : Str), c.xs[k]? = some x → Gl X x → ∀ (m : Str) (j : Nat) (p p2 pos : Pos), L2N.PMk X (.Call (.Name x p) [.Constant (.str m) j p2] [] pos) (fun _ H Q => Q (.ref (cl k)) none H)

/-! ### the text -/
def comps : Expr → Bool
  | .ListComp _ _ _ _ => true
  | .SetComp _ _ _ _ => true
  | .DictComp _ _ _ _ _ => true
  | _ => false
theorem swaps_no {e : Expr} (h : comps e = false) (t : Option Expr) (l : Nat) (env : Env) : swapsWith e t l env = pure false := by
  cases e <;> first | rfl | (cases h; done)
def isName : Expr → Bool
  | .Name _ _ => true
  | _ => false
def isTup : Expr → Bool
  | .Tuple _ _ _ => true
  | _ => false
theorem swaps_tup {tg e : Expr} (h : isTup tg = true) (hd : ∀ a b s p, e ≠ .SetComp a b s p) (l : Nat) (env : Env) : swapsWith e (some tg) l env = pure false := by
  cases tg <;> try (cases h; done)
  cases e <;> rfl
theorem swapped_no {tg e : Expr} (h : (isTup tg && isTup e) = false) (hl : ∀ a p, tg ≠ .List a p) (env : Env) : swappedStores [tg] e env = pure none := by
  cases tg <;> first
    | rfl
    | (exact absurd rfl (hl _ _))
    | (cases e <;> first | rfl | (cases h; done))
end Mn
/-! Mini, part 14: statements held against their text -/
namespace Mn
open PySem PySem.Spec PyProof.Rows L2 LamX
theorem swaps_lc (elt : Expr) (gs : List Comprehension) (scope : Scope) (pos py : Pos) (y : Str) (l : Nat) (env : Env) : swapsWith (.ListComp elt gs scope pos) (some (.Name y py)) l env =
    pure (env.blockKind == .function && env.kindOf y == some .local && py.line == pos.line && !(scope.names.any fun (n, k) => n == y && (k == .local || k == .cell))) := rfl
def lcSwap (sc : Scope) (y : Str) (py : Pos) : Expr → Bool
  | .ListComp _ _ scope pv => decide (sc.names.lookup y = some .local) && (py.line == pv.line) && !(scope.names.any fun (n, k) => n == y && (k == .local || k == .cell))
  | _ => false
theorem lcSwap_no {sc : Scope} {y : Str} {py : Pos} {v : Expr} (h : lcSwap sc y py v = false) (hd : ∀ a b s p, v ≠ .SetComp a b s p) (hd2 : ∀ k a b s p, v ≠ .DictComp k a b s p) (l : Nat) (env : Env) (hs : env.scope = sc) : swapsWith v (some (.Name y py)) l env = pure false := by
  cases v <;> first
    | rfl
    | exact absurd rfl (hd _ _ _ _)
    | exact absurd rfl (hd2 _ _ _ _ _)
    | skip
  rename_i elt gs scope pv
  rw [swaps_lc]
  unfold lcSwap at h
  dsimp only at h
  have e : env.kindOf y = sc.names.lookup y := by unfold Env.kindOf; rw [hs]
  rw [e]
  by_cases h1 : sc.names.lookup y = some .local
  · rw [decide_eq_true h1, Bool.true_and] at h
    rw [h1]
    show pure (env.blockKind == .function && true && (py.line == pv.line) && _) = _
    rw [Bool.and_true, Bool.and_assoc, h, Bool.and_false]
  · have : (sc.names.lookup y == some .local) = false := by simpa using h1
    rw [this, Bool.and_false]
    rfl
/-- the names that are stored at once, from the right -/
def namesOf (sc : Scope) (line : Nat) (ts : List Expr) : List Str := ts.filterMap fun
  | .Name id pos => if sc.names.lookup id == some .local && pos.line == line then some id else none
  | _ => none
def lineOf (ts : List Expr) : Nat := (ts.head?.map (·.pos.line)).getD 0
theorem swapped_none {ts vs : List Expr} {k1 k2 : Nat} {p1 p2 : Pos} {sc : Scope} {env : Env} (hs : env.scope = sc) (h : (namesOf sc (lineOf ts) ts).length ≠ ts.length) : swappedStores [.Tuple ts k1 p1] (.Tuple vs k2 p2) env = pure none := by
  subst hs
  unfold swappedStores
  simp only
  split
  · rfl
  · split
    · rfl
    · have h' : ((namesOf env.scope (lineOf ts) ts).length != ts.length) = true := by simpa using h
      show (if ((namesOf env.scope (lineOf ts) ts).length != ts.length || _) = true then _ else _) = _
      rw [h', Bool.true_or]
      rfl
theorem swapped_two {x y : Str} {a b : Expr} {px py p1 p2 : Pos} {k1 k2 : Nat} {sc : Scope} {env : Env} (hs : env.scope = sc) (hk : sc.kind = .function) (hx : sc.names.lookup x = some .local) (hy : sc.names.lookup y = some .local) (hl : py.line = px.line) (hxy : x ≠ y)
    (ha : (∀ e p, a ≠ .Starred e p)) (hb : (∀ e p, b ≠ .Starred e p)) (hf : (foldedForSure 8 a && foldedForSure 8 b) = false) (hc : (constantsAlone 8 a && constantsAlone 8 b) = false) :
    swappedStores [.Tuple [.Name x px, .Name y py] k1 p1] (.Tuple [a, b] k2 p2) env = pure (some [x, y]) := by
  subst hs
  have hbk : env.blockKind = .function := by unfold Env.blockKind; rw [hk]; rfl
  have e1 : env.kindOf x = some .local := hx
  have e2 : env.kindOf y = some .local := hy
  have s1 : (match a with | .Starred _ _ => true | _ => false) = false := by cases a <;> first | rfl | exact absurd rfl (ha _ _)
  have s2 : (match b with | .Starred _ _ => true | _ => false) = false := by cases b <;> first | rfl | exact absurd rfl (hb _ _)
  have hyx : (y == x) = false := by simpa using Ne.symm hxy
  unfold swappedStores
  simp only [hbk, List.length_cons, List.length_nil, List.any_cons, List.any_nil, List.all_cons, List.all_nil, Bool.and_true, List.filterMap_cons, List.filterMap_nil, List.head?_cons, Option.map_some, Option.getD_some, Expr.pos, e1, e2, hl, hf, hc]
  simp [s1, s2, List.eraseDups_cons, hyx]
def nostar : Expr → Bool
  | .Starred _ _ => false
  | _ => true
def nosd : Expr → Bool
  | .SetComp _ _ _ _ => false
  | .DictComp _ _ _ _ _ => false
  | _ => true
/-- target = value: how it is stored -/
def asgOk (sc : Scope) (t v : Expr) : Bool := decide (sc.kind = .function) && nosd v && match t, v with
  | .Tuple ts _ _, .Tuple _ _ _ => decide ((namesOf sc (lineOf ts) ts).length ≠ ts.length)
  | _, _ => true
/-- terms that make a list anew -/
def fresh : E → Bool
  | .lst _ => true
  | .comp _ _ _ _ _ => true
  | .bi .list _ => true
  | _ => false
def nmB (c : Nm) (sc : Scope) (i : Nat) (z : Str) : Bool := decide (c.N[i]? = some z) && visB sc z && !(z == ("__debug__" : Str)) && !(z == ("__classdict__" : Str))
mutual
def chkS (c : Nm) (sc : Scope) : S → Stmt → Bool
  | .asg tg e, st => match st with | .Assign [t] v _ => chkT c.N sc (fun _ => true) tg t && chk c e sc v && asgOk sc t v | _ => false
  | .par i j a b, st => match st with
    | .Assign [.Tuple [.Name x px, .Name y py] _ _] (.Tuple [u, v] _ _) _ => decide (sc.kind = .function) && decide (c.N[i]? = some x) && decide (c.N[j]? = some y) && decide (sc.names.lookup x = some .local) && decide (sc.names.lookup y = some .local) && decide (py.line = px.line) && decide (x ≠ y) && decide (i ≠ j)
      && chk c a sc u && chk c b sc v && !(foldedForSure 8 u && foldedForSure 8 v) && !(constantsAlone 8 u && constantsAlone 8 v)
    | _ => false
  | .own i e, st => match st with | .Assign [.Name y py] v _ => decide (c.N[i]? = some y) && locB sc (fun _ => true) y && chk c e sc v && fresh e && nosd v && decide (sc.kind = .function) | _ => false
  | .app i e, st => match st with
    | .Expr (.Call (.Attribute (.Name z _) m ap) [x] [] cp) _ => decide (m = ("append" : Str)) && (ap.endLine == cp.line) && nmB c sc i z && chk c e sc x
    | _ => false
  | .extd i e, st => match st with
    | .Expr (.Call (.Attribute (.Name z _) m ap) [x] [] cp) _ => decide (m = ("extend" : Str)) && (ap.endLine == cp.line) && nmB c sc i z && chk c e sc x
    | _ => false
  | .pop i, st => match st with
    | .Expr (.Call (.Attribute (.Name z _) m ap) [] [] cp) _ => decide (m = ("pop" : Str)) && (ap.endLine == cp.line) && nmB c sc i z
    | _ => false
  | .popTo j i, st => match st with
    | .Assign [.Name y py] (.Call (.Attribute (.Name z _) m ap) [] [] cp) _ => decide (m = ("pop" : Str)) && (ap.endLine == cp.line) && nmB c sc i z && decide (c.N[j]? = some y) && locB sc (fun _ => true) y
    | _ => false
  | .ins _ _ _, _ => false
  | .if_ t a b, st => match st with | .If x l r _ => chk c t sc x && tst t && chkSs c sc a l && chkSs c sc b r | _ => false
  | .for_ tg it b, st => match st with | .For t x l [] _ => chkT c.N sc (fun _ => true) tg t && chkI c it sc t x && chkSs c sc b l | _ => false
  | .while_ t b, st => match st with | .While x l [] _ => chk c t sc x && tst t && chkSs c sc b l | _ => false
  | .ret e, st => match st with | .Return (some x) _ => chk c e sc x | _ => false
  | .raise k, st => match st with | .Raise (some (.Call (.Name x _) [.Constant (.str _) _ _] [] _)) none _ => decide (c.xs[k]? = some x) && glB sc x | _ => false
  | .exp e, st => match st with | .Expr x _ => chk c e sc x && !comps x | _ => false
  | .brk, st => match st with | .Break _ => true | _ => false
  | .cont, st => match st with | .Continue _ => true | _ => false
  | .pass, st => match st with | .Pass _ => true | _ => false
  | .nil, _ => false
  | .cons _ _, _ => false
  | .frz _, _ => false
def chkSs (c : Nm) (sc : Scope) : S → List Stmt → Bool
  | .nil, l => match l with | [] => true | _ => false
  | .cons s ss, l => (match s with | .frz _ => true | _ => false) && chkSs c sc ss l || (match l with | x :: r => chkS c sc s x && chkSs c sc ss r | [] => false)
  | _, _ => false
end
end Mn
/-! Mini, part 15: statements keep what they come to -/
namespace Mn
open PySem PySem.Spec PyProof.Rows L2 LamX
section
variable {c : Nm} {Γ : G} {T : List (Addr × Str)} {cl : Nat → Addr} {Ew : XK} {sc : Scope} {X : Cx}
theorem chk_nostar {m : E} {x : Expr} (h : chk c m sc x = true) : ∀ e p, x ≠ .Starred e p := fun e p z => by
  subst z
  rw [chk_notStar] at h
  cases h
theorem nosd_set {v : Expr} (h : nosd v = true) : (∀ a b s p, v ≠ .SetComp a b s p) ∧ ∀ k a b s p, v ≠ .DictComp k a b s p :=
  ⟨fun a b s p z => by (subst z; cases h), fun k a b s p z => by (subst z; cases h)⟩
/-- a value goes to a target -/
theorem asg_read {tg : Mn.T} {e : E} {D : Ends} {σ : L2.St} {H : Hp} (h : tS X.K T cl Ew (ex Γ (.asg tg e)) D σ H) : tAsg (tE X.K T cl Ew (ev Γ e)) (tGL X.K T tg) D σ H := by
  obtain ⟨H0, O0, Hr, ρ, s, q⟩ := h
  simp only [ex] at q
  refine sr_run s q fun d v H1 O p en e0 o0 ow er r => ?_
  split at p
  · rename_i ρ' ha
    exact ⟨O, ρ, d, ρ', en, r, ha, fun σ' en' st => p σ' H1 (SR.sto en' st e0 o0 ow er)⟩
  · exact p.elim
theorem asg_readN {i : Nat} {e : E} {D : Ends} {σ : L2.St} {H : Hp} (h : tS X.K T cl Ew (ex Γ (.asg (.name i) e)) D σ H) : tAsg (tE X.K T cl Ew (ev Γ e)) (gName i) D σ H := by
  obtain ⟨H0, O0, Hr, ρ, s, q⟩ := h
  simp only [ex] at q
  refine sr_run s q fun d v H1 O p en e0 o0 ow er r => ?_
  simp only [asgL, asgT] at p
  split at p
  · rename_i ρ' ha
    split at ha
    · rename_i hi
      cases ha
      obtain ⟨e1, e2⟩ := en.set r hi
      exact p _ H1 (SR.sto e1 e2 e0 o0 ow er)
    · cases ha
  · exact p.elim
theorem locB_of {y : Str} (hs : X.env.scope = sc) (hf : ∀ x, X.fn x = true) (h : locB sc (fun _ => true) y = true) : Loc X.env.scope y ∧ (X.fn y = true ∨ X.env.scope.names.lookup y = some .local) := by
  refine ⟨?_, .inl (hf y)⟩
  rw [hs]
  unfold locB at h
  split at h
  · exact .inl (by assumption)
  · exact .inr (by assumption)
  · cases h
/-- name = [..], the name a local on the comprehension's line -/
theorem setLc_of {i : Nat} {y : Str} {py pv pos : Pos} {elt : Expr} {gens : List Comprehension} {scope : Scope} {e : E} (S : Sok c Γ T cl Ew sc X) (hk : sc.kind = .function) (h1 : c.N[i]? = some y) (w1 : sc.names.lookup y = some .local) (w2 : (py.line == pv.line) = true)
    (w3 : (scope.names.any fun x => x.1 == y && (x.2 == .local || x.2 == .cell)) = false) (h2 : chk c e sc (.ListComp elt gens scope pv) = true) :
    ∃ own tg' it t' e', e = .comp own tg' it t' e' ∧ (∀ i ∈ Tslots tg', i ∈ own.map (·.2)) ∧ PS X (.Assign [.Name y py] (.ListComp elt gens scope pv) pos) (tAsg (tLc (tI X.K T cl Ew (evI Γ it)) (tG X.K T tg') (tT X.K T cl E0 (evC Γ t')) (tE X.K T cl E0 (ev Γ e')) (own.map (·.2))) (gName i)) := by
  have C := S.cok
  cases e <;> try (simp [chk] at h2; done)
  rename_i own tg' it t' e'
  unfold chk at h2
  split at h2 <;> try (cases h2; done)
  rename_i hx
  cases hx
  simp only [Bool.and_eq_true, decide_eq_true_eq, List.all_eq_true] at h2
  obtain ⟨⟨⟨⟨⟨⟨⟨g1, g2⟩, g3⟩, g4⟩, g5⟩, g6⟩, ho⟩, g7⟩ := h2
  have ho' : ownS sc = true ∨ c.td = 0 := by simpa using ho
  subst g1
  obtain ⟨pi, hf⟩ := (good c Γ T cl it).i C g5
  have bo : BlkOk X.N X.env.scope scope own := by
    rw [C.N, C.sc]
    exact blkOk_by g2
  refine ⟨own, tg', it, t', e', rfl, g4, ps_setLc (i := i) C.calm C.nd (by rw [C.N]; exact h1) (by rw [C.sc]; exact w1) (sw_true (by rw [C.sc]; exact hk) (by rw [C.sc]; exact w1) w2 w3) pi bo (fun s H A l fp => ?_) (fun s H A l fp => ?_) (fun s H A l fp => ?_) hf⟩
  · have Cb := C.blk (scope := scope) ho' s H A l fp
    exact s_T (fn := blkFn scope) Cb.N Cb.nd Cb.sc Cb.calm (fun x hx => hx) tg' _ g3
  · exact (good c Γ T cl t').ts (C.blk ho' s H A l fp) g6
  · exact (good c Γ T cl e').e (C.blk ho' s H A l fp) g7
theorem s_asg {tg : Mn.T} {e : E} {st : Stmt} (S : Sok c Γ T cl Ew sc X) (h : chkS c sc (.asg tg e) st = true) : PS X st (tS X.K T cl Ew (ex Γ (.asg tg e))) := by
  have C := S.cok
  unfold chkS at h
  cases st <;> try (cases h; done)
  rename_i targets v pos
  match targets, h with
  | [], h => cases h
  | _ :: _ :: _, h => cases h
  | [t], h =>
    simp only [Bool.and_eq_true] at h
    obtain ⟨⟨h1, h2⟩, h3⟩ := h
    unfold asgOk at h3
    rw [Bool.and_eq_true, Bool.and_eq_true, decide_eq_true_eq] at h3
    obtain ⟨⟨hk, h3⟩, h4⟩ := h3
    obtain ⟨n1, n2⟩ := nosd_set h3
    have pg := s_TL (T := T) C.N C.nd C.sc C.calm (fun x _ => S.fn x) tg t h1
    have pe := (good c Γ T cl e).e C h2
    cases tg with
    | name i =>
      have h1' := h1
      unfold chkT at h1
      cases t <;> try (cases h1; done)
      rename_i y py
      simp only [Bool.and_eq_true, decide_eq_true_eq] at h1
      by_cases hsw : lcSwap sc y py v = true
      · unfold lcSwap at hsw
        cases v <;> try (cases hsw; done)
        rename_i elt gens scope pv
        simp only [Bool.and_eq_true, decide_eq_true_eq, Bool.not_eq_true'] at hsw
        obtain ⟨⟨w1, w2⟩, w3⟩ := hsw
        obtain ⟨own, tg', it, t', e', rfl, hsl, ps⟩ := setLc_of (pos := pos) S hk h1.1 w1 w2 w3 h2
        exact ps.imp fun D σ H q => comp_read hsl (asg_readN q)
      · have hsw' : lcSwap sc y py v = false := by simpa using hsw
        exact (ps_asg pe pg (lcSwap_no hsw' n1 n2 pos.line X.env C.sc) (swapped_no rfl (fun _ _ z => by cases z) _) rfl).imp fun D σ H q => asg_read q
    | tup ts =>
      unfold chkT at h1
      cases t <;> try (cases h1; done)
      rename_i l k p
      have hw : swappedStores [.Tuple l k p] v X.env = pure none := by
        by_cases ht : isTup v = true
        · cases v <;> try (cases ht; done)
          simp only [decide_eq_true_eq] at h4
          exact swapped_none C.sc h4
        · exact swapped_no (by simpa [isTup] using ht) (fun _ _ z => by cases z) _
      exact (ps_asg pe pg (swaps_tup (tg := .Tuple l k p) rfl n1 pos.line X.env) hw rfl).imp fun D σ H q => asg_read q
    | nil => simp [chkT] at h1
    | cons _ _ => simp [chkT] at h1
theorem s_par {i j : Nat} {a b : E} {st : Stmt} (S : Sok c Γ T cl Ew sc X) (h : chkS c sc (.par i j a b) st = true) : PS X st (tS X.K T cl Ew (ex Γ (.par i j a b))) := by
  have C := S.cok
  unfold chkS at h
  cases st <;> try (cases h; done)
  split at h <;> try (cases h; done)
  rename_i hx
  cases hx
  simp only [Bool.and_eq_true, decide_eq_true_eq, Bool.not_eq_true'] at h
  obtain ⟨⟨⟨⟨⟨⟨⟨⟨⟨⟨⟨h1, h2⟩, h3⟩, h4⟩, h5⟩, h6⟩, h7⟩, h8⟩, h9⟩, h10⟩, h11⟩, h12⟩ := h
  have s1 := fun r => chk_star h9 r X.env
  have s2 := fun r => chk_star h10 r X.env
  refine (ps_par (i := i) (j := j) C.calm C.nd (by rw [C.N]; exact h2) (by rw [C.N]; exact h3) h8 (by rw [C.sc]; exact h4) (by rw [C.sc]; exact h5) (pa_cons ((good c Γ T cl a).e C h9) (pa_cons ((good c Γ T cl b).e C h10) pa_nil (s2 _)) (s1 _))
    (swapped_two C.sc h1 h4 h5 h6 h7 (chk_nostar h9) (chk_nostar h10) h11 h12) rfl).imp fun D σ H ⟨H0, O0, Hr, ρ, s, q⟩ => ?_
  obtain ⟨O, en, e0, o0, ow, er⟩ := s
  simp only [ex] at q
  unfold FP at q
  rw [Rs.fl_post] at q
  refine tE_run en (Rs.post_mono q (fun _ z => z) fun _ z => Wx.from z e0) fun d v H1 p e1 t1 en1 r1 => ?_
  rw [Rs.fl_post] at p
  refine tE_run en1 (Rs.post_mono p (fun _ z => z) fun _ z => Wx.from z (e0.trans e1)) fun d2 v2 H2 p2 e2 t2 en2 r2 => ?_
  split at p2
  · rename_i hij
    obtain ⟨a1, a2⟩ := en2.set (r1.ext (e2.mask O)) hij.1
    obtain ⟨b1, b2⟩ := a1.set (i := j) r2 (by rw [List.length_set]; exact hij.2)
    exact ⟨v, v2, rfl, p2 _ H2 (SR.sto b1 (a2.trans b2) ((e0.trans e1).trans e2) o0 ow (er.trans ((e1.trans e2).mask O)))⟩
  · exact p2.elim
end
end Mn
/-! Mini, part 16: owned lists, loops; every statement is good -/
namespace Mn
open PySem PySem.Spec PyProof.Rows L2 LamX
def rExtendR : V → List V → Hp → VK → Prop := fun x vs H Q => ∃ l b xs zs, x = .ref l ∧ vs = [.ref b] ∧ H l = some (.lst xs) ∧ Rd H b (.lst zs) ∧ xs.length + zs.length ≤ sizeLine ∧ Q .non (upd H l (.lst (xs ++ zs)))
theorem mt_extendR {X : Cx} : MtR X "list.extend" rExtendR := by
  intro pins s σ H x vs v us Q I rx rv h
  obtain ⟨l, b, xs, zs, rfl, rfl, hH, hB, hz, q⟩ := h
  cases rx
  obtain ⟨u, rfl, ru⟩ := rv.one
  cases ru
  obtain ⟨z, its, n, r, hl, e⟩ := I.lstM hH
  obtain ⟨z2, its2, n2, r2, hl2, e2⟩ := rd_lstM I hB
  have hsz : its.toArray.size + its2.toArray.size ≤ sizeLine := by rw [List.size_toArray, List.size_toArray]; omega
  have hlong : ¬ (!its.toArray.isEmpty && Builtin.List.listTooLong (its.toArray.size + its2.toArray.size)) = true := by
    rw [notLongL hsz, Bool.and_false]
    exact Bool.false_ne_true
  refine call_meets F.slot_list_extend ⟨_, e, rfl⟩ F.entry_list_extend (F.args_list_extend_2 _ _)
    (AutoSeq1.list_extend_list_list_0 l its.toArray n b its2.toArray n2 hlong (by rw [List.size_toArray]; omega) (by omega)) ⟨e, e2, ?_⟩
  refine ⟨.non, _, I.lset (its' := its ++ its2) hH e (by simp) (r.append r2) ?_, rfl, q⟩
  rw [List.length_append]
  omega
section
variable {c : Nm} {Γ : G} {T : List (Addr × Str)} {cl : Nat → Addr} {Ew : XK} {sc : Scope} {X : Cx}
theorem nmB_of {i : Nat} {z : Str} {p : Pos} (C : Cok c Γ T cl Ew sc X) (h : nmB c sc i z = true) : PE X (.Name z p) (tVar i) := by
  unfold nmB at h
  simp only [Bool.and_eq_true, decide_eq_true_eq, Bool.not_eq_true'] at h
  obtain ⟨⟨⟨h1, h2⟩, h3⟩, h4⟩ := h
  exact pe_var (i := i) (by rw [C.N]; exact h1) (by rw [C.sc]; exact visB_of h2) h3 h4

/-! ### a list made anew -/
abbrev Wn (K : PySem.W.Frag) (T : List (Addr × Str)) (O : List Addr) (H : Hp) (Q : VK) (d : D) : Prop := ∀ xs, d = .list xs → ∀ p vs H', Nw H p → p ∉ O → Ext H H' → Tabs T H' → H' p = some (.lst vs) → RpAll K (mask H' (p :: O)) vs xs → Q (.ref p) H'
def tN (K : PySem.W.Frag) (T : List (Addr × Str)) (cl : Nat → Addr) (Ew : XK) (f : En → Rs D) : TE := fun σ H Q => ∃ O ρ, EnOk K T O H σ ρ ∧ (f ρ).post (Wn K T O H Q) (Wx T cl Ew H)
theorem comp_new {own : List (Str × Nat)} {tg : Mn.T} {it t e : E} {σ : L2.St} {H : Hp} {Q : VK} (hsl : ∀ i ∈ Tslots tg, i ∈ own.map (·.2)) (q : tN X.K T cl Ew (ev Γ (.comp own tg it t e)) σ H Q) :
    tLc (tI X.K T cl Ew (evI Γ it)) (tG X.K T tg) (tT X.K T cl E0 (evC Γ t)) (tE X.K T cl E0 (ev Γ e)) (own.map (·.2)) σ H Q := by
  obtain ⟨O, ρ, en, q⟩ := q
  exact comp_core hsl en (Rs.post_mono q (fun d k xs hd H1 D vs H' e1 hD e2 t2 hH rv => k xs hd D vs H' (Nw.of e1 hD) ((en.oin.ext e1).fresh hD) (e1.trans e2) t2 hH rv) fun _ z => z)
theorem s_new {m : E} {x : Expr} (C : Cok c Γ T cl Ew sc X) (hf : fresh m = true) (h : chk c m sc x = true) : PE X x (tN X.K T cl Ew (ev Γ m)) := by
  have mkN : ∀ {σ H Q O ρ} {H1 : Hp} {vs : List V} {ds : List D} {p : Addr}, EnOk X.K T O H σ ρ → Ext H H1 → Tabs T H1 → RpAll X.K (mask H1 O) vs ds → H1 p = none → Wn X.K T O H Q (.list ds) → Q (.ref p) (upd H1 p (.lst vs)) :=
    fun {σ H Q O ρ H1 vs ds p} en e1 t1 r hp k => k ds rfl p vs _ (Nw.of e1 hp) ((en.oin.ext e1).fresh hp) (e1.trans (Ext.new hp)) (Tabs.new t1 hp) upd_same (r.ext (mask_cons (Ext.new hp) hp))
  cases m <;> try (cases hf; done)
  · -- a display
    rename_i es
    unfold chk at h
    cases x <;> try (cases h; done)
    refine (pe_lst ((good c Γ T cl es).as C h)).imp fun σ H Q ⟨O, ρ, en, q⟩ => ?_
    simp only [ev, Rs.post_bind] at q
    refine tAs_run en q fun ds vs H1 p e1 t1 en1 r => ?_
    split at p
    · rename_i hl
      exact ⟨lim_size (by rw [r.length]; exact hl), fun a ha => mkN en e1 t1 r ha p⟩
    · exact p.elim
  · -- list(..)
    rename_i b es
    cases b <;> try (cases hf; done)
    unfold chk at h
    cases x <;> try (cases h; done)
    rename_i func l kws pos
    split at h <;> try (cases h; done)
    rename_i hx
    cases hx
    simp only [Bool.and_eq_true, decide_eq_true_eq] at h
    obtain ⟨⟨h1, h2⟩, h3⟩ := h
    subst h1
    cases l with
    | nil =>
      refine ⟨fun pins s σ H Q I ⟨O, ρ, en, q⟩ => ?_⟩
      exfalso
      cases es with
      | nil => simp only [ev, evs, Rs.bind_ok] at q; exact q
      | _ => simp [chks] at h3
    | cons e r =>
      have hh : chks c es sc (e :: r) = true := h3
      cases es with
      | cons m ms =>
        simp only [chks, Bool.and_eq_true] at h3
        refine (pe_callTy (call_list_of (X := X)) (glB_of C.sc h2) (C.bs .list) (by decide +kernel) ((good c Γ T cl _).as C hh) (by decide) (by decide) (chk_star h3.1 r X.env) (chks_plain h3.2 pos X.env)).imp fun σ H Q ⟨O, ρ, en, q⟩ => ?_
        simp only [ev, Rs.post_bind] at q
        refine tAs_run en q fun ds vs H1 p e1 t1 en1 rr => ?_
        unfold biD at p
        split at p <;> first
          | contradiction
          | (obtain ⟨v, rfl, r1⟩ := rr.one
             obtain ⟨a, xs, rfl, h4, h5⟩ := r1.lst_of
             exact ⟨a, xs, rfl, .inl (rd_sq h4), fun l hl => mkN en e1 t1 h5 hl p⟩)
          | (obtain ⟨v, rfl, r1⟩ := rr.one
             obtain ⟨a, xs, rfl, h4, h5⟩ := r1.tup_of
             exact ⟨a, xs, rfl, .inr (sqt_le h4), fun l hl => mkN en e1 t1 h5 hl p⟩)
          | exact p.elim
      | _ => simp [chks] at hh
  · -- a comprehension
    rename_i own tg it t e
    unfold chk at h
    cases x <;> try (cases h; done)
    rename_i elt gens scope pos
    split at h <;> try (cases h; done)
    rename_i hx
    cases hx
    simp only [Bool.and_eq_true, decide_eq_true_eq, List.all_eq_true] at h
    obtain ⟨⟨⟨⟨⟨⟨⟨h1, h2⟩, h3⟩, h4⟩, h5⟩, h6⟩, ho⟩, h7⟩ := h
    have ho' : ownS sc = true ∨ c.td = 0 := by simpa using ho
    subst h1
    obtain ⟨pi, hf⟩ := (good c Γ T cl it).i C h5
    have bo : BlkOk X.N X.env.scope scope own := by
      rw [C.N, C.sc]
      exact blkOk_by h2
    refine (pe_lc C.calm C.nd pi bo (fun s H A l fp => ?_) (fun s H A l fp => ?_) (fun s H A l fp => ?_) hf).imp fun σ H Q q => comp_new h4 q
    · have Cb := C.blk (scope := scope) ho' s H A l fp
      exact s_T (fn := blkFn scope) Cb.N Cb.nd Cb.sc Cb.calm (fun x hx => hx) tg _ h3
    · exact (good c Γ T cl t).ts (C.blk ho' s H A l fp) h6
    · exact (good c Γ T cl e).e (C.blk ho' s H A l fp) h7
theorem mask_consN {H H' : Hp} {O : List Addr} {D : Addr} (e : Ext H H') (hD : Nw H D) : Ext (mask H O) (mask H' (D :: O)) := fun b o h n => by
  obtain ⟨h1, h2⟩ := mask_in h
  rw [mask_of fun z => ?_]
  · exact e b o h2 n
  · rcases List.mem_cons.mp z with z | z
    · exact hD.ne h2 n z
    · exact h1 z
theorem SR.own {K : PySem.W.Frag} {H0 Hr H H' : Hp} {O0 O : List Addr} {σ : L2.St} {ρ : En} {i : Nat} {p : Addr} {vs : List V} {xs : List D} (en : EnOk K T O H σ ρ) (e0 : Ext H0 H) (o0 : Osub H0 O0 O) (ow : ∀ (i : Nat) (xs : List D) (p : Addr), ρ[i]? = some (.own xs) → σ[i]? = some (some (.ref p)) → Nw H0 p) (er : Ext Hr (mask H O))
    (hp : Nw H p) (hpO : p ∉ O) (e : Ext H H') (t : Tabs T H') (hH : H' p = some (.lst vs)) (r : RpAll K (mask H' (p :: O)) vs xs) (hi : i < ρ.length) : SR K T H0 O0 Hr H' (σ.set i (some (.ref p))) (ρ.set i (.own xs)) := by
  have hσ : i < σ.length := by rw [en.len]; exact hi
  have mk := mask_consN (O := O) e hp
  have oth : ∀ (j : Nat) (zs : List D), j ≠ i → ρ[j]? = some (.own zs) → σ[j]? ≠ some (some (.ref p)) := fun j zs hj h1 h2 => by
    obtain ⟨q, us, h3, h4, _⟩ := own_at en h1
    rw [h2] at h3
    cases h3
    exact hpO h4
  refine ⟨p :: O, ⟨by rw [List.length_set, List.length_set]; exact en.len, fun j s h => ?_, fun j k z1 z2 hjk h1 h2 => ?_, fun b hb => ?_, t⟩, e0.trans e, fun q hq => ⟨List.mem_cons_of_mem _ (o0 q hq).1, (o0 q hq).2⟩, fun j zs q h1 h2 => ?_, er.trans mk⟩
  · by_cases e1 : i = j
    · subst e1
      rw [List.getElem?_set_self hi] at h
      cases h
      exact ⟨_, List.getElem?_set_self hσ, p, vs, rfl, List.mem_cons_self, hH, r⟩
    · rw [List.getElem?_set_ne e1] at h ⊢
      obtain ⟨o, h1, h2⟩ := en.at_ j s h
      refine ⟨o, h1, ?_⟩
      cases s with
      | un => exact True.intro
      | dt d =>
        obtain ⟨v, e2, r1⟩ := h2
        exact ⟨v, e2, r1.ext mk⟩
      | own zs =>
        obtain ⟨q, us, e2, e3, e4, e5⟩ := h2
        exact ⟨q, us, e2, List.mem_cons_of_mem _ e3, e q _ e4 (fun _ z => by cases z), e5.ext mk⟩
  · by_cases e1 : i = j
    · subst e1
      rw [List.getElem?_set_self hσ, List.getElem?_set_ne hjk]
      rw [List.getElem?_set_ne hjk] at h2
      exact fun z => oth k z2 (Ne.symm hjk) h2 z.symm
    · rw [List.getElem?_set_ne e1] at h1 ⊢
      by_cases e2 : i = k
      · subst e2
        rw [List.getElem?_set_self hσ]
        exact oth j z1 (Ne.symm e1) h1
      · rw [List.getElem?_set_ne e2] at h2 ⊢
        exact en.dis j k z1 z2 hjk h1 h2
  · rcases List.mem_cons.mp hb with z | z
    · rw [z]
      exact ⟨_, hH, fun _ z => by cases z⟩
    · exact en.oin.ext e b z
  · by_cases e1 : i = j
    · subst e1
      rw [List.getElem?_set_self hσ] at h2
      cases h2
      exact fun o ho => by
        by_cases ht : ∃ ps, o = .tbl ps
        · exact ht
        · exact absurd rfl (hp.ne (e0 p o ho fun ps z => ht ⟨ps, z⟩) fun ps z => ht ⟨ps, z⟩)
    · rw [List.getElem?_set_ne e1] at h1 h2
      exact ow j zs q h1 h2
theorem own_read {i : Nat} {e : E} {D : Ends} {σ : L2.St} {H : Hp} (h : tS X.K T cl Ew (ex Γ (.own i e)) D σ H) : tAsg (tN X.K T cl Ew (ev Γ e)) (gName i) D σ H := by
  obtain ⟨H0, O0, Hr, ρ, s, q⟩ := h
  obtain ⟨O, en, e0, o0, ow, er⟩ := s
  simp only [ex] at q
  unfold FP at q
  rw [Rs.fl_post] at q
  refine ⟨O, ρ, en, Rs.post_mono q (fun d p xs hd a vs H' hp hpO e1 t1 hH r => ?_) fun _ z => Wx.from z e0⟩
  subst hd
  dsimp only at p
  split at p
  · rename_i hi
    exact p _ H' (SR.own en e0 o0 ow er hp hpO e1 t1 hH r hi)
  · exact p.elim
theorem s_own {i : Nat} {e : E} {st : Stmt} (S : Sok c Γ T cl Ew sc X) (h : chkS c sc (.own i e) st = true) : PS X st (tS X.K T cl Ew (ex Γ (.own i e))) := by
  have C := S.cok
  unfold chkS at h
  cases st <;> try (cases h; done)
  rename_i targets v pos
  match targets, h with
  | [], h => cases h
  | _ :: _ :: _, h => (split at h <;> first | (cases h; done) | (rename_i z; cases z))
  | [t], h => ?_
  cases t <;> try (cases h; done)
  rename_i y py
  simp only [Bool.and_eq_true, decide_eq_true_eq] at h
  obtain ⟨⟨⟨⟨⟨h1, h2⟩, h3⟩, h4⟩, h5⟩, hk⟩ := h
  obtain ⟨n1, n2⟩ := nosd_set h5
  obtain ⟨l1, l2⟩ := locB_of C.sc S.fn h2
  by_cases hsw : lcSwap sc y py v = true
  · unfold lcSwap at hsw
    cases v <;> try (cases hsw; done)
    rename_i elt gens scope pv
    simp only [Bool.and_eq_true, decide_eq_true_eq, Bool.not_eq_true'] at hsw
    obtain ⟨⟨w1, w2⟩, w3⟩ := hsw
    obtain ⟨own, tg', it, t', e', rfl, hsl, ps⟩ := setLc_of (pos := pos) S hk h1 w1 w2 w3 h3
    exact ps.imp fun D σ H q => comp_new hsl (own_read q)
  · have hsw' : lcSwap sc y py v = false := by simpa using hsw
    exact (ps_set (i := i) C.nd (by rw [C.N]; exact h1) l1 (s_new C h4 h3) (lcSwap_no hsw' n1 n2 pos.line X.env C.sc) l2).imp fun D σ H q => own_read q
end
end Mn
/-! Mini, part 17: lists changed, loops, blocks; every statement is good -/
namespace Mn
open PySem PySem.Spec PyProof.Rows L2 LamX
section
variable {c : Nm} {Γ : G} {T : List (Addr × Str)} {cl : Nat → Addr} {Ew : XK} {sc : Scope} {X : Cx}
/-- x.m(e), x an owned list in slot i -/
theorem meth_read {i : Nat} {e : E} {g : D → Fl} {r : V → List V → Hp → VK → Prop} {D : Ends} {σ : L2.St} {H H0 Hr : Hp} {O0 : List Addr} {ρ : En} (s : SR X.K T H0 O0 Hr H σ ρ) (h : FP X.K T cl Ew H0 O0 Hr D ((ev Γ e ρ).fl g)) {xs : List Mn.D} (hx : ρ[i]? = some (.own xs))
    (k : ∀ p vs d v H1 O, FP X.K T cl Ew H0 O0 Hr D (g d) → EnOk X.K T O H1 σ ρ → Ext H0 H1 → Osub H0 O0 O → (∀ (i : Nat) (xs : List Mn.D) (p : Addr), ρ[i]? = some (.own xs) → σ[i]? = some (some (.ref p)) → Nw H0 p) → Ext Hr (mask H1 O) → Rp X.K (mask H1 O) v d →
      σ[i]? = some (some (.ref p)) → p ∈ O → H1 p = some (.lst vs) → RpAll X.K (mask H1 O) vs xs → r (.ref p) [v] H1 fun _ H2 => D.nx σ H2) :
    tDrop (tBM X.K "list" r (tVar i) (tCons (tE X.K T cl Ew (ev Γ e)) tNil)) D σ H := by
  have s' := s
  obtain ⟨O, en, _⟩ := s
  obtain ⟨p, vs, h1, h2, h3, h4⟩ := own_at en hx
  refine ⟨_, h1, .inl ⟨rfl, vs, .inl (.inl h3)⟩, sr_run s' h fun d v H1 O1 q en1 e0 o0 ow er rr => ?_⟩
  obtain ⟨p', vs', g1, g2, g3, g4⟩ := own_at en1 hx
  rw [h1] at g1
  cases g1
  exact k p vs' d v H1 O1 q en1 e0 o0 ow er rr h1 g2 g3 g4
theorem s_app {i : Nat} {e : E} {st : Stmt} (S : Sok c Γ T cl Ew sc X) (h : chkS c sc (.app i e) st = true) : PS X st (tS X.K T cl Ew (ex Γ (.app i e))) := by
  have C := S.cok
  unfold chkS at h
  cases st <;> try (cases h; done)
  split at h <;> try (cases h; done)
  rename_i hx
  cases hx
  simp only [Bool.and_eq_true, decide_eq_true_eq] at h
  obtain ⟨⟨⟨h1, h2⟩, h3⟩, h4⟩ := h
  subst h1
  have s1 := chk_star h4 [] X.env
  refine (ps_expr (pe_bm PySem.F.plainAttrs_list PySem.F.slot_list_append PySem.F.type_list_append mt_append (nmB_of C h3) (pa_cons ((good c Γ T cl e).e C h4) pa_nil s1) rfl (by rw [s1]; rfl) h2 s1 rfl) rfl).imp fun D σ H ⟨H0, O0, Hr, ρ, s, q⟩ => ?_
  simp only [ex] at q
  split at q
  · rename_i xs hi
    refine meth_read s q hi fun p vs d v H1 O q1 en e0 o0 ow er rr hs hO hp r => ?_
    split at q1
    · rename_i hl
      exact ⟨p, vs, v, rfl, rfl, hp, lim_lt (by rw [r.length]; exact hl), q1 σ _ (SR.put en e0 o0 ow er hi hs hO hp (r.append (.cons rr .nil))).1⟩
    · exact q1.elim
  · exact q.elim
theorem s_extd {i : Nat} {e : E} {st : Stmt} (S : Sok c Γ T cl Ew sc X) (h : chkS c sc (.extd i e) st = true) : PS X st (tS X.K T cl Ew (ex Γ (.extd i e))) := by
  have C := S.cok
  unfold chkS at h
  cases st <;> try (cases h; done)
  split at h <;> try (cases h; done)
  rename_i hx
  cases hx
  simp only [Bool.and_eq_true, decide_eq_true_eq] at h
  obtain ⟨⟨⟨h1, h2⟩, h3⟩, h4⟩ := h
  subst h1
  have s1 := chk_star h4 [] X.env
  refine (ps_expr (pe_bm PySem.F.plainAttrs_list PySem.F.slot_list_extend PySem.F.type_list_extend mt_extendR (nmB_of C h3) (pa_cons ((good c Γ T cl e).e C h4) pa_nil s1) rfl (by rw [s1]; rfl) h2 s1 rfl) rfl).imp fun D σ H ⟨H0, O0, Hr, ρ, s, q⟩ => ?_
  simp only [ex] at q
  split at q
  · rename_i xs hi
    refine meth_read s q hi fun p vs d v H1 O q1 en e0 o0 ow er rr hs hO hp r => ?_
    split at q1
    · rename_i ds
      split at q1
      · rename_i hl
        obtain ⟨b, zs, rfl, h5, h6⟩ := rr.lst_of
        exact ⟨p, b, vs, zs, rfl, rfl, hp, Rd.ext (mask_le _ _) (fun _ z => by cases z) h5, lim_size (by rw [r.length, h6.length]; exact hl), q1 σ _ (SR.put en e0 o0 ow er hi hs hO hp (r.append h6)).1⟩
      · exact q1.elim
    · exact q1.elim
  · exact q.elim
theorem getLast_of {xs : List D} {d : D} (h : xs.getLast? = some d) : xs[xs.length - 1]? = some d := by
  rw [← List.getLast?_eq_getElem?]
  exact h
theorem pop_get {K : PySem.W.Frag} {H : Hp} {vs : List V} {xs : List D} {d : D} (r : RpAll K H vs xs) (h : xs.getLast? = some d) : ∃ v, vs[vs.length - 1]? = some v ∧ Rp K H v d := by
  rw [r.length]
  exact r.get (getLast_of h)
theorem s_pop {i : Nat} {st : Stmt} (S : Sok c Γ T cl Ew sc X) (h : chkS c sc (.pop i) st = true) : PS X st (tS X.K T cl Ew (ex Γ (.pop i))) := by
  have C := S.cok
  unfold chkS at h
  cases st <;> try (cases h; done)
  split at h <;> try (cases h; done)
  rename_i hx
  cases hx
  simp only [Bool.and_eq_true, decide_eq_true_eq] at h
  obtain ⟨⟨h1, h2⟩, h3⟩ := h
  subst h1
  refine (ps_expr (pe_bm0 PySem.F.plainAttrs_list PySem.F.slot_list_pop PySem.F.type_list_pop mt_pop (nmB_of C h3) rfl h2) rfl).imp fun D σ H ⟨H0, O0, Hr, ρ, s, q⟩ => ?_
  simp only [ex] at q
  split at q
  · rename_i xs hi
    split at q
    · exact q.elim
    · rename_i hne
      obtain ⟨O, en, e0, o0, ow, er⟩ := s
      obtain ⟨p, vs, g1, g2, g3, g4⟩ := own_at en hi
      obtain ⟨v, g5, _⟩ := pop_get g4 (List.getLast?_eq_some_getLast hne)
      exact ⟨_, g1, .inl ⟨rfl, vs, .inl (.inl g3)⟩, p, vs, v, rfl, rfl, g3, g5, q σ _ (SR.put en e0 o0 ow er hi g1 g2 g3 g4.dropLast).1⟩
  · exact q.elim
theorem s_popTo {j i : Nat} {st : Stmt} (S : Sok c Γ T cl Ew sc X) (h : chkS c sc (.popTo j i) st = true) : PS X st (tS X.K T cl Ew (ex Γ (.popTo j i))) := by
  have C := S.cok
  unfold chkS at h
  cases st <;> try (cases h; done)
  split at h <;> try (cases h; done)
  rename_i hx
  cases hx
  simp only [Bool.and_eq_true, decide_eq_true_eq] at h
  obtain ⟨⟨⟨⟨h1, h2⟩, h3⟩, h4⟩, h5⟩ := h
  subst h1
  obtain ⟨l1, l2⟩ := locB_of C.sc S.fn h5
  refine (ps_set (i := j) C.nd (by rw [C.N]; exact h4) l1 (pe_bm0 PySem.F.plainAttrs_list PySem.F.slot_list_pop PySem.F.type_list_pop mt_pop (nmB_of C h3) rfl h2) rfl l2).imp fun D σ H ⟨H0, O0, Hr, ρ, s, q⟩ => ?_
  simp only [ex] at q
  split at q
  · rename_i xs hi
    split at q
    · rename_i d hd
      split at q
      · rename_i hj
        obtain ⟨O, en, e0, o0, ow, er⟩ := s
        obtain ⟨p, vs, g1, g2, g3, g4⟩ := own_at en hi
        obtain ⟨v, g5, g6⟩ := pop_get g4 hd
        obtain ⟨s2, en2⟩ := SR.put (ys := xs.dropLast) en e0 o0 ow er hi g1 g2 g3 g4.dropLast
        have stay : Ext (mask H O) (mask (upd H p (.lst vs.dropLast)) O) := fun b o hb _ => by
          obtain ⟨n1, n2⟩ := mask_in hb
          rw [mask_of n1, upd_ne fun z => n1 (by rw [z]; exact g2)]
          exact n2
        obtain ⟨a1, a2⟩ := en2.set (i := j) (g6.ext stay) (by rw [List.length_set]; exact hj.1)
        obtain ⟨O2, _, e02, _, ow2, _⟩ := id s2
        exact ⟨_, g1, .inl ⟨rfl, vs, .inl (.inl g3)⟩, p, vs, v, rfl, rfl, g3, g5, q _ _ (SR.sto a1 a2 e02 o0 ow2 (er.trans stay))⟩
      · exact q.elim
    · exact q.elim
  · exact q.elim
theorem s_ret {e : E} {st : Stmt} (S : Sok c Γ T cl Ew sc X) (h : chkS c sc (.ret e) st = true) : PS X st (tS X.K T cl Ew (ex Γ (.ret e))) := by
  have C := S.cok
  unfold chkS at h
  cases st <;> try (cases h; done)
  rename_i v pos
  cases v <;> try (cases h; done)
  refine (ps_ret ((good c Γ T cl e).e C h)).imp fun D σ H ⟨H0, O0, Hr, ρ, s, q⟩ => ?_
  simp only [ex] at q
  exact sr_run s q fun d v H1 O p en e0 o0 ow er r => p v H1 e0 en.tabs (SR.ret o0 r)
theorem s_exp {e : E} {st : Stmt} (S : Sok c Γ T cl Ew sc X) (h : chkS c sc (.exp e) st = true) : PS X st (tS X.K T cl Ew (ex Γ (.exp e))) := by
  have C := S.cok
  unfold chkS at h
  cases st <;> try (cases h; done)
  simp only [Bool.and_eq_true, Bool.not_eq_true'] at h
  refine (ps_expr ((good c Γ T cl e).e C h.1) (swaps_no h.2 _ _ _)).imp fun D σ H ⟨H0, O0, Hr, ρ, s, q⟩ => ?_
  simp only [ex] at q
  exact sr_run s q fun d v H1 O p en e0 o0 ow er r => p σ H1 ⟨O, en, e0, o0, ow, er⟩
theorem s_raise {k : Nat} {st : Stmt} (S : Sok c Γ T cl Ew sc X) (h : chkS c sc (.raise k) st = true) : PS X st (tS X.K T cl Ew (ex Γ (.raise k))) := by
  have C := S.cok
  unfold chkS at h
  cases st <;> try (cases h; done)
  split at h <;> try (cases h; done)
  rename_i hx
  cases hx
  simp only [Bool.and_eq_true, decide_eq_true_eq] at h
  refine (L2N.ps_raise C.calm S.tk (S.exs k _ h.1 (glB_of C.sc h.2) _ _ _ _ _)).imp fun D σ H ⟨H0, O0, Hr, ρ, s, q⟩ => ?_
  obtain ⟨O, en, e0, o0, ow, er⟩ := s
  exact q H e0 en.tabs
theorem s_small {s : S} {st : Stmt} (h : chkS c sc s st = true) (hs : s = .brk ∨ s = .cont ∨ s = .pass) : PS X st (tS X.K T cl Ew (ex Γ s)) := by
  rcases hs with rfl | rfl | rfl
  · unfold chkS at h
    cases st <;> try (cases h; done)
    exact ps_break.imp fun D σ H ⟨H0, O0, Hr, ρ, s, q⟩ => q σ H s
  · unfold chkS at h
    cases st <;> try (cases h; done)
    exact ps_continue.imp fun D σ H ⟨H0, O0, Hr, ρ, s, q⟩ => q σ H s
  · unfold chkS at h
    cases st <;> try (cases h; done)
    exact ps_pass.imp fun D σ H ⟨H0, O0, Hr, ρ, s, q⟩ => q σ H s
structure GoodS (c : Nm) (Γ : G) (T : List (Addr × Str)) (cl : Nat → Addr) (s : S) : Prop where
  st : ∀ {Ew : XK} {sc : Scope} {X : Cx} {x : Stmt}, Sok c Γ T cl Ew sc X → chkS c sc s x = true → PS X x (tS X.K T cl Ew (ex Γ s))
  ss : ∀ {Ew : XK} {sc : Scope} {X : Cx} {l : List Stmt}, Sok c Γ T cl Ew sc X → chkSs c sc s l = true → PSs X l (tS X.K T cl Ew (ex Γ s))
theorem s_if {t : E} {a b : S} {st : Stmt} (ga : GoodS c Γ T cl a) (gb : GoodS c Γ T cl b) (S : Sok c Γ T cl Ew sc X) (h : chkS c sc (.if_ t a b) st = true) : PS X st (tS X.K T cl Ew (ex Γ (.if_ t a b))) := by
  have C := S.cok
  unfold chkS at h
  cases st <;> try (cases h; done)
  simp only [Bool.and_eq_true] at h
  obtain ⟨⟨⟨h1, h2⟩, h3⟩, h4⟩ := h
  refine (ps_if ((good c Γ T cl t).t C h1 h2) (ga.ss S h3) (gb.ss S h4)).imp fun D σ H ⟨H0, O0, Hr, ρ, s, q⟩ => ?_
  simp only [ex] at q
  refine sr_test s q (fun d hd => by cases d <;> first | rfl | exact absurd rfl (hd _)) fun k H1 p s1 => ?_
  cases k with
  | true => exact L2.iteT ⟨H0, O0, Hr, ρ, s1, p⟩
  | false => exact L2.iteF ⟨H0, O0, Hr, ρ, s1, p⟩
theorem s_for {tg : Mn.T} {it : E} {b : S} {st : Stmt} (gb : GoodS c Γ T cl b) (S : Sok c Γ T cl Ew sc X) (h : chkS c sc (.for_ tg it b) st = true) : PS X st (tS X.K T cl Ew (ex Γ (.for_ tg it b))) := by
  have C := S.cok
  unfold chkS at h
  cases st <;> try (cases h; done)
  split at h <;> try (cases h; done)
  rename_i hx
  cases hx
  simp only [Bool.and_eq_true] at h
  obtain ⟨⟨h1, h2⟩, h3⟩ := h
  obtain ⟨pi, hf⟩ := (good c Γ T cl it).i C h2
  refine (ps_for S.own C.calm pi (s_T (T := T) C.N C.nd C.sc C.calm (fun x _ => S.fn x) tg _ h1) (gb.ss S h3) hf).imp fun D σ H ⟨H0, O0, Hr, ρ, s, q⟩ => ?_
  obtain ⟨O, en, e0, o0, ow, er⟩ := s
  simp only [ex] at q
  unfold FP at q
  rw [Rs.fl_post] at q
  refine ⟨O, ρ, en, Rs.post_mono q (fun ds p J H1 e1 t1 itd => ?_) fun _ z => Wx.from z e0⟩
  have p : FP X.K T cl Ew H0 O0 Hr D (forRun (fun d ρ' => asgT tg d ρ') (fun ρ' => ex Γ b ρ') ds ρ) := p
  have hHr : Ext Hr (mask H1 O) := er.trans (e1.mask O)
  refine ⟨fun i m σ' H' => m = ds.length - i ∧ i ≤ ds.length ∧ ∃ ρi, SR X.K T H0 O0 (mask H1 O) H' σ' ρi ∧ FP X.K T cl Ew H0 O0 Hr D (forRun (fun d ρ' => asgT tg d ρ') (fun ρ' => ex Γ b ρ') (ds.drop i) ρi),
    ⟨ds.length, rfl, Nat.zero_le _, ρ, ⟨O, en.ext e1 t1, e0.trans e1, o0, ow, Ext.refl _⟩, p⟩, ?_⟩
  rintro i m σ' H' ⟨rfl, hi, ρi, si, pi'⟩
  have si' := si
  obtain ⟨Oi, eni, e0i, o0i, owi, eri⟩ := si
  have hit := itd i H' Oi eri eni.oin eni.tabs
  by_cases hlt : i < ds.length
  · obtain ⟨hgo, hy⟩ := hit.1 hlt
    refine .inr ⟨hgo, fun σ2 H2 => ∃ ρ2, SR X.K T H0 O0 (mask H1 O) H2 σ2 ρ2 ∧ FP X.K T cl Ew H0 O0 Hr D (forRun (fun d ρ' => asgT tg d ρ') (fun ρ' => ex Γ b ρ') (ds.drop (i + 1)) ρ2), fun σ2 H2 h2 => ⟨ds.length - (i + 1), by omega, rfl, hlt, h2⟩, fun x H2 y => ?_⟩
    obtain ⟨e3, t3, d, hd, rd⟩ := hy x H2 y
    have hdrop : ds.drop i = d :: ds.drop (i + 1) := by
      obtain ⟨g1, g2⟩ := List.getElem?_eq_some_iff.mp hd
      rw [← g2]
      exact List.drop_eq_getElem_cons g1
    rw [hdrop] at pi'
    unfold forRun at pi'
    split at pi'
    · exact pi'.elim
    · rename_i ρ' ha
      refine ⟨Oi, ρi, d, ρ', eni.ext e3 t3, rd, ha, fun σ3 en3 st3 => ?_⟩
      refine ⟨H0, O0, mask H1 O, ρ', SR.sto en3 st3 (e0i.trans e3) o0i owi (eri.trans (e3.mask Oi)), ?_⟩
      cases hb : ex Γ b ρ' with
      | next ρ2 => rw [hb] at pi'; exact fun σ4 H4 s4 => ⟨ρ2, s4, pi'⟩
      | cont ρ2 => rw [hb] at pi'; exact fun σ4 H4 s4 => ⟨ρ2, s4, pi'⟩
      | brk ρ2 => rw [hb] at pi'; exact fun σ4 H4 s4 => pi' σ4 H4 (s4.hr hHr)
      | ret d => rw [hb] at pi'; exact pi'
      | exn k => rw [hb] at pi'; exact pi'
      | no => rw [hb] at pi'; exact pi'.elim
  · refine .inl ⟨hit.2 (by omega), ?_⟩
    have hie : i = ds.length := by omega
    rw [hie, List.drop_length] at pi'
    exact pi' σ' H' (si'.hr hHr)
theorem s_while {t : E} {b : S} {st : Stmt} (gb : GoodS c Γ T cl b) (S : Sok c Γ T cl Ew sc X) (h : chkS c sc (.while_ t b) st = true) : PS X st (tS X.K T cl Ew (ex Γ (.while_ t b))) := by
  have C := S.cok
  unfold chkS at h
  cases st <;> try (cases h; done)
  split at h <;> try (cases h; done)
  rename_i hx
  cases hx
  simp only [Bool.and_eq_true] at h
  obtain ⟨⟨h1, h2⟩, h3⟩ := h
  refine (ps_while S.own ((good c Γ T cl t).t C h1 h2) (gb.ss S h3)).imp fun D σ H ⟨H0, O0, Hr, ρ, s, q⟩ => ?_
  simp only [ex] at q
  have hno : whileDen (fun ρ' => ev Γ t ρ') (fun ρ' => ex Γ b ρ') ρ ≠ .no := fun z => by
    rw [z] at q
    exact q
  obtain ⟨n, hn⟩ := whileDen_run hno
  refine ⟨fun m σ' H' => ∃ ρi, SR X.K T H0 O0 Hr H' σ' ρi ∧ FP X.K T cl Ew H0 O0 Hr D (whileRun (fun ρ' => ev Γ t ρ') (fun ρ' => ex Γ b ρ') m ρi), ⟨n, ρ, s, by rw [hn]; exact q⟩, ?_⟩
  rintro m σ' H' ⟨ρi, si, pi⟩
  cases m with
  | zero => exact pi.elim
  | succ m =>
    unfold whileRun at pi
    refine sr_test si pi (fun d hd => by cases d <;> first | rfl | exact absurd rfl (hd _)) fun k H1 p s1 => ?_
    cases k with
    | true =>
      refine L2.iteT ⟨fun σ2 H2 => ∃ ρ2, SR X.K T H0 O0 Hr H2 σ2 ρ2 ∧ FP X.K T cl Ew H0 O0 Hr D (whileRun (fun ρ' => ev Γ t ρ') (fun ρ' => ex Γ b ρ') m ρ2), fun σ2 H2 h2 => ⟨m, Nat.lt_succ_self m, h2⟩, H0, O0, Hr, ρi, s1, ?_⟩
      dsimp only at p
      cases hb : ex Γ b ρi with
      | next ρ2 => rw [hb] at p; exact fun σ4 H4 s4 => ⟨ρ2, s4, p⟩
      | cont ρ2 => rw [hb] at p; exact fun σ4 H4 s4 => ⟨ρ2, s4, p⟩
      | brk ρ2 => rw [hb] at p; exact fun σ4 H4 s4 => p σ4 H4 s4
      | ret d => rw [hb] at p; exact p
      | exn k => rw [hb] at p; exact p
      | no => rw [hb] at p; exact p.elim
    | false => exact L2.iteF (p σ' H1 s1)
/-- a slot is frozen -/
theorem frz_read {i : Nat} {f : En → Fl} {D : Ends} {σ : L2.St} {H : Hp} (h : tS X.K T cl Ew (fun ρ => (ex Γ (.frz i) ρ).seq f) D σ H) : tS X.K T cl Ew f D σ H := by
  obtain ⟨H0, O0, Hr, ρ, s, q⟩ := h
  simp only [ex] at q
  split at q
  · rename_i xs hi
    obtain ⟨O, en, e0, o0, ow, er⟩ := s
    obtain ⟨p, vs, g1, g2, g3, g4⟩ := own_at en hi
    have hil : i < ρ.length := (List.getElem?_eq_some_iff.mp hi).1
    have hp0 := ow i xs p hi g1
    have memO : ∀ {a : Addr}, a ∈ O.filter (fun a => decide (a ≠ p)) → a ∈ O := fun h => (List.mem_filter.mp h).1
    have npO : p ∉ O.filter (fun a => decide (a ≠ p)) := fun h => by
      have := (List.mem_filter.mp h).2
      simp at this
    have mk : Ext (mask H O) (mask H (O.filter (fun a => decide (a ≠ p)))) := mask_mono fun a ha => memO ha
    have own : ∀ (j : Nat) (zs : List Mn.D), (ρ.set i (.dt (.list xs)))[j]? = some (.own zs) → i ≠ j ∧ ρ[j]? = some (.own zs) := fun j zs h => by
      by_cases e : i = j
      · subst e
        rw [List.getElem?_set_self hil] at h
        cases h
      · rw [List.getElem?_set_ne e] at h
        exact ⟨e, h⟩
    refine ⟨H0, O0, Hr, _, ⟨O.filter (fun a => decide (a ≠ p)), ⟨by rw [List.length_set]; exact en.len, fun j s h => ?_, fun j k z1 z2 hjk h1 h2 => ?_, fun b hb => en.oin b (memO hb), en.tabs⟩, e0, fun b hb => ⟨List.mem_filter.mpr ⟨(o0 b hb).1, decide_eq_true fun z => (o0 b hb).2 (by rw [z]; exact hp0)⟩, (o0 b hb).2⟩, fun j zs b h1 h2 => ?_, er.trans mk⟩, q⟩
    · by_cases e : i = j
      · subst e
        rw [List.getElem?_set_self hil] at h
        cases h
        exact ⟨_, g1, _, rfl, .lst (.inl (by rw [mask_of npO]; exact g3)) (g4.ext mk)⟩
      · rw [List.getElem?_set_ne e] at h
        obtain ⟨o, h1, h2⟩ := en.at_ j s h
        refine ⟨o, h1, ?_⟩
        cases s with
        | un => exact True.intro
        | dt d =>
          obtain ⟨v, e2, r1⟩ := h2
          exact ⟨v, e2, r1.ext mk⟩
        | own zs =>
          obtain ⟨b, us, e2, e3, e4, e5⟩ := h2
          subst e2
          exact ⟨b, us, rfl, List.mem_filter.mpr ⟨e3, decide_eq_true fun z => en.dis i j xs zs e hi h (by rw [g1, h1, z])⟩, e4, e5.ext mk⟩
    · exact en.dis j k z1 z2 hjk (own j z1 h1).2 (own k z2 h2).2
    · exact ow j zs b (own j zs h1).2 h2
  · exact ⟨H0, O0, Hr, ρ, s, q⟩
theorem s_block {s ss : S} {l : List Stmt} (g : GoodS c Γ T cl s) (gs : GoodS c Γ T cl ss) (S : Sok c Γ T cl Ew sc X) (h : chkSs c sc (.cons s ss) l = true) : PSs X l (tS X.K T cl Ew (ex Γ (.cons s ss))) := by
  unfold chkSs at h
  rw [Bool.or_eq_true] at h
  rcases h with h | h
  · rw [Bool.and_eq_true] at h
    cases s <;> first
      | exact absurd h.1 Bool.false_ne_true
      | exact (gs.ss S h.2).imp fun D σ H q => frz_read q
  · cases l with
    | nil => cases h
    | cons x r =>
      simp only [Bool.and_eq_true] at h
      refine (pss_cons (g.st S h.1) (gs.ss S h.2)).imp fun D σ H ⟨H0, O0, Hr, ρ, s0, q⟩ => ?_
      simp only [ex] at q
      unfold FP at q
      rw [Fl.seq_post] at q
      refine ⟨H0, O0, Hr, ρ, s0, ?_⟩
      cases hs : ex Γ s ρ with
      | next ρ2 => rw [hs] at q; exact fun σ2 H2 s2 => ⟨H0, O0, Hr, ρ2, s2, q⟩
      | cont ρ2 => rw [hs] at q; exact q
      | brk ρ2 => rw [hs] at q; exact q
      | ret d => rw [hs] at q; exact q
      | exn k => rw [hs] at q; exact q
      | no => rw [hs] at q; exact q.elim
end
theorem goodS (c : Nm) (Γ : G) (T : List (Addr × Str)) (cl : Nat → Addr) : ∀ s : S, GoodS c Γ T cl s := by
  intro s
  induction s with
  | nil =>
    refine ⟨fun S h => by simp [chkS] at h, fun {Ew sc X l} S h => ?_⟩
    cases l with
    | nil => exact pss_nil.imp fun D σ H ⟨H0, O0, Hr, ρ, s, q⟩ => q σ H s
    | cons x r => simp [chkSs] at h
  | cons s ss g gs => exact ⟨fun S h => by simp [chkS] at h, fun S h => s_block g gs S h⟩
  | asg tg e => exact ⟨fun S h => s_asg S h, fun S h => by simp [chkSs] at h⟩
  | par i j a b => exact ⟨fun S h => s_par S h, fun S h => by simp [chkSs] at h⟩
  | own i e => exact ⟨fun S h => s_own S h, fun S h => by simp [chkSs] at h⟩
  | frz i => exact ⟨fun S h => by simp [chkS] at h, fun S h => by simp [chkSs] at h⟩
  | app i e => exact ⟨fun S h => s_app S h, fun S h => by simp [chkSs] at h⟩
  | extd i e => exact ⟨fun S h => s_extd S h, fun S h => by simp [chkSs] at h⟩
  | pop i => exact ⟨fun S h => s_pop S h, fun S h => by simp [chkSs] at h⟩
  | popTo j i => exact ⟨fun S h => s_popTo S h, fun S h => by simp [chkSs] at h⟩
  | ins i a e => exact ⟨fun S h => by simp [chkS] at h, fun S h => by simp [chkSs] at h⟩
  | if_ t a b ga gb => exact ⟨fun S h => s_if ga gb S h, fun S h => by simp [chkSs] at h⟩
  | for_ tg it b gb => exact ⟨fun S h => s_for gb S h, fun S h => by simp [chkSs] at h⟩
  | while_ t b gb => exact ⟨fun S h => s_while gb S h, fun S h => by simp [chkSs] at h⟩
  | ret e => exact ⟨fun S h => s_ret S h, fun S h => by simp [chkSs] at h⟩
  | raise k => exact ⟨fun S h => s_raise S h, fun S h => by simp [chkSs] at h⟩
  | exp e => exact ⟨fun S h => s_exp S h, fun S h => by simp [chkSs] at h⟩
  | brk => exact ⟨fun S h => s_small h (.inl rfl), fun S h => by simp [chkSs] at h⟩
  | cont => exact ⟨fun S h => s_small h (.inr (.inl rfl)), fun S h => by simp [chkSs] at h⟩
  | pass => exact ⟨fun S h => s_small h (.inr (.inr rfl)), fun S h => by simp [chkSs] at h⟩
end Mn
/-! Mini, part 18: defs -/
namespace Mn
open PySem PySem.Spec PyProof.Rows L2 LamX
/-- the module's names and what they stand for -/
structure Md (K : PySem.W.Frag) (mg : Str → Option Value) (cl : Nat → Addr) (xs : List Str) : Prop where
  bs : ∀ b : B, mg (bnm b) = none
  rng : mg "range" = none
  enm : mg "enumerate" = none
  zip : mg "zip" = none
  rev : mg "reversed" = none
  isi : mg "isinstance" = none
  tns : ∀ t : Nat, mg (tnm t) = none
  exs : ∀ (k : Nat) (x : Str), xs[k]? = some x → mg x = some (.ref (cl k)) ∧ PySem.W.excIn K (cl k) He.veBase "ValueError.__new__" = true ∧ PySem.W.keepIn K (.ref (cl k)) = true ∧ PySem.W.subIn K (.ref (cl k)) (.type "BaseException") = some true ∧ PySem.W.typeIn K (.ref (cl k)) = some (.type "type") ∧ (x == ("__debug__" : Str)) = false
/-- the module's constants -/
def Cs (K : PySem.W.Frag) (mg : Str → Option Value) (cs : List Str) (ds : List D) : Prop := ∀ (j : Nat) (x : Str) (d : D), cs[j]? = some x → ds[j]? = some d → ∃ v u, mg x = some u ∧ RelV v u ∧ ∀ H, Rp K H v d
/-- a def of the module that is worth g -/
def Real (P : Program) (w : World) (K : PySem.W.Frag) (mg : Str → Option Value) (base : Heap) (T : List (Addr × Str)) (cl : Nat → Addr) (k : Nat) (x : Str) (n : Nat) (g : List D → Rs D) : Prop :=
  ∃ f fd ps, mg x = some (.ref f) ∧ PySem.W.keepIn K (.ref f) = true ∧ L2.Binds K fd ps [] ∧ FnOk P w K mg base (L2N.CX P w) k f fd ps (spD K T cl n g)
theorem Real.mono {P : Program} {w : World} {K : PySem.W.Frag} {mg : Str → Option Value} {base : Heap} {T : List (Addr × Str)} {cl : Nat → Addr} {j k : Nat} {x : Str} {n : Nat} {g : List D → Rs D} (r : Real P w K mg base T cl j x n g) (h : j ≤ k) : Real P w K mg base T cl k x n g := by
  obtain ⟨f, fd, ps, h1, h2, h3, h4⟩ := r
  exact ⟨f, fd, ps, h1, h2, h3, h4.mono h⟩
def Reals (P : Program) (w : World) (K : PySem.W.Frag) (mg : Str → Option Value) (base : Heap) (T : List (Addr × Str)) (cl : Nat → Addr) (k : Nat) : List Str → List (Nat × (List D → Rs D)) → Prop
  | [], [] => True
  | x :: xs, g :: gs => Real P w K mg base T cl k x g.1 g.2 ∧ Reals P w K mg base T cl k xs gs
  | _, _ => False
theorem Reals.get {P : Program} {w : World} {K : PySem.W.Frag} {mg : Str → Option Value} {base : Heap} {T : List (Addr × Str)} {cl : Nat → Addr} {k : Nat} : ∀ {xs : List Str} {gs : List (Nat × (List D → Rs D))} {j : Nat} {x : Str} {g : Nat × (List D → Rs D)}, Reals P w K mg base T cl k xs gs → xs[j]? = some x → gs[j]? = some g → Real P w K mg base T cl k x g.1 g.2
  | [], _, j, x, g, _, h, _ => by simp at h
  | _ :: _, [], j, x, g, _, _, h => by simp at h
  | y :: ys, z :: zs, 0, x, g, r, h1, h2 => by
    simp at h1 h2
    subst h1 h2
    exact r.1
  | y :: ys, z :: zs, j + 1, x, g, r, h1, h2 => Reals.get (j := j) r.2 (by simpa using h1) (by simpa using h2)
theorem start_ok {K : PySem.W.Frag} {T : List (Addr × Str)} {O : List Addr} {H : Hp} {N : List Str} {vs : List V} {ds : List D} (oin : OIn H O) (t : Tabs T H) (r : RpAll K (mask H O) vs ds) (hl : vs.length ≤ N.length) :
    EnOk K T O H (L2.start N vs) (ds.map Sl.dt ++ List.replicate (N.length - ds.length) Sl.un) := by
  have hln := r.length
  have noown : ∀ (i : Nat) (xs : List D), (ds.map Sl.dt ++ List.replicate (N.length - ds.length) Sl.un)[i]? ≠ some (.own xs) := fun i xs h => by
    rcases List.mem_append.mp (List.mem_of_getElem? h) with z | z
    · obtain ⟨d, _, e⟩ := List.mem_map.mp z
      cases e
    · cases (List.eq_of_mem_replicate z)
  refine ⟨?_, fun i s h => ?_, fun i j xs ys _ h1 _ => absurd h1 (noown i xs), oin, t⟩
  · unfold L2.start
    simp only [List.length_append, List.length_map, List.length_replicate]
    omega
  · unfold L2.start
    by_cases hi : i < ds.length
    · rw [List.getElem?_append_left (by simpa using hi), List.getElem?_map] at h
      obtain ⟨v, h1, h2⟩ := r.get (List.getElem?_eq_getElem hi)
      rw [List.getElem?_eq_getElem hi] at h
      cases h
      refine ⟨some v, ?_, v, rfl, h2⟩
      rw [List.getElem?_append_left (by simp only [List.length_map]; omega), List.getElem?_map, h1]
      rfl
    · rw [List.getElem?_append_right (by simpa using hi)] at h
      have hs := List.eq_of_mem_replicate (List.mem_of_getElem? h)
      subst hs
      have hb := (List.getElem?_eq_some_iff.mp h).1
      rw [List.length_replicate, List.length_map] at hb
      refine ⟨none, ?_, True.intro⟩
      rw [List.getElem?_append_right (by simp only [List.length_map]; omega), List.getElem?_replicate]
      rw [if_pos (by simp only [List.length_map]; omega)]
/-- THE RULE: a def of the module by its term -/
theorem real_fn {P : Program} {w : World} {K : PySem.W.Frag} {mg : Str → Option Value} {base : Heap} {T : List (Addr × Str)} {cl : Nat → Addr} {k k2 : Nat} {x qual : Str} {params : Arguments} {body : List Stmt} {scope : Scope} {f : Addr} {fd : FuncData} {ps : List Str} {c : Nm} {Γ : G} {m : S}
    (F : FunD K x qual params body scope [] [] f fd) (hm : mg x = some (.ref f)) (hb : L2.Binds K fd ps []) (S : FnScope c.N ps scope) (M : Md K mg cl c.xs) (C : Cs K mg c.cs Γ.cs) (R : Reals P w K mg base T cl k c.fs Γ.fs) (hc : chkSs c scope m body = true) (hk : k ≤ k2)
    (ht : 0 < c.td → k + 2 ≤ k2 ∧ ∃ fw CS g c0 P0, Wd K mg cl (wordsAll.take c.td) fw CS ∧ Td K mg g ∧ TabB base mg c0 P0 ∧ fd.code = .ref c0 ∧ (P0, (envOfC qual scope 0 0 .none).qual ++ "<lambda>") ∈ T ∧ ∀ p ∈ T, p.1 = P0 → p.2 = (envOfC qual scope 0 0 .none).qual ++ "<lambda>") :
    FnOk P w K mg base (L2N.CX P w) (k2 + 1) f fd ps (spD K T cl ps.length (runDef Γ c.N.length m)) := by
  have hpl : ps.length ≤ c.N.length := by
    have := congrArg List.length S.pre
    rw [List.length_take] at this
    omega
  obtain ⟨oc, od, dV, kV, doc, pm, an, cdv, ct, osl, rfl, lk, hcd, _, _⟩ := F.ex
  refine fn_of lk hcd S (fun vs H Q E h => h.1) fun A outer s H vs Q E hr h => ⟨tS K T cl E (ex Γ m), ?_, ?_⟩
  · have hu : (A.deeper (envOfC qual scope s.heap.objs.size f cdv)).units + 65 < cLine := by have := hr.un; omega
    have tk : L2N.Takes (cxOf (L2N.CX P w) P w K mg base c.N qual scope f cdv A outer s H E) (fun cls d _ H => E cls d H) := L2N.takes_of rfl rfl rfl rfl
    have C0 : Cok c Γ T cl E scope (cxOf (L2N.CX P w) P w K mg base c.N qual scope f cdv A outer s H E) :=
      ⟨rfl, S.nd, rfl, rfl, hu, fun j y g h1 h2 => by
        obtain ⟨f', fd', ps', g1, g2, g3, g4⟩ := R.get h1 h2
        exact ⟨k, f', fd', ps', hr.mono hk, g1, g2, g3, g4⟩, C, M.bs, M.rng, M.enm, M.zip, M.rev, M.isi, M.tns, L2N.passes_call tk fun _ _ _ _ h => h, fun _ h0 => by
        obtain ⟨hk2, fw, CS, g, c0, P0, D, G, TB, e1, e2, e3⟩ := ht h0
        exact ⟨fw, CS, g, c0, P0, k, D, G, TB, e1, e2, e3, hr.mono hk2, fun j y g h1 h2 => R.get h1 h2⟩⟩
    refine (goodS c Γ T cl m).ss ⟨C0, fun _ => rfl, passes_of rfl, tk, fun j y h1 hg m' n' p p2 pos => ?_⟩ hc
    obtain ⟨g1, g2, g3, g4, g5, g6⟩ := M.exs j y h1
    exact L2N.pmk_own PySem.F.excBase_ValueError g2 g1 g3 (raises_own g4 g5) hg g6
  · obtain ⟨hl, O, ds, oin, t, r, q⟩ := h
    have hdl : ds.length = vs.length := r.length.symm
    refine ⟨H, O, mask H O, _, ⟨O, start_ok oin t r (by omega), Ext.refl H, fun p hp => ⟨hp, fun z => ?_⟩, fun i xs p h1 _ => ?_, Ext.refl _⟩, ?_⟩
    · obtain ⟨o, h1, h2⟩ := oin p hp
      obtain ⟨ps, e⟩ := z o h1
      exact h2 ps e
    · rcases List.mem_append.mp (List.mem_of_getElem? h1) with z | z
      · obtain ⟨d, _, e⟩ := List.mem_map.mp z
        cases e
      · cases (List.eq_of_mem_replicate z)
    · unfold runDef at q
      cases he : ex Γ m (ds.map Sl.dt ++ List.replicate (c.N.length - ds.length) Sl.un) with
      | next ρ =>
        rw [he] at q
        intro σ' H' sr
        obtain ⟨O', en, e0, o0, ow, er⟩ := sr
        exact q .non H' e0 en.tabs .non
      | ret d => rw [he] at q; exact fun v H' e t r => q v H' e t r
      | exn j => rw [he] at q; exact q
      | brk ρ => rw [he] at q; exact q.elim
      | cont ρ => rw [he] at q; exact q.elim
      | no => rw [he] at q; exact q.elim

theorem real_def {P : Program} {w : World} {K : PySem.W.Frag} {mg : Str → Option Value} {base : Heap} {T : List (Addr × Str)} {cl : Nat → Addr} {k : Nat} {x qual : Str} {params : Arguments} {body : List Stmt} {scope : Scope} {f : Addr} {fd : FuncData} {ps : List Str} {c : Nm} {Γ : G} {m : S}
    (F : FunD K x qual params body scope [] [] f fd) (hm : mg x = some (.ref f)) (hb : L2.Binds K fd ps []) (S : FnScope c.N ps scope) (M : Md K mg cl c.xs) (C : Cs K mg c.cs Γ.cs) (R : Reals P w K mg base T cl k c.fs Γ.fs) (hc : chkSs c scope m body = true) (h0 : c.td = 0) :
    Real P w K mg base T cl (k + 1) x ps.length (runDef Γ c.N.length m) :=
  ⟨f, fd, ps, hm, F.kp, hb, real_fn F hm hb S M C R hc (Nat.le_refl _) (fun z => by omega)⟩
end Mn
/-! Mini, part 19: terms come to their worth step by step (nothing is opened before its turn) -/
namespace Mn
open PySem PySem.Spec PyProof.Rows L2
def slR : Option Sl → Rs D
  | some (.dt d) => .ok d
  | _ => .no
def binR (op : Operator) (x y : Rs D) : Rs D := x.bind fun a => y.bind fun b => binD op a b
def cmpR (op : CmpOp) (x y : Rs D) : Rs D := x.bind fun a => y.bind fun b => cmpD op a b
def tupR (x : Rs (List D)) : Rs D := x.bind fun ds => if ds.length ≤ lim then .ok (.tuple ds) else .no
def lstR (x : Rs (List D)) : Rs D := x.bind fun ds => if ds.length ≤ lim then .ok (.list ds) else .no
def consR (x : Rs D) (y : Rs (List D)) : Rs (List D) := x.bind fun a => y.bind fun b => .ok (a :: b)
def negR (x : Rs D) : Rs D := x.bind fun x => match x with | .int i => .ok (.int (-i)) | _ => .no
def isNR (x : Rs D) : Rs D := x.bind fun x => .ok (.bool (isNone x))
def notNR (x : Rs D) : Rs D := x.bind fun x => .ok (.bool (!isNone x))
def andR (Γ : G) (x : Rs D) (b : E) (ρ : En) : Rs D := x.bind fun x => match x with | .bool true => ev Γ b ρ | .bool false => .ok (.bool false) | _ => .no
def orR (Γ : G) (x : Rs D) (b : E) (ρ : En) : Rs D := x.bind fun x => match x with | .bool true => .ok (.bool true) | .bool false => ev Γ b ρ | _ => .no
def notR (x : Rs D) : Rs D := x.bind fun x => match x with | .bool b => .ok (.bool (!b)) | _ => .no
def iteR (Γ : G) (x : Rs D) (a b : E) (ρ : En) : Rs D := x.bind fun x => match x with | .bool true => ev Γ a ρ | .bool false => ev Γ b ρ | _ => .no
def ixR (x y : Rs D) : Rs D := x.bind fun a => y.bind fun b => ixD a b
def appl (g : Option (Nat × (List D → Rs D))) (ds : List D) : Rs D := match g with
  | some g => if ds.length = g.1 then g.2 ds else .no
  | none => .no
def callR (g : Option (Nat × (List D → Rs D))) (x : Rs (List D)) : Rs D := match g with
  | some g => (x.bind fun ds => if ds.length = g.1 then g.2 ds else .no)
  | none => .no
def biR (b : B) (x : Rs (List D)) : Rs D := x.bind fun ds => biD b ds
def isiR (t : Nat) (x : Rs D) : Rs D := x.bind fun x => .ok (.bool (isiD t x))
def compR (Γ : G) (vs : List Nat) (tg : T) (c e : E) (ρ : En) (x : Rs (List D)) : Rs D := x.bind fun ds => if ds.length ≤ lim then
      (compRun (fun d => asgT tg d (wipeE ρ vs)) (evC Γ c) (ev Γ e) ds).bind fun xs => .ok (.list xs) else .no
def iseqR (x : Rs D) : Rs (List D) := x.bind fun x => match x with | .list ds => .ok ds | .tuple ds => .ok ds | _ => .no
def irangeR (x : Rs (List D)) : Rs (List D) := x.bind fun ds => match ds with
    | [.int j] => if -(2 ^ 62) ≤ j ∧ j < 2 ^ 62 then .ok (rangeD 0 j.toNat) else .no
    | [.int i, .int j] => if -(2 ^ 62) ≤ i ∧ i < 2 ^ 62 ∧ -(2 ^ 62) ≤ j ∧ j < 2 ^ 62 then .ok (rangeD i (j - i).toNat) else .no
    | _ => .no
def ienumR (x : Rs D) : Rs (List D) := x.bind fun x => match x with | .list ds => .ok (enumD 0 ds) | _ => .no
def izipR (x y : Rs D) : Rs (List D) := x.bind fun x => y.bind fun y => match x, y with | .list ds, .list es => .ok (zipD ds es) | .tuple ds, .tuple es => .ok (zipD ds es) | _, _ => .no
def sliR (x : Rs D) (l h : Rs (Option Int)) : Rs D := x.bind fun x => l.bind fun l => h.bind fun h => slD x l h
def optR (x : Rs D) : Rs (Option Int) := x.bind fun x => match x with | .int i => .ok (some i) | _ => .no
def revR (x : Rs D) : Rs D := x.bind fun x => match x with | .list ds => .ok (.list ds.reverse) | _ => .no
def lzipR (x y : Rs D) : Rs D := x.bind fun x => y.bind fun y => match x, y with | .list ds, .list es => .ok (.list (zipD ds es)) | _, _ => .no
def irevR (x : Rs D) : Rs (List D) := x.bind fun x => match x with | .list ds => .ok ds.reverse | _ => .no
def chainR (Γ : G) (o1 o2 : CmpOp) (x y : Rs D) (c : E) (ρ : En) : Rs D := x.bind fun x => y.bind fun y => (cmpD o1 x y).bind fun r => match r with
    | .bool true => (ev Γ c ρ).bind fun z => cmpD o2 y z
    | .bool false => .ok (.bool false)
    | _ => .no
def chain2R (Γ : G) (o2 : CmpOp) (r : Rs D) (y : D) (c : E) (ρ : En) : Rs D := r.bind fun r => match r with
    | .bool true => (ev Γ c ρ).bind fun z => cmpD o2 y z
    | .bool false => .ok (.bool false)
    | _ => .no
section
variable {Γ : G} {ρ : En} {a b c e es it : E}
theorem x_var {i : Nat} : ev Γ (.var i) ρ = slR ρ[i]? := by unfold ev slR; rfl
theorem x_int {n : Int} : ev Γ (.int n) ρ = .ok (.int n) := rfl
theorem x_str {x : Str} : ev Γ (.str x) ρ = .ok (.str x) := rfl
theorem x_bl {x : Bool} : ev Γ (.bl x) ρ = .ok (.bool x) := rfl
theorem x_non : ev Γ .non ρ = .ok .none := rfl
theorem x_glob {k : Nat} : ev Γ (.glob k) ρ = .ofO Γ.cs[k]? := rfl
theorem x_tup : ev Γ (.tup es) ρ = tupR (evs Γ es ρ) := rfl
theorem x_lst : ev Γ (.lst es) ρ = lstR (evs Γ es ρ) := rfl
theorem x_bin {op : Operator} : ev Γ (.bin op a b) ρ = binR op (ev Γ a ρ) (ev Γ b ρ) := rfl
theorem x_neg : ev Γ (.neg a) ρ = negR (ev Γ a ρ) := rfl
theorem x_cmp {op : CmpOp} : ev Γ (.cmp op a b) ρ = cmpR op (ev Γ a ρ) (ev Γ b ρ) := rfl
theorem x_chain {o1 o2 : CmpOp} : ev Γ (.chain o1 o2 a b c) ρ = chainR Γ o1 o2 (ev Γ a ρ) (ev Γ b ρ) c ρ := rfl
theorem x_isN : ev Γ (.isN a) ρ = isNR (ev Γ a ρ) := rfl
theorem x_notN : ev Γ (.notN a) ρ = notNR (ev Γ a ρ) := rfl
theorem x_and : ev Γ (.and a b) ρ = andR Γ (ev Γ a ρ) b ρ := rfl
theorem x_or : ev Γ (.or a b) ρ = orR Γ (ev Γ a ρ) b ρ := rfl
theorem x_not : ev Γ (.not a) ρ = notR (ev Γ a ρ) := rfl
theorem x_ite : ev Γ (.ite c a b) ρ = iteR Γ (ev Γ c ρ) a b ρ := rfl
theorem x_ix : ev Γ (.ix a b) ρ = ixR (ev Γ a ρ) (ev Γ b ρ) := rfl
theorem x_call {f : Nat} : ev Γ (.call f es) ρ = callR Γ.fs[f]? (evs Γ es ρ) := rfl
theorem x_bi {b : B} : ev Γ (.bi b es) ρ = biR b (evs Γ es ρ) := rfl
theorem x_isi {t : Nat} : ev Γ (.isi a t) ρ = isiR t (ev Γ a ρ) := rfl
theorem x_comp {own : List (Str × Nat)} {tg : T} : ev Γ (.comp own tg it c e) ρ = compR Γ (own.map (·.2)) tg c e ρ (evI Γ it ρ) := rfl
theorem x_enil : evs Γ .nil ρ = .ok [] := rfl
theorem x_econs : evs Γ (.cons e es) ρ = consR (ev Γ e ρ) (evs Γ es ρ) := rfl
theorem x_cnil : evC Γ .nil ρ = .ok (.bool true) := rfl
theorem x_ccons : evC Γ (.cons e es) ρ = ev Γ e ρ := rfl
theorem x_iseq : evI Γ (.iseq a) ρ = iseqR (ev Γ a ρ) := rfl
theorem x_irange : evI Γ (.irange es) ρ = irangeR (evs Γ es ρ) := rfl
theorem x_ienum : evI Γ (.ienum a) ρ = ienumR (ev Γ a ρ) := rfl
theorem x_izip : evI Γ (.izip a b) ρ = izipR (ev Γ a ρ) (ev Γ b ρ) := rfl
theorem x_slc {lo hi : E} : ev Γ (.sl a lo hi) ρ = sliR (ev Γ a ρ) (evO Γ lo ρ) (evO Γ hi ρ) := rfl
theorem x_onil : evO Γ .nil ρ = .ok none := rfl
theorem x_ocons : evO Γ (.cons e es) ρ = optR (ev Γ e ρ) := rfl
theorem x_rev : ev Γ (.rev a) ρ = revR (ev Γ a ρ) := rfl
theorem x_lzip : ev Γ (.lzip a b) ρ = lzipR (ev Γ a ρ) (ev Γ b ρ) := rfl
theorem x_irev : evI Γ (.irev a) ρ = irevR (ev Γ a ρ) := rfl
end
section
variable {x y z : D} {xs : List D} {Γ : G} {ρ : En} {a b c e : E}
theorem y_sl : slR (some (.dt x)) = .ok x := rfl
theorem y_bin {op : Operator} : binR op (.ok x) (.ok y) = binD op x y := rfl
theorem y_cmp {op : CmpOp} : cmpR op (.ok x) (.ok y) = cmpD op x y := rfl
theorem y_cons : consR (.ok x) (.ok xs) = .ok (x :: xs) := rfl
theorem y_neg {i : Int} : negR (.ok (.int i)) = .ok (.int (-i)) := rfl
theorem y_isN : isNR (.ok x) = .ok (.bool (isNone x)) := rfl
theorem y_notN : notNR (.ok x) = .ok (.bool (!isNone x)) := rfl
theorem y_andT : andR Γ (.ok (.bool true)) b ρ = ev Γ b ρ := rfl
theorem y_andF : andR Γ (.ok (.bool false)) b ρ = .ok (.bool false) := rfl
theorem y_orT : orR Γ (.ok (.bool true)) b ρ = .ok (.bool true) := rfl
theorem y_orF : orR Γ (.ok (.bool false)) b ρ = ev Γ b ρ := rfl
theorem y_not {t : Bool} : notR (.ok (.bool t)) = .ok (.bool (!t)) := rfl
theorem y_iteT : iteR Γ (.ok (.bool true)) a b ρ = ev Γ a ρ := rfl
theorem y_iteF : iteR Γ (.ok (.bool false)) a b ρ = ev Γ b ρ := rfl
theorem y_ix : ixR (.ok x) (.ok y) = ixD x y := rfl
theorem y_call {g : List D → Rs D} {n : Nat} (h : xs.length = n) : callR (some (n, g)) (.ok xs) = g xs := by
  show (if xs.length = n then g xs else .no) = _
  rw [if_pos h]
theorem y_call0 {g : List D → Rs D} : callR (some (0, g)) (.ok []) = g [] := rfl
theorem y_call1 {g : List D → Rs D} : callR (some (1, g)) (.ok [x]) = g [x] := rfl
theorem y_call2 {g : List D → Rs D} : callR (some (2, g)) (.ok [x, y]) = g [x, y] := rfl
theorem y_call3 {g : List D → Rs D} : callR (some (3, g)) (.ok [x, y, z]) = g [x, y, z] := rfl
theorem y_call4 {g : List D → Rs D} {u : D} : callR (some (4, g)) (.ok [x, y, z, u]) = g [x, y, z, u] := rfl
theorem y_call5 {g : List D → Rs D} {u v : D} : callR (some (5, g)) (.ok [x, y, z, u, v]) = g [x, y, z, u, v] := rfl
theorem y_bi {b : B} : biR b (.ok xs) = biD b xs := rfl
theorem y_isi {t : Nat} : isiR t (.ok x) = .ok (.bool (isiD t x)) := rfl
theorem y_chain {o1 o2 : CmpOp} : chainR Γ o1 o2 (.ok x) (.ok y) c ρ = chain2R Γ o2 (cmpD o1 x y) y c ρ := rfl
theorem y_chainT {o2 : CmpOp} : chain2R Γ o2 (.ok (.bool true)) y c ρ = cmpR o2 (.ok y) (ev Γ c ρ) := rfl
theorem y_chainF {o2 : CmpOp} : chain2R Γ o2 (.ok (.bool false)) y c ρ = .ok (.bool false) := rfl
theorem y_tup (h : xs.length ≤ lim) : tupR (.ok xs) = .ok (.tuple xs) := by
  show (if xs.length ≤ lim then Rs.ok (PyData.tuple xs) else .no) = _
  rw [if_pos h]
theorem y_lst (h : xs.length ≤ lim) : lstR (.ok xs) = .ok (.list xs) := by
  show (if xs.length ≤ lim then Rs.ok (PyData.list xs) else .no) = _
  rw [if_pos h]
theorem y_tup0 : tupR (.ok []) = .ok (.tuple []) := rfl
theorem y_tup1 : tupR (.ok [x]) = .ok (.tuple [x]) := rfl
theorem y_tup2 : tupR (.ok [x, y]) = .ok (.tuple [x, y]) := rfl
theorem y_tup3 : tupR (.ok [x, y, z]) = .ok (.tuple [x, y, z]) := rfl
theorem y_tup4 {u : D} : tupR (.ok [x, y, z, u]) = .ok (.tuple [x, y, z, u]) := rfl
theorem y_lst0 : lstR (.ok []) = .ok (.list []) := rfl
theorem y_lst1 : lstR (.ok [x]) = .ok (.list [x]) := rfl
theorem y_lst2 : lstR (.ok [x, y]) = .ok (.list [x, y]) := rfl
theorem y_lst3 : lstR (.ok [x, y, z]) = .ok (.list [x, y, z]) := rfl
theorem y_lst4 {u : D} : lstR (.ok [x, y, z, u]) = .ok (.list [x, y, z, u]) := rfl
theorem y_lst5 {u v : D} : lstR (.ok [x, y, z, u, v]) = .ok (.list [x, y, z, u, v]) := rfl
theorem y_lst6 {u v w : D} : lstR (.ok [x, y, z, u, v, w]) = .ok (.list [x, y, z, u, v, w]) := rfl
theorem y_lst7 {u v w t : D} : lstR (.ok [x, y, z, u, v, w, t]) = .ok (.list [x, y, z, u, v, w, t]) := rfl
theorem y_seqT : iseqR (.ok (.tuple xs)) = .ok xs := rfl
theorem y_seqL : iseqR (.ok (.list xs)) = .ok xs := rfl
theorem y_enum : ienumR (.ok (.list xs)) = .ok (enumD 0 xs) := rfl
theorem y_zip {ys : List D} : izipR (.ok (.list xs)) (.ok (.list ys)) = .ok (zipD xs ys) := rfl
theorem y_opt {i : Int} : optR (.ok (.int i)) = .ok (some i) := rfl
theorem y_slc {l h : Option Int} : sliR (.ok x) (.ok l) (.ok h) = slD x l h := rfl
theorem y_revL : revR (.ok (.list xs)) = .ok (.list xs.reverse) := rfl
theorem y_zipT {ys : List D} : izipR (.ok (.tuple xs)) (.ok (.tuple ys)) = .ok (zipD xs ys) := rfl
theorem y_lzip {ys : List D} : lzipR (.ok (.list xs)) (.ok (.list ys)) = .ok (.list (zipD xs ys)) := rfl
theorem y_rev : irevR (.ok (.list xs)) = .ok xs.reverse := rfl
theorem y_range1 {j : Int} (h1 : -(2 ^ 62) ≤ j) (h2 : j < 2 ^ 62) : irangeR (.ok [.int j]) = .ok (rangeD 0 j.toNat) := by
  show (if -(2 ^ 62) ≤ j ∧ j < 2 ^ 62 then Rs.ok (rangeD 0 j.toNat) else .no) = _
  rw [if_pos ⟨h1, h2⟩]
theorem y_range2 {i j : Int} (h0 : -(2 ^ 62) ≤ i) (h3 : i < 2 ^ 62) (h1 : -(2 ^ 62) ≤ j) (h2 : j < 2 ^ 62) : irangeR (.ok [.int i, .int j]) = .ok (rangeD i (j - i).toNat) := by
  show (if -(2 ^ 62) ≤ i ∧ i < 2 ^ 62 ∧ -(2 ^ 62) ≤ j ∧ j < 2 ^ 62 then Rs.ok (rangeD i (j - i).toNat) else .no) = _
  rw [if_pos ⟨h0, h3, h1, h2⟩]
theorem y_comp {vs : List Nat} {tg : T} {ys : List D} (h : xs.length ≤ lim) (h2 : compRun (fun d => asgT tg d (wipeE ρ vs)) (evC Γ c) (ev Γ e) xs = .ok ys) : compR Γ vs tg c e ρ (.ok xs) = .ok (.list ys) := by
  show (if xs.length ≤ lim then (compRun (fun d => asgT tg d (wipeE ρ vs)) (evC Γ c) (ev Γ e) xs).bind fun xs => Rs.ok (PyData.list xs) else .no) = _
  rw [if_pos h, h2]
  rfl
/-- a list is made item by item -/
theorem compRun_map {α : Type} {as : D → Option En} {c e : En → Rs D} {f : α → D} {g : α → D} : ∀ (l : List α), (∀ x ∈ l, ∃ ρ, as (f x) = some ρ ∧ c ρ = .ok (.bool true) ∧ e ρ = .ok (g x)) → compRun as c e (l.map f) = .ok (l.map g)
  | [], _ => rfl
  | x :: l, h => by
    obtain ⟨ρ, h1, h2, h3⟩ := h x List.mem_cons_self
    have ih := compRun_map (as := as) (c := c) (e := e) l fun y hy => h y (List.mem_cons_of_mem _ hy)
    simp only [List.map, compRun, h1, h2, h3, ih]
theorem compRun_filter {α : Type} {as : D → Option En} {c e : En → Rs D} {f : α → D} {g : α → D} {t : α → Bool} : ∀ (l : List α), (∀ x ∈ l, ∃ ρ, as (f x) = some ρ ∧ c ρ = .ok (.bool (t x)) ∧ (t x = true → e ρ = .ok (g x))) → compRun as c e (l.map f) = .ok ((l.filter t).map g)
  | [], _ => rfl
  | x :: l, h => by
    obtain ⟨ρ, h1, h2, h3⟩ := h x List.mem_cons_self
    have ih := compRun_filter (as := as) (c := c) (e := e) l fun y hy => h y (List.mem_cons_of_mem _ hy)
    cases ht : t x with
    | true =>
      rw [ht] at h2
      simp only [List.map, compRun, h1, h2, h3 ht, ih, List.filter, ht]
    | false =>
      rw [ht] at h2
      simp only [List.map, compRun, h1, h2, ih, List.filter, ht]
end
/-! ### statements -/
noncomputable def seqR (Γ : G) (x : Fl) (ss : S) : Fl := x.seq fun ρ' => ex Γ ss ρ'
def asgR (tg : T) (ρ : En) (x : Rs D) : Fl := x.fl fun d => match asgL tg d ρ with | some ρ' => .next ρ' | none => .no
def asgO : Option En → Fl
  | some ρ => .next ρ
  | none => .no
def parR (i j : Nat) (ρ : En) (x y : Rs D) : Fl := x.fl fun x => y.fl fun y => if i < ρ.length ∧ j < ρ.length then .next ((ρ.set i (.dt x)).set j (.dt y)) else .no
noncomputable def ifR (Γ : G) (x : Rs D) (a b : S) (ρ : En) : Fl := x.fl fun x => match x with | .bool true => ex Γ a ρ | .bool false => ex Γ b ρ | _ => .no
noncomputable def forR (Γ : G) (tg : T) (b : S) (ρ : En) (x : Rs (List D)) : Fl := x.fl fun ds => forRun (fun d ρ' => asgT tg d ρ') (fun ρ' => ex Γ b ρ') ds ρ
def retR (x : Rs D) : Fl := x.fl fun d => .ret d
def expR (ρ : En) (x : Rs D) : Fl := x.fl fun _ => .next ρ
def endR : Fl → Rs D
  | .next _ => .ok .none
  | .ret d => .ok d
  | .exn c => .exn c
  | _ => .no
section
variable {Γ : G} {ρ : En} {a b c e es it : E} {s ss st : S} {x y : D} {tg : T}
theorem x_snil : ex Γ .nil ρ = .next ρ := rfl
theorem x_scons : ex Γ (.cons s ss) ρ = seqR Γ (ex Γ s ρ) ss := rfl
theorem x_asg : ex Γ (.asg tg e) ρ = asgR tg ρ (ev Γ e ρ) := rfl
theorem x_par {i j : Nat} : ex Γ (.par i j a b) ρ = parR i j ρ (ev Γ a ρ) (ev Γ b ρ) := rfl
theorem x_if : ex Γ (.if_ c s ss) ρ = ifR Γ (ev Γ c ρ) s ss ρ := rfl
theorem x_for : ex Γ (.for_ tg it s) ρ = forR Γ tg s ρ (evI Γ it ρ) := rfl
theorem x_ret : ex Γ (.ret e) ρ = retR (ev Γ e ρ) := rfl
theorem x_raise {k : Nat} : ex Γ (.raise k) ρ = .exn k := rfl
theorem x_exp : ex Γ (.exp e) ρ = expR ρ (ev Γ e ρ) := rfl
theorem x_brk : ex Γ .brk ρ = .brk ρ := rfl
theorem x_cont : ex Γ .cont ρ = .cont ρ := rfl
theorem x_pass : ex Γ .pass ρ = .next ρ := rfl
theorem x_while : ex Γ (.while_ c s) ρ = whileDen (ev Γ c) (ex Γ s) ρ := rfl
theorem x_def {n : Nat} {ds : List D} : runDef Γ n s ds = endR (ex Γ s (ds.map Sl.dt ++ List.replicate (n - ds.length) Sl.un)) := by
  unfold runDef endR
  cases ex Γ s (ds.map Sl.dt ++ List.replicate (n - ds.length) Sl.un) <;> rfl
theorem y_seqN : seqR Γ (.next ρ) ss = ex Γ ss ρ := rfl
theorem y_seqR : seqR Γ (.ret x) ss = .ret x := rfl
theorem y_seqX {k : Nat} : seqR Γ (.exn k) ss = .exn k := rfl
theorem y_seqB : seqR Γ (.brk ρ) ss = .brk ρ := rfl
theorem y_seqC : seqR Γ (.cont ρ) ss = .cont ρ := rfl
theorem y_asg : asgR tg ρ (.ok x) = asgO (asgL tg x ρ) := by
  unfold asgR asgO
  simp only [Rs.fl_ok]
theorem y_asgX {k : Nat} : asgR tg ρ (.exn k) = .exn k := rfl
theorem y_asgO : asgO (some ρ) = .next ρ := rfl
theorem y_asgN {i : Nat} (h : i < ρ.length) : asgL (.name i) x ρ = some (ρ.set i (.dt x)) := by
  show (if i < ρ.length then some (ρ.set i (.dt x)) else none) = _
  rw [if_pos h]
theorem y_par {i j : Nat} (h : i < ρ.length) (h2 : j < ρ.length) : parR i j ρ (.ok x) (.ok y) = .next ((ρ.set i (.dt x)).set j (.dt y)) := by
  show (if i < ρ.length ∧ j < ρ.length then Fl.next ((ρ.set i (.dt x)).set j (.dt y)) else .no) = _
  rw [if_pos ⟨h, h2⟩]
theorem y_ifT : ifR Γ (.ok (.bool true)) s ss ρ = ex Γ s ρ := rfl
theorem y_ifF : ifR Γ (.ok (.bool false)) s ss ρ = ex Γ ss ρ := rfl
theorem y_for {ds : List D} : forR Γ tg s ρ (.ok ds) = forRun (asgT tg) (ex Γ s) ds ρ := rfl
theorem y_ret : retR (.ok x) = .ret x := rfl
theorem y_retX {k : Nat} : retR (.exn k) = .exn k := rfl
theorem y_exp : expR ρ (.ok x) = .next ρ := rfl
theorem y_endR : endR (.ret x) = .ok x := rfl
theorem y_endN : endR (.next ρ) = .ok .none := rfl
theorem y_endX {k : Nat} : endR (.exn k) = .exn k := rfl
theorem forRun_nil {as : D → En → Option En} {b : En → Fl} : forRun as b [] ρ = .next ρ := rfl
theorem forRun_next {as : D → En → Option En} {b : En → Fl} {ds : List D} {ρ1 ρ2 : En} (h : as x ρ = some ρ1) (h2 : b ρ1 = .next ρ2) : forRun as b (x :: ds) ρ = forRun as b ds ρ2 := by
  simp only [forRun, h, h2]
theorem forRun_cont {as : D → En → Option En} {b : En → Fl} {ds : List D} {ρ1 ρ2 : En} (h : as x ρ = some ρ1) (h2 : b ρ1 = .cont ρ2) : forRun as b (x :: ds) ρ = forRun as b ds ρ2 := by
  simp only [forRun, h, h2]
theorem forRun_ret {as : D → En → Option En} {b : En → Fl} {ds : List D} {ρ1 : En} (h : as x ρ = some ρ1) (h2 : b ρ1 = .ret y) : forRun as b (x :: ds) ρ = .ret y := by
  simp only [forRun, h, h2]
theorem forRun_exn {as : D → En → Option En} {b : En → Fl} {ds : List D} {ρ1 : En} {k : Nat} (h : as x ρ = some ρ1) (h2 : b ρ1 = .exn k) : forRun as b (x :: ds) ρ = .exn k := by
  simp only [forRun, h, h2]
/-- a loop keeps what its turns keep -/
theorem forRun_inv {as : D → En → Option En} {b : En → Fl} (I : En → Prop) : ∀ (ds : List D) (ρ : En), (∀ d ∈ ds, ∀ ρ, I ρ → ∃ ρ1 ρ2, as d ρ = some ρ1 ∧ (b ρ1 = .next ρ2 ∨ b ρ1 = .cont ρ2) ∧ I ρ2) → I ρ → ∃ ρ', forRun as b ds ρ = .next ρ' ∧ I ρ'
  | [], ρ, _, h => ⟨ρ, rfl, h⟩
  | d :: ds, ρ, h, hI => by
    obtain ⟨ρ1, ρ2, h1, h2, h3⟩ := h d List.mem_cons_self ρ hI
    obtain ⟨ρ', h4, h5⟩ := forRun_inv I ds ρ2 (fun d hd => h d (List.mem_cons_of_mem _ hd)) h3
    refine ⟨ρ', ?_, h5⟩
    rcases h2 with h2 | h2
    · rw [forRun_next h1 h2, h4]
    · rw [forRun_cont h1 h2, h4]
/-- a loop folds -/
theorem forRun_fold {α β : Type} {as : D → En → Option En} {b : En → Fl} {f : α → D} {st : β → En → Prop} {g : β → α → β} : ∀ (l : List α) (s : β) (ρ : En), (∀ x ∈ l, ∀ (s : β) (ρ : En), st s ρ → ∃ ρ1 ρ2, as (f x) ρ = some ρ1 ∧ (b ρ1 = .next ρ2 ∨ b ρ1 = .cont ρ2) ∧ st (g s x) ρ2) → st s ρ → ∃ ρ', forRun as b (l.map f) ρ = .next ρ' ∧ st (l.foldl g s) ρ'
  | [], s, ρ, _, h => ⟨ρ, rfl, h⟩
  | x :: l, s, ρ, h, hI => by
    obtain ⟨ρ1, ρ2, h1, h2, h3⟩ := h x List.mem_cons_self s ρ hI
    obtain ⟨ρ', h4, h5⟩ := forRun_fold l (g s x) ρ2 (fun d hd => h d (List.mem_cons_of_mem _ hd)) h3
    refine ⟨ρ', ?_, h5⟩
    rcases h2 with h2 | h2
    · rw [List.map_cons, forRun_next h1 h2, h4]
    · rw [List.map_cons, forRun_cont h1 h2, h4]
end
/-! ### targets -/
def asgC (o : Option En) (ts : T) (ds : List D) : Option En := o.bind fun ρ => asgTs ts ds ρ
section
variable {ρ : En} {ts t : T} {d : D} {ds : List D} {i : Nat}
theorem t_name (h : i < ρ.length) : asgT (.name i) d ρ = some (ρ.set i (.dt d)) := by
  show (if i < ρ.length then some (ρ.set i (.dt d)) else none) = _
  rw [if_pos h]
theorem t_tup : asgT (.tup ts) (.tuple ds) ρ = asgTs ts ds ρ := rfl
theorem t_nil : asgTs .nil [] ρ = some ρ := rfl
theorem t_cons : asgTs (.cons t ts) (d :: ds) ρ = asgC (asgT t d ρ) ts ds := rfl
theorem t_asgC : asgC (some ρ) ts ds = asgTs ts ds ρ := rfl
theorem t_Lname (h : i < ρ.length) : asgL (.name i) d ρ = some (ρ.set i (.dt d)) := t_name h
theorem t_LtupT : asgL (.tup ts) (.tuple ds) ρ = asgTs ts ds ρ := rfl
theorem t_LtupL : asgL (.tup ts) (.list ds) ρ = asgTs ts ds ρ := rfl
end
/-! ### lists that are there item by item -/
def stepE (x : Rs D) (r : Rs (List D)) : Rs (List D) := match x with
  | .ok x => (match r with
    | .ok xs => .ok (x :: xs)
    | _ => .no)
  | _ => .no
def stepC (Γ : G) (e : E) (ρ : En) (t : Rs D) (r : Rs (List D)) : Rs (List D) := match t with
  | .ok (.bool true) => stepE (ev Γ e ρ) r
  | .ok (.bool false) => r
  | _ => .no
def stepA (Γ : G) (c e : E) (o : Option En) (r : Rs (List D)) : Rs (List D) := match o with
  | none => .no
  | some ρ => stepC Γ e ρ (evC Γ c ρ) r
def compF (Γ : G) (tg : T) (c e : E) (ρ : En) (ds : List D) : Rs (List D) := compRun (fun d => asgT tg d ρ) (evC Γ c) (ev Γ e) ds
def lstC (x : Rs (List D)) : Rs D := x.bind fun xs => .ok (.list xs)
noncomputable def forB (Γ : G) (tg : T) (s : S) (ds : List D) (x : Fl) : Fl := match x with
  | .next ρ2 => forRun (asgT tg) (ex Γ s) ds ρ2
  | .cont ρ2 => forRun (asgT tg) (ex Γ s) ds ρ2
  | .brk ρ2 => .next ρ2
  | .ret d => .ret d
  | .exn c => .exn c
  | .no => .no
noncomputable def forS (Γ : G) (tg : T) (s : S) (ds : List D) (o : Option En) : Fl := match o with
  | none => .no
  | some ρ => forB Γ tg s ds (ex Γ s ρ)
def orB (t : Bool) (x : Rs D) : Rs D := if t then .ok (.bool true) else x
def andB (t : Bool) (x : Rs D) : Rs D := if t then x else .ok (.bool false)
section
variable {Γ : G} {ρ : En} {a b c e : E} {s ss : S} {x y z : D} {xs : List D} {tg : T} {ds : List D} {vs : List Nat}
theorem z_comp (h : ds.length ≤ lim) : compR Γ vs tg c e ρ (.ok ds) = lstC (compF Γ tg c e (wipeE ρ vs) ds) := by
  unfold compR compF lstC
  simp only [Rs.bind_ok]
  rw [if_pos h]
theorem z_comp0 : compR Γ vs tg c e ρ (.ok []) = .ok (.list []) := rfl
theorem z_comp1 : compR Γ vs tg c e ρ (.ok [x]) = lstC (compF Γ tg c e (wipeE ρ vs) [x]) := rfl
theorem z_comp2 : compR Γ vs tg c e ρ (.ok [x, y]) = lstC (compF Γ tg c e (wipeE ρ vs) [x, y]) := rfl
theorem z_comp3 : compR Γ vs tg c e ρ (.ok [x, y, z]) = lstC (compF Γ tg c e (wipeE ρ vs) [x, y, z]) := rfl
theorem z_lstC : lstC (.ok xs) = .ok (.list xs) := rfl
theorem z_compN : compF Γ tg c e ρ [] = .ok [] := rfl
theorem z_compC : compF Γ tg c e ρ (x :: ds) = stepA Γ c e (asgT tg x ρ) (compF Γ tg c e ρ ds) := by
  unfold compF stepA
  conv => lhs; unfold compRun
  cases asgT tg x ρ with
  | none => rfl
  | some ρ1 =>
    simp only []
    unfold stepC
    cases evC Γ c ρ1 with
    | ok d => cases d with
      | bool t =>
        cases t with
        | true =>
          simp only []
          unfold stepE
          cases ev Γ e ρ1 <;> rfl
        | false => rfl
      | _ => rfl
    | _ => rfl
theorem z_stepA {r : Rs (List D)} : stepA Γ c e (some ρ) r = stepC Γ e ρ (evC Γ c ρ) r := rfl
theorem z_stepCT {r : Rs (List D)} : stepC Γ e ρ (.ok (.bool true)) r = stepE (ev Γ e ρ) r := rfl
theorem z_stepCF {r : Rs (List D)} : stepC Γ e ρ (.ok (.bool false)) r = r := rfl
theorem z_stepE : stepE (.ok x) (.ok xs) = .ok (x :: xs) := rfl
theorem z_forN : forRun (asgT tg) (ex Γ s) [] ρ = .next ρ := rfl
theorem z_forC : forRun (asgT tg) (ex Γ s) (x :: ds) ρ = forS Γ tg s ds (asgT tg x ρ) := by
  unfold forS
  conv => lhs; unfold forRun
  cases asgT tg x ρ with
  | none => rfl
  | some ρ1 =>
    simp only []
    unfold forB
    cases ex Γ s ρ1 <;> rfl
theorem z_forS : forS Γ tg s ds (some ρ) = forB Γ tg s ds (ex Γ s ρ) := rfl
theorem z_forBn : forB Γ tg s ds (.next ρ) = forRun (asgT tg) (ex Γ s) ds ρ := rfl
theorem z_forBc : forB Γ tg s ds (.cont ρ) = forRun (asgT tg) (ex Γ s) ds ρ := rfl
theorem z_forBb : forB Γ tg s ds (.brk ρ) = .next ρ := rfl
theorem z_forBr : forB Γ tg s ds (.ret x) = .ret x := rfl
theorem z_forBx {k : Nat} : forB Γ tg s ds (.exn k) = .exn k := rfl
theorem y_or {t : Bool} : orR Γ (.ok (.bool t)) b ρ = orB t (ev Γ b ρ) := by cases t <;> rfl
theorem y_and {t : Bool} : andR Γ (.ok (.bool t)) b ρ = andB t (ev Γ b ρ) := by cases t <;> rfl
theorem y_orB {t u : Bool} : orB t (.ok (.bool u)) = .ok (.bool (t || u)) := by cases t <;> rfl
theorem y_andB {t u : Bool} : andB t (.ok (.bool u)) = .ok (.bool (t && u)) := by cases t <;> rfl
theorem y_if {t : Bool} : ifR Γ (.ok (.bool t)) s ss ρ = if t = true then ex Γ s ρ else ex Γ ss ρ := by cases t <;> rfl
theorem y_seqI {P : Prop} [Decidable P] {f g : Fl} : seqR Γ (if P then f else g) ss = if P then seqR Γ f ss else seqR Γ g ss := by split <;> rfl
theorem y_endI {P : Prop} [Decidable P] {f g : Fl} : endR (if P then f else g) = if P then endR f else endR g := by split <;> rfl
theorem y_forBI {P : Prop} [Decidable P] {f g : Fl} : forB Γ tg s ds (if P then f else g) = if P then forB Γ tg s ds f else forB Γ tg s ds g := by split <;> rfl
end
/-! ### what simple operations come to -/
theorem binD_div {i j : Int} (h : 0 < j) (h2 : j.natAbs.log2 < 9000) : binD .FloorDiv (.int i) (.int j) = .ok (.int (i / j)) := by
  show (if 0 < j ∧ j.natAbs.log2 < 9000 then Rs.ok (PyData.int (i / j)) else .no) = _
  rw [if_pos ⟨h, h2⟩]
theorem binD_mod {i j : Int} (h : 0 < j) : binD .Mod (.int i) (.int j) = .ok (.int (i % j)) := by
  show (if 0 < j then Rs.ok (PyData.int (i % j)) else .no) = _
  rw [if_pos h]
theorem binD_mul {i j : Int} (h : mulOk i j = true) : binD .Mult (.int i) (.int j) = .ok (.int (i * j)) := by
  show (if mulOk i j then Rs.ok (PyData.int (i * j)) else .no) = _
  rw [if_pos h]
theorem binD_pow {i j : Int} (h : 0 ≤ j) (h2 : j ≤ 1000000) (h3 : i.natAbs < 2 ^ 64) : binD .Pow (.int i) (.int j) = .ok (.int (i ^ j.toNat)) := by
  show (if 0 ≤ j ∧ j ≤ 1000000 ∧ i.natAbs < 2 ^ 64 then Rs.ok (PyData.int (i ^ j.toNat)) else .no) = _
  rw [if_pos ⟨h, h2, h3⟩]
theorem binD_add {i j : Int} : binD .Add (.int i) (.int j) = .ok (.int (i + j)) := rfl
theorem binD_sub {i j : Int} : binD .Sub (.int i) (.int j) = .ok (.int (i - j)) := rfl
theorem binD_addL {a b : List D} (h : a.length + b.length ≤ lim) : binD .Add (.list a) (.list b) = .ok (.list (a ++ b)) := by
  show (if a.length + b.length ≤ lim then Rs.ok (PyData.list (a ++ b)) else .no) = _
  rw [if_pos h]
theorem cmpD_lt {i j : Int} : cmpD .Lt (.int i) (.int j) = .ok (.bool (decide (i < j))) := rfl
theorem cmpD_le {i j : Int} : cmpD .LtE (.int i) (.int j) = .ok (.bool (decide (i ≤ j))) := rfl
theorem cmpD_gt {i j : Int} : cmpD .Gt (.int i) (.int j) = .ok (.bool (decide (j < i))) := rfl
theorem cmpD_ge {i j : Int} : cmpD .GtE (.int i) (.int j) = .ok (.bool (decide (j ≤ i))) := rfl
theorem ixN_nat {n k : Nat} (h : k < n) : ixN n (k : Int) = some k := by
  unfold ixN
  simp
  omega
theorem ix_tn {l : List D} {k : Nat} (h : k < l.length) : ixD (.tuple l) (.int k) = .ok l[k] := by
  simp [ixD, atI, ixN_nat h, h]
theorem ix_ln {l : List D} {k : Nat} (h : k < l.length) : ixD (.list l) (.int k) = .ok l[k] := by
  simp [ixD, atI, ixN_nat h, h]
theorem ix_t0 {a : D} {l : List D} : ixD (.tuple (a :: l)) (.int 0) = .ok a := ix_tn (k := 0) (l := a :: l) (by simp)
theorem ix_t1 {a b : D} {l : List D} : ixD (.tuple (a :: b :: l)) (.int 1) = .ok b := ix_tn (k := 1) (l := a :: b :: l) (by simp)
theorem ix_t2 {a b c : D} {l : List D} : ixD (.tuple (a :: b :: c :: l)) (.int 2) = .ok c := ix_tn (k := 2) (l := a :: b :: c :: l) (by simp)
theorem ix_l0 {a : D} {l : List D} : ixD (.list (a :: l)) (.int 0) = .ok a := ix_ln (k := 0) (l := a :: l) (by simp)
theorem ix_l1 {a b : D} {l : List D} : ixD (.list (a :: b :: l)) (.int 1) = .ok b := ix_ln (k := 1) (l := a :: b :: l) (by simp)
theorem rangeD_eq (lo : Int) : ∀ n : Nat, rangeD lo n = (List.range n).map fun k : Nat => PyData.int (lo + (k : Int))
  | 0 => rfl
  | n + 1 => by
    rw [rangeD, rangeD_eq (lo + 1) n, List.range_succ_eq_map, List.map_cons, List.map_map]
    simp
    intro k _
    omega
end Mn
/-! Mini, part 20: what a row must say of told -/
namespace Mn
open PySem PySem.Spec PyProof.Rows L2 LamX
def excCB (K : PySem.W.Frag) (D : Addr) : Bool :=
  decide (PySem.W.findIn K (.ref D) "__getattribute__" = some (some (.builtin "BaseException.__getattribute__"))) && (decide (PySem.W.findIn K (.ref D) "__getattr__" = some none) && (decide (PySem.W.subIn K (.ref D) (.type "BaseException") = some true) && (PySem.W.hasDictIn K D &&
  (decide (PySem.W.findIn K (.ref D) "__class__" = some (some (.builtin "object.__class__"))) && (decide (PySem.W.specialIn K (.builtin "object.__class__") "__get__" = some (some (.builtin "getset_descriptor.__get__"))) && (decide (PySem.W.takesIn K (.builtin "object.__class__") = some true) && decide (PySem.W.mroIn K D (.type "object") = some true)))))))
theorem excCB_ok {K : PySem.W.Frag} {D : Addr} (h : excCB K D = true) : ExcC K D := by
  unfold excCB at h
  simp only [Bool.and_eq_true, decide_eq_true_eq] at h
  obtain ⟨h1, h2, h3, h4, h5, h6, h7, h8⟩ := h
  exact ⟨h1, h2, h3, h4, h5, h6, h7, h8⟩
def wdB (K : PySem.W.Frag) (cl : Nat → Addr) (n : Nat) (CS : Addr) : Bool := (List.range n).all fun j => excCB K (cl j) && (decide (PySem.W.kitOne K (.ref (cl j)) (.type "ValueError") = some true) && (decide (PySem.W.exmOne K (.ref (cl j)) (.ref CS) = some true) &&
  (List.range n).all fun i => decide (PySem.W.kitOne K (.ref (cl j)) (.ref (cl i)) = some (decide (j = i)))))
theorem wdB_ok {K : PySem.W.Frag} {cl : Nat → Addr} {n : Nat} {CS : Addr} (h : wdB K cl n CS = true) : (∀ j, j < n → ExcC K (cl j)) ∧ (∀ j, j < n → PySem.W.kitOne K (.ref (cl j)) (.type "ValueError") = some true) ∧ (∀ j i, j < n → i < n → PySem.W.kitOne K (.ref (cl j)) (.ref (cl i)) = some (decide (j = i))) ∧ (∀ j, j < n → PySem.W.exmOne K (.ref (cl j)) (.ref CS) = some true) := by
  unfold wdB at h
  have h' : ∀ j, j < n → _ := fun j hj => List.all_eq_true.mp h j (List.mem_range.mpr hj)
  simp only [Bool.and_eq_true, decide_eq_true_eq, List.all_eq_true, List.mem_range] at h'
  exact ⟨fun j hj => excCB_ok (h' j hj).1, fun j hj => (h' j hj).2.1, fun j i hj hi => (h' j hj).2.2.2 i hi, fun j hj => (h' j hj).2.2.1⟩
theorem code_of {K : PySem.W.Frag} {p : He.Defn} {x qual : Str} {params : Arguments} {body : List Stmt} {scope : Scope} {dvs : List V} {kws : List (Str × V)} {fd : FuncData} (F : FunD K x qual params body scope dvs kws (He.fAd K p) fd) : fd.code = .ref (He.cT K p).1 := by
  obtain ⟨oc, od, dV, kV, doc, pm, an, cdv, ct, osl, rfl, lk, hcd, _, _⟩ := F.ex
  obtain ⟨c, e⟩ := He.codeIn_ref hcd
  have e2 := He.codeOf_eq (c := c) lk (by rw [← e])
  show cdv = .ref (He.codeOf K p)
  rw [e2, e]
end Mn
namespace Mn
open PySem PySem.Spec PyProof.Rows L2
def b_fraction : S := (.cons (.if_ (.cmp .Lt (.var 1) (.int 0)) (.cons (.asg (.name 0) (.bin .Sub (.int 0) (.var 0))) (.cons (.asg (.name 1) (.bin .Sub (.int 0) (.var 1))) S.nil)) S.nil) (.cons (.par 2 3 (.bi .abs (.cons (.var 0) .nil)) (.var 1)) (.cons (.while_ (.cmp .Gt (.var 3) (.int 0)) (.cons (.par 2 3 (.var 3) (.bin .Mod (.var 2) (.var 3))) S.nil)) (.cons (.ret (.tup (.cons (.bin .FloorDiv (.var 0) (.var 2)) (.cons (.bin .FloorDiv (.var 1) (.var 2)) .nil)))) S.nil))))
noncomputable def d_fraction : List D → Rs D := runDef ⟨[], []⟩ 4 b_fraction
def c_fraction (xs : List Str) : Nm := ⟨["top", "under", "one", "other"], [], [], xs, 0⟩
def b_plus : S := (.cons (.ret (.call 0 (.cons (.bin .Add (.bin .Mult (.ix (.var 0) (.int 0)) (.ix (.var 1) (.int 1))) (.bin .Mult (.ix (.var 1) (.int 0)) (.ix (.var 0) (.int 1)))) (.cons (.bin .Mult (.ix (.var 0) (.int 1)) (.ix (.var 1) (.int 1))) .nil)))) S.nil)
noncomputable def d_plus : List D → Rs D := runDef ⟨[(2, d_fraction)], []⟩ 2 b_plus
def c_plus (xs : List Str) : Nm := ⟨["one", "other"], ["fraction"], [], xs, 0⟩
def b_minus : S := (.cons (.ret (.call 0 (.cons (.bin .Sub (.bin .Mult (.ix (.var 0) (.int 0)) (.ix (.var 1) (.int 1))) (.bin .Mult (.ix (.var 1) (.int 0)) (.ix (.var 0) (.int 1)))) (.cons (.bin .Mult (.ix (.var 0) (.int 1)) (.ix (.var 1) (.int 1))) .nil)))) S.nil)
noncomputable def d_minus : List D → Rs D := runDef ⟨[(2, d_fraction)], []⟩ 2 b_minus
def c_minus (xs : List Str) : Nm := ⟨["one", "other"], ["fraction"], [], xs, 0⟩
def b_times : S := (.cons (.ret (.call 0 (.cons (.bin .Mult (.ix (.var 0) (.int 0)) (.ix (.var 1) (.int 0))) (.cons (.bin .Mult (.ix (.var 0) (.int 1)) (.ix (.var 1) (.int 1))) .nil)))) S.nil)
noncomputable def d_times : List D → Rs D := runDef ⟨[(2, d_fraction)], []⟩ 2 b_times
def c_times (xs : List Str) : Nm := ⟨["one", "other"], ["fraction"], [], xs, 0⟩
def b_over : S := (.cons (.ret (.call 0 (.cons (.bin .Mult (.ix (.var 0) (.int 0)) (.ix (.var 1) (.int 1))) (.cons (.bin .Mult (.ix (.var 0) (.int 1)) (.ix (.var 1) (.int 0))) .nil)))) S.nil)
noncomputable def d_over : List D → Rs D := runDef ⟨[(2, d_fraction)], []⟩ 2 b_over
def c_over (xs : List Str) : Nm := ⟨["one", "other"], ["fraction"], [], xs, 0⟩
def b_is_less : S := (.cons (.ret (.cmp .Lt (.bin .Mult (.ix (.var 0) (.int 0)) (.ix (.var 1) (.int 1))) (.bin .Mult (.ix (.var 1) (.int 0)) (.ix (.var 0) (.int 1))))) S.nil)
noncomputable def d_is_less : List D → Rs D := runDef ⟨[], []⟩ 2 b_is_less
def c_is_less (xs : List Str) : Nm := ⟨["one", "other"], [], [], xs, 0⟩
def b_step_from : S := (.cons (.ret (.tup (.cons (.call 0 (.cons (.ix (.var 1) (.int 0)) (.cons (.ix (.var 0) (.int 0)) .nil))) (.cons (.call 0 (.cons (.ix (.var 1) (.int 1)) (.cons (.ix (.var 0) (.int 1)) .nil))) .nil)))) S.nil)
noncomputable def d_step_from : List D → Rs D := runDef ⟨[(2, d_minus)], []⟩ 2 b_step_from
def c_step_from (xs : List Str) : Nm := ⟨["one", "other"], ["minus"], [], xs, 0⟩
def b_inner : S := (.cons (.ret (.call 0 (.cons (.call 1 (.cons (.ix (.var 0) (.int 0)) (.cons (.ix (.var 1) (.int 0)) .nil))) (.cons (.call 1 (.cons (.ix (.var 0) (.int 1)) (.cons (.ix (.var 1) (.int 1)) .nil))) .nil)))) S.nil)
noncomputable def d_inner : List D → Rs D := runDef ⟨[(2, d_plus), (2, d_times)], []⟩ 2 b_inner
def c_inner (xs : List Str) : Nm := ⟨["one", "other"], ["plus", "times"], [], xs, 0⟩
def b_across : S := (.cons (.ret (.call 0 (.cons (.call 1 (.cons (.ix (.var 0) (.int 0)) (.cons (.ix (.var 1) (.int 1)) .nil))) (.cons (.call 1 (.cons (.ix (.var 0) (.int 1)) (.cons (.ix (.var 1) (.int 0)) .nil))) .nil)))) S.nil)
noncomputable def d_across : List D → Rs D := runDef ⟨[(2, d_minus), (2, d_times)], []⟩ 2 b_across
def c_across (xs : List Str) : Nm := ⟨["one", "other"], ["minus", "times"], [], xs, 0⟩
def b_square_far : S := (.cons (.asg (.name 2) (.call 0 (.cons (.var 0) (.cons (.var 1) .nil)))) (.cons (.ret (.call 1 (.cons (.var 2) (.cons (.var 2) .nil)))) S.nil))
noncomputable def d_square_far : List D → Rs D := runDef ⟨[(2, d_step_from), (2, d_inner)], []⟩ 3 b_square_far
def c_square_far (xs : List Str) : Nm := ⟨["one", "other", "gone"], ["step_from", "inner"], [], xs, 0⟩
def b_point_at : S := (.cons (.asg (.name 2) (.call 0 (.cons (.ix (.var 0) (.int 0)) (.cons (.ix (.var 0) (.int 1)) .nil)))) (.cons (.ret (.tup (.cons (.call 1 (.cons (.ix (.ix (.var 0) (.int 0)) (.int 0)) (.cons (.call 2 (.cons (.var 1) (.cons (.ix (.var 2) (.int 0)) .nil))) .nil))) (.cons (.call 1 (.cons (.ix (.ix (.var 0) (.int 0)) (.int 1)) (.cons (.call 2 (.cons (.var 1) (.cons (.ix (.var 2) (.int 1)) .nil))) .nil))) .nil)))) S.nil))
noncomputable def d_point_at : List D → Rs D := runDef ⟨[(2, d_step_from), (2, d_plus), (2, d_times)], []⟩ 3 b_point_at
def c_point_at (xs : List Str) : Nm := ⟨["wall", "share", "gone"], ["step_from", "plus", "times"], [], xs, 0⟩
def b_nearest : S := (.cons (.asg (.name 2) (.call 0 (.cons (.ix (.var 0) (.int 0)) (.cons (.ix (.var 0) (.int 1)) .nil)))) (.cons (.asg (.name 3) (.call 1 (.cons (.var 2) (.cons (.var 2) .nil)))) (.cons (.if_ (.cmp .Eq (.var 3) (.glob 0)) (.cons (.ret (.ix (.var 0) (.int 0))) S.nil) S.nil) (.cons (.asg (.name 4) (.call 2 (.cons (.call 1 (.cons (.var 2) (.cons (.call 0 (.cons (.ix (.var 0) (.int 0)) (.cons (.var 1) .nil))) .nil))) (.cons (.var 3) .nil)))) (.cons (.if_ (.call 3 (.cons (.var 4) (.cons (.glob 0) .nil))) (.cons (.ret (.ix (.var 0) (.int 0))) S.nil) S.nil) (.cons (.if_ (.call 3 (.cons (.glob 1) (.cons (.var 4) .nil))) (.cons (.ret (.ix (.var 0) (.int 1))) S.nil) S.nil) (.cons (.ret (.call 4 (.cons (.var 0) (.cons (.var 4) .nil)))) S.nil)))))))
noncomputable def d_nearest : List D → Rs D := runDef ⟨[(2, d_step_from), (2, d_inner), (2, d_over), (2, d_is_less), (2, d_point_at)], [.tuple [.int 0, .int 1], .tuple [.int 1, .int 1]]⟩ 5 b_nearest
def c_nearest (xs : List Str) : Nm := ⟨["wall", "point", "gone", "whole", "share"], ["step_from", "inner", "over", "is_less", "point_at"], ["NOUGHT", "ONE"], xs, 0⟩
def b_crossing : S := (.cons (.asg (.name 2) (.call 0 (.cons (.ix (.var 0) (.int 0)) (.cons (.ix (.var 0) (.int 1)) .nil)))) (.cons (.asg (.name 3) (.call 0 (.cons (.ix (.var 1) (.int 0)) (.cons (.ix (.var 1) (.int 1)) .nil)))) (.cons (.asg (.name 4) (.call 1 (.cons (.var 2) (.cons (.var 3) .nil)))) (.cons (.if_ (.cmp .Eq (.var 4) (.glob 0)) (.cons (.ret .non) S.nil) S.nil) (.cons (.asg (.name 5) (.call 0 (.cons (.ix (.var 0) (.int 0)) (.cons (.ix (.var 1) (.int 0)) .nil)))) (.cons (.asg (.name 6) (.lst (.cons (.call 2 (.cons (.call 1 (.cons (.var 5) (.cons (.var 3) .nil))) (.cons (.var 4) .nil))) (.cons (.call 2 (.cons (.call 1 (.cons (.var 5) (.cons (.var 2) .nil))) (.cons (.var 4) .nil))) .nil)))) (.cons (.if_ (.bi .any (.cons (.comp [("share", 7)] (.name 7) (.iseq (.var 6)) .nil (.or (.call 3 (.cons (.var 7) (.cons (.glob 0) .nil))) (.call 3 (.cons (.glob 1) (.cons (.var 7) .nil))))) .nil)) (.cons (.ret .non) S.nil) S.nil) (.cons (.ret (.call 4 (.cons (.var 0) (.cons (.ix (.var 6) (.int 0)) .nil)))) S.nil))))))))
noncomputable def d_crossing : List D → Rs D := runDef ⟨[(2, d_step_from), (2, d_across), (2, d_over), (2, d_is_less), (2, d_point_at)], [.tuple [.int 0, .int 1], .tuple [.int 1, .int 1]]⟩ 8 b_crossing
def c_crossing (xs : List Str) : Nm := ⟨["one", "other", "gone", "more", "whole", "between", "shares", "share"], ["step_from", "across", "over", "is_less", "point_at"], ["NOUGHT", "ONE"], xs, 0⟩
def b_nearest_two : S := (.cons (.asg (.name 2) (.call 0 (.cons (.var 0) (.cons (.var 1) .nil)))) (.cons (.if_ (.notN (.var 2)) (.cons (.ret (.tup (.cons (.var 2) (.cons (.var 2) .nil)))) S.nil) S.nil) (.cons (.asg (.name 3) (.bin .Add (.comp [("end", 6)] (.name 6) (.iseq (.var 0)) .nil (.tup (.cons (.var 6) (.cons (.call 1 (.cons (.var 1) (.cons (.var 6) .nil))) .nil)))) (.comp [("end", 6)] (.name 6) (.iseq (.var 1)) .nil (.tup (.cons (.call 1 (.cons (.var 0) (.cons (.var 6) .nil))) (.cons (.var 6) .nil)))))) (.cons (.asg (.name 4) (.ix (.var 3) (.int 0))) (.cons (.for_ (.name 5) (.iseq (.var 3)) (.cons (.if_ (.call 2 (.cons (.call 3 (.cons (.ix (.var 5) (.int 0)) (.cons (.ix (.var 5) (.int 1)) .nil))) (.cons (.call 3 (.cons (.ix (.var 4) (.int 0)) (.cons (.ix (.var 4) (.int 1)) .nil))) .nil))) (.cons (.asg (.name 4) (.var 5)) S.nil) S.nil) S.nil)) (.cons (.ret (.var 4)) S.nil))))))
noncomputable def d_nearest_two : List D → Rs D := runDef ⟨[(2, d_crossing), (2, d_nearest), (2, d_is_less), (2, d_square_far)], []⟩ 7 b_nearest_two
def c_nearest_two (xs : List Str) : Nm := ⟨["one", "other", "point", "some", "found", "pair", "end"], ["crossing", "nearest", "is_less", "square_far"], [], xs, 0⟩
def b_apart : S := (.cons (.asg (.name 2) (.call 0 (.cons (.var 0) (.cons (.var 1) .nil)))) (.cons (.ret (.call 1 (.cons (.ix (.var 2) (.int 0)) (.cons (.ix (.var 2) (.int 1)) .nil)))) S.nil))
noncomputable def d_apart : List D → Rs D := runDef ⟨[(2, d_nearest_two), (2, d_square_far)], []⟩ 3 b_apart
def c_apart (xs : List Str) : Nm := ⟨["one", "other", "pair"], ["nearest_two", "square_far"], [], xs, 0⟩
def b_need_reach : S := (.cons (.if_ (.not (.call 0 (.cons (.glob 0) (.cons (.var 0) .nil)))) (.cons (.raise 0) S.nil) S.nil) S.nil)
noncomputable def d_need_reach : List D → Rs D := runDef ⟨[(2, d_is_less)], [.tuple [.int 0, .int 1]]⟩ 1 b_need_reach
def c_need_reach (xs : List Str) : Nm := ⟨["reach"], ["is_less"], ["NOUGHT"], xs, 0⟩
def b_need_walls : S := (.cons (.exp (.call 0 (.cons (.var 1) .nil))) (.cons (.if_ (.cmp .Gt (.bi .len (.cons (.var 0) .nil)) (.glob 0)) (.cons (.raise 3) S.nil) S.nil) S.nil))
noncomputable def d_need_walls : List D → Rs D := runDef ⟨[(1, d_need_reach)], [.int 40]⟩ 2 b_need_walls
def c_need_walls (xs : List Str) : Nm := ⟨["walls", "reach"], ["need_reach"], ["MOST_WALLS"], xs, 0⟩
def b_in_way : S := (.cons (.ret (.comp [("number", 3), ("wall", 4)] (.tup (.cons (.name 3) (.cons (.name 4) Mn.T.nil))) (.ienum (.var 0)) (.cons (.call 0 (.cons (.call 1 (.cons (.var 4) (.cons (.var 2) .nil))) (.cons (.var 1) .nil))) .nil) (.var 3))) S.nil)
noncomputable def d_in_way : List D → Rs D := runDef ⟨[(2, d_is_less), (2, d_apart)], []⟩ 5 b_in_way
def c_in_way (xs : List Str) : Nm := ⟨["walls", "reach", "piece", "number", "wall"], ["is_less", "apart"], [], xs, 0⟩
def b_is_way : S := (.cons (.exp (.call 0 (.cons (.var 0) (.cons (.var 1) .nil)))) (.cons (.if_ (.or (.cmp .Eq (.var 4) (.lst E.nil)) (.or (.cmp .NotEq (.ix (.var 4) (.int 0)) (.var 2)) (.cmp .NotEq (.ix (.var 4) (.neg (.int 1))) (.var 3)))) (.cons (.ret (.bl false)) S.nil) S.nil) (.cons (.asg (.name 5) (.bin .Add (.lzip (.var 4) (.sl (.var 4) (.cons (.int 1) .nil) .nil)) (.lst (.cons (.tup (.cons (.var 2) (.cons (.var 2) .nil))) .nil)))) (.cons (.ret (.bi .all (.cons (.comp [("piece", 6)] (.name 6) (.iseq (.var 5)) .nil (.cmp .Eq (.call 1 (.cons (.var 0) (.cons (.var 1) (.cons (.var 6) .nil)))) (.lst E.nil))) .nil))) S.nil))))
noncomputable def d_is_way : List D → Rs D := runDef ⟨[(2, d_need_walls), (3, d_in_way)], []⟩ 7 b_is_way
def c_is_way (xs : List Str) : Nm := ⟨["walls", "reach", "start", "goal", "points", "pieces", "piece"], ["need_walls", "in_way"], [], xs, 0⟩
def b__law_cell : S := (.cons (.if_ (.cmp .Eq (.var 0) (.lst E.nil)) (.cons (.ret (.bin .Mult (.var 1) (.int 7919))) S.nil) S.nil) (.cons (.ret (.bin .Add (.ix (.var 0) (.bin .Mod (.var 1) (.bi .len (.cons (.var 0) .nil)))) (.bin .Mult (.bin .FloorDiv (.var 1) (.bi .len (.cons (.var 0) .nil))) (.int 104729)))) S.nil))
noncomputable def d__law_cell : List D → Rs D := runDef ⟨[], []⟩ 2 b__law_cell
def c__law_cell (xs : List Str) : Nm := ⟨["script", "k"], [], [], xs, 0⟩
def b__law_drawn : S := (.cons (.asg (.name 2) (.bin .Mod (.bin .Add (.bin .Mult (.var 0) (.int 6364136223846793005)) (.bin .Mult (.bin .Add (.var 1) (.int 1)) (.int 1442695040888963407))) (.int 340282366920938463463374607431768211507))) (.cons (.asg (.name 2) (.bin .Mod (.bin .Mult (.var 2) (.var 2)) (.int 340282366920938463463374607431768211297))) (.cons (.asg (.name 2) (.bin .Mult (.bin .Mult (.bin .Add (.bin .Mod (.var 2) (.int 18446744073709551557)) (.int 1)) (.bin .Add (.bin .FloorDiv (.var 2) (.int 18446744073709551557)) (.int 1))) (.var 2))) (.cons (.ret (.bin .Mod (.var 2) (.int 340282366920938463463374607431768211507))) S.nil))))
noncomputable def d__law_drawn : List D → Rs D := runDef ⟨[], []⟩ 3 b__law_drawn
def c__law_drawn (xs : List Str) : Nm := ⟨["cell", "k", "more"], [], [], xs, 0⟩
def b__law_made : S := (.cons (.par 2 3 (.bi .abs (.cons (.var 0) .nil)) (.var 1)) (.cons (.while_ (.cmp .Gt (.var 3) (.int 0)) (.cons (.par 2 3 (.var 3) (.bin .Mod (.var 2) (.var 3))) S.nil)) (.cons (.ret (.tup (.cons (.bin .FloorDiv (.var 0) (.var 2)) (.cons (.bin .FloorDiv (.var 1) (.var 2)) .nil)))) S.nil)))
noncomputable def d__law_made : List D → Rs D := runDef ⟨[], []⟩ 4 b__law_made
def c__law_made (xs : List Str) : Nm := ⟨["top", "under", "one", "other"], [], [], xs, 0⟩
def b__law_less : S := (.cons (.ret (.cmp .Lt (.bin .Mult (.ix (.var 0) (.int 0)) (.ix (.var 1) (.int 1))) (.bin .Mult (.ix (.var 1) (.int 0)) (.ix (.var 0) (.int 1))))) S.nil)
noncomputable def d__law_less : List D → Rs D := runDef ⟨[], []⟩ 2 b__law_less
def c__law_less (xs : List Str) : Nm := ⟨["one", "other"], [], [], xs, 0⟩
def b__law_minus : S := (.cons (.ret (.call 0 (.cons (.bin .Sub (.bin .Mult (.ix (.var 0) (.int 0)) (.ix (.var 1) (.int 1))) (.bin .Mult (.ix (.var 1) (.int 0)) (.ix (.var 0) (.int 1)))) (.cons (.bin .Mult (.ix (.var 0) (.int 1)) (.ix (.var 1) (.int 1))) .nil)))) S.nil)
noncomputable def d__law_minus : List D → Rs D := runDef ⟨[(2, d__law_made)], []⟩ 2 b__law_minus
def c__law_minus (xs : List Str) : Nm := ⟨["one", "other"], ["_law_made"], [], xs, 0⟩
def b__law_times : S := (.cons (.ret (.call 0 (.cons (.bin .Mult (.ix (.var 0) (.int 0)) (.ix (.var 1) (.int 0))) (.cons (.bin .Mult (.ix (.var 0) (.int 1)) (.ix (.var 1) (.int 1))) .nil)))) S.nil)
noncomputable def d__law_times : List D → Rs D := runDef ⟨[(2, d__law_made)], []⟩ 2 b__law_times
def c__law_times (xs : List Str) : Nm := ⟨["one", "other"], ["_law_made"], [], xs, 0⟩
def b__law_plus : S := (.cons (.ret (.call 0 (.cons (.bin .Add (.bin .Mult (.ix (.var 0) (.int 0)) (.ix (.var 1) (.int 1))) (.bin .Mult (.ix (.var 1) (.int 0)) (.ix (.var 0) (.int 1)))) (.cons (.bin .Mult (.ix (.var 0) (.int 1)) (.ix (.var 1) (.int 1))) .nil)))) S.nil)
noncomputable def d__law_plus : List D → Rs D := runDef ⟨[(2, d__law_made)], []⟩ 2 b__law_plus
def c__law_plus (xs : List Str) : Nm := ⟨["one", "other"], ["_law_made"], [], xs, 0⟩
def b__law_gone : S := (.cons (.ret (.tup (.cons (.call 0 (.cons (.ix (.var 1) (.int 0)) (.cons (.ix (.var 0) (.int 0)) .nil))) (.cons (.call 0 (.cons (.ix (.var 1) (.int 1)) (.cons (.ix (.var 0) (.int 1)) .nil))) .nil)))) S.nil)
noncomputable def d__law_gone : List D → Rs D := runDef ⟨[(2, d__law_minus)], []⟩ 2 b__law_gone
def c__law_gone (xs : List Str) : Nm := ⟨["one", "other"], ["_law_minus"], [], xs, 0⟩
def b__law_inner : S := (.cons (.ret (.call 0 (.cons (.call 1 (.cons (.ix (.var 0) (.int 0)) (.cons (.ix (.var 1) (.int 0)) .nil))) (.cons (.call 1 (.cons (.ix (.var 0) (.int 1)) (.cons (.ix (.var 1) (.int 1)) .nil))) .nil)))) S.nil)
noncomputable def d__law_inner : List D → Rs D := runDef ⟨[(2, d__law_plus), (2, d__law_times)], []⟩ 2 b__law_inner
def c__law_inner (xs : List Str) : Nm := ⟨["one", "other"], ["_law_plus", "_law_times"], [], xs, 0⟩
def b__law_across : S := (.cons (.ret (.call 0 (.cons (.call 1 (.cons (.ix (.var 0) (.int 0)) (.cons (.ix (.var 1) (.int 1)) .nil))) (.cons (.call 1 (.cons (.ix (.var 0) (.int 1)) (.cons (.ix (.var 1) (.int 0)) .nil))) .nil)))) S.nil)
noncomputable def d__law_across : List D → Rs D := runDef ⟨[(2, d__law_minus), (2, d__law_times)], []⟩ 2 b__law_across
def c__law_across (xs : List Str) : Nm := ⟨["one", "other"], ["_law_minus", "_law_times"], [], xs, 0⟩
def b__law_square : S := (.cons (.ret (.call 0 (.cons (.call 1 (.cons (.var 0) (.cons (.var 1) .nil))) (.cons (.call 1 (.cons (.var 0) (.cons (.var 1) .nil))) .nil)))) S.nil)
noncomputable def d__law_square : List D → Rs D := runDef ⟨[(2, d__law_inner), (2, d__law_gone)], []⟩ 2 b__law_square
def c__law_square (xs : List Str) : Nm := ⟨["one", "other"], ["_law_inner", "_law_gone"], [], xs, 0⟩
def b__law_to_fence : S := (.cons (.asg (.name 2) (.call 0 (.cons (.ix (.var 0) (.int 0)) (.cons (.ix (.var 0) (.int 1)) .nil)))) (.cons (.asg (.name 3) (.call 1 (.cons (.var 2) (.cons (.var 2) .nil)))) (.cons (.asg (.name 4) (.call 1 (.cons (.var 2) (.cons (.call 0 (.cons (.ix (.var 0) (.int 0)) (.cons (.var 1) .nil))) .nil)))) (.cons (.if_ (.or (.cmp .Eq (.ix (.var 3) (.int 0)) (.int 0)) (.cmp .LtE (.ix (.var 4) (.int 0)) (.int 0))) (.cons (.ret (.call 2 (.cons (.ix (.var 0) (.int 0)) (.cons (.var 1) .nil)))) S.nil) S.nil) (.cons (.if_ (.not (.call 3 (.cons (.var 4) (.cons (.var 3) .nil)))) (.cons (.ret (.call 2 (.cons (.ix (.var 0) (.int 1)) (.cons (.var 1) .nil)))) S.nil) S.nil) (.cons (.asg (.name 5) (.call 4 (.cons (.var 2) (.cons (.call 0 (.cons (.ix (.var 0) (.int 0)) (.cons (.var 1) .nil))) .nil)))) (.cons (.asg (.name 5) (.call 5 (.cons (.var 5) (.cons (.var 5) .nil)))) (.cons (.ret (.call 6 (.cons (.bin .Mult (.ix (.var 5) (.int 0)) (.ix (.var 3) (.int 1))) (.cons (.bin .Mult (.ix (.var 5) (.int 1)) (.ix (.var 3) (.int 0))) .nil)))) S.nil))))))))
noncomputable def d__law_to_fence : List D → Rs D := runDef ⟨[(2, d__law_gone), (2, d__law_inner), (2, d__law_square), (2, d__law_less), (2, d__law_across), (2, d__law_times), (2, d__law_made)], []⟩ 6 b__law_to_fence
def c__law_to_fence (xs : List Str) : Nm := ⟨["fence", "point", "gone", "whole", "share", "side"], ["_law_gone", "_law_inner", "_law_square", "_law_less", "_law_across", "_law_times", "_law_made"], [], xs, 0⟩
def b__law_sense : S := (.cons (.asg (.name 3) (.ix (.call 0 (.cons (.call 1 (.cons (.var 0) (.cons (.var 1) .nil))) (.cons (.call 1 (.cons (.var 0) (.cons (.var 2) .nil))) .nil))) (.int 0))) (.cons (.ret (.bin .Sub (.bi .int (.cons (.cmp .Gt (.var 3) (.int 0)) .nil)) (.bi .int (.cons (.cmp .Lt (.var 3) (.int 0)) .nil)))) S.nil))
noncomputable def d__law_sense : List D → Rs D := runDef ⟨[(2, d__law_across), (2, d__law_gone)], []⟩ 4 b__law_sense
def c__law_sense (xs : List Str) : Nm := ⟨["one", "other", "third", "found"], ["_law_across", "_law_gone"], [], xs, 0⟩
def b__law_touch : S := (.cons (.asg (.name 2) (.comp [("end", 5)] (.name 5) (.iseq (.var 1)) .nil (.call 0 (.cons (.var 0) (.cons (.var 5) .nil))))) (.cons (.if_ (.cmp .In (.tup (.cons (.int 0) (.cons (.int 1) .nil))) (.bin .Add (.var 2) (.comp [("end", 5)] (.name 5) (.iseq (.var 0)) .nil (.call 0 (.cons (.var 1) (.cons (.var 5) .nil)))))) (.cons (.ret (.bl true)) S.nil) S.nil) (.cons (.asg (.name 3) (.bin .Mult (.call 1 (.cons (.ix (.var 0) (.int 0)) (.cons (.ix (.var 0) (.int 1)) (.cons (.ix (.var 1) (.int 0)) .nil)))) (.call 1 (.cons (.ix (.var 0) (.int 0)) (.cons (.ix (.var 0) (.int 1)) (.cons (.ix (.var 1) (.int 1)) .nil)))))) (.cons (.asg (.name 4) (.bin .Mult (.call 1 (.cons (.ix (.var 1) (.int 0)) (.cons (.ix (.var 1) (.int 1)) (.cons (.ix (.var 0) (.int 0)) .nil)))) (.call 1 (.cons (.ix (.var 1) (.int 0)) (.cons (.ix (.var 1) (.int 1)) (.cons (.ix (.var 0) (.int 1)) .nil)))))) (.cons (.ret (.and (.cmp .Lt (.var 3) (.int 0)) (.cmp .Lt (.var 4) (.int 0)))) S.nil)))))
noncomputable def d__law_touch : List D → Rs D := runDef ⟨[(2, d__law_to_fence), (3, d__law_sense)], []⟩ 6 b__law_touch
def c__law_touch (xs : List Str) : Nm := ⟨["one", "other", "some", "first", "second", "end"], ["_law_to_fence", "_law_sense"], [], xs, 0⟩
def b__law_apart : S := (.cons (.if_ (.call 0 (.cons (.var 0) (.cons (.var 1) .nil))) (.cons (.ret (.tup (.cons (.int 0) (.cons (.int 1) .nil)))) S.nil) S.nil) (.cons (.asg (.name 2) (.comp [("end", 5)] (.name 5) (.iseq (.var 1)) .nil (.call 1 (.cons (.var 0) (.cons (.var 5) .nil))))) (.cons (.asg (.name 2) (.bin .Add (.var 2) (.comp [("end", 5)] (.name 5) (.iseq (.var 0)) .nil (.call 1 (.cons (.var 1) (.cons (.var 5) .nil)))))) (.cons (.asg (.name 3) (.ix (.var 2) (.int 0))) (.cons (.for_ (.name 4) (.iseq (.var 2)) (.cons (.asg (.name 3) (.ix (.lst (.cons (.var 3) (.cons (.var 4) .nil))) (.bi .int (.cons (.call 2 (.cons (.var 4) (.cons (.var 3) .nil))) .nil)))) S.nil)) (.cons (.ret (.var 3)) S.nil))))))
noncomputable def d__law_apart : List D → Rs D := runDef ⟨[(2, d__law_touch), (2, d__law_to_fence), (2, d__law_less)], []⟩ 6 b__law_apart
def c__law_apart (xs : List Str) : Nm := ⟨["one", "other", "some", "found", "here", "end"], ["_law_touch", "_law_to_fence", "_law_less"], [], xs, 0⟩
def b__law_point : S := (.cons (.asg (.name 1) (.ix (.lst (.cons (.int 1) (.cons (.int 1) (.cons (.int 1) (.cons (.int 2) (.cons (.int 3) .nil)))))) (.bin .Mod (.bin .FloorDiv (.var 0) (.bin .Pow (.int 2) (.int 20))) (.int 5)))) (.cons (.ret (.tup (.cons (.call 0 (.cons (.bin .Sub (.bin .Mod (.var 0) (.int 25)) (.int 12)) (.cons (.var 1) .nil))) (.cons (.call 0 (.cons (.bin .Sub (.bin .Mod (.bin .FloorDiv (.var 0) (.int 32)) (.int 25)) (.int 12)) (.cons (.var 1) .nil))) .nil)))) S.nil))
noncomputable def d__law_point : List D → Rs D := runDef ⟨[(2, d__law_made)], []⟩ 2 b__law_point
def c__law_point (xs : List Str) : Nm := ⟨["more", "under"], ["_law_made"], [], xs, 0⟩
def b__law_one_fence : S := (.cons (.asg (.name 1) (.tup (.cons (.call 0 (.cons (.bin .Sub (.bin .Mod (.var 0) (.int 21)) (.int 10)) (.cons (.int 1) .nil))) (.cons (.call 0 (.cons (.bin .Sub (.bin .Mod (.bin .FloorDiv (.var 0) (.int 32)) (.int 21)) (.int 10)) (.cons (.int 1) .nil))) .nil)))) (.cons (.if_ (.cmp .Eq (.bin .Mod (.bin .FloorDiv (.var 0) (.int 1024)) (.int 6)) (.int 0)) (.cons (.ret (.tup (.cons (.var 1) (.cons (.var 1) .nil)))) S.nil) S.nil) (.cons (.asg (.name 2) (.bin .Sub (.bin .Add (.ix (.ix (.var 1) (.int 0)) (.int 0)) (.bin .Mod (.bin .FloorDiv (.var 0) (.int 8192)) (.int 17))) (.int 8))) (.cons (.asg (.name 3) (.bin .Add (.ix (.ix (.var 1) (.int 1)) (.int 0)) (.ix (.lst (.cons (.int 0) (.cons (.bin .Sub (.bin .Mod (.bin .FloorDiv (.var 0) (.bin .Pow (.int 2) (.int 18))) (.int 17)) (.int 8)) .nil))) (.bi .int (.cons (.cmp .Gt (.bin .Mod (.bin .FloorDiv (.var 0) (.bin .Pow (.int 2) (.int 23))) (.int 4)) (.int 0)) .nil))))) (.cons (.ret (.tup (.cons (.var 1) (.cons (.tup (.cons (.call 0 (.cons (.var 2) (.cons (.int 1) .nil))) (.cons (.call 0 (.cons (.var 3) (.cons (.int 1) .nil))) .nil))) .nil)))) S.nil)))))
noncomputable def d__law_one_fence : List D → Rs D := runDef ⟨[(2, d__law_made)], []⟩ 4 b__law_one_fence
def c__law_one_fence (xs : List Str) : Nm := ⟨["more", "one", "x", "y"], ["_law_made"], [], xs, 0⟩
def b__law_fences : S := (.cons (.ret (.comp [("j", 2)] (.name 2) (.irange (.cons (.bin .Mod (.var 0) (.bin .Add (.var 1) (.int 1))) .nil)) .nil (.call 0 (.cons (.call 1 (.cons (.var 0) (.cons (.var 2) .nil))) .nil)))) S.nil)
noncomputable def d__law_fences : List D → Rs D := runDef ⟨[(1, d__law_one_fence), (2, d__law_drawn)], []⟩ 3 b__law_fences
def c__law_fences (xs : List Str) : Nm := ⟨["more", "most", "j"], ["_law_one_fence", "_law_drawn"], [], xs, 0⟩
def b__law_reach : S := (.cons (.asg (.name 1) (.ix (.lst (.cons (.int 1) (.cons (.int 2) (.cons (.int 3) (.cons (.int 4) (.cons (.int 9) (.cons (.int 25) (.cons (.bin .Add (.int 1) (.bin .Mod (.bin .FloorDiv (.var 0) (.int 64)) (.int 40))) .nil)))))))) (.bin .Mod (.bin .FloorDiv (.var 0) (.int 8)) (.int 7)))) (.cons (.ret (.call 0 (.cons (.var 1) (.cons (.ix (.lst (.cons (.int 1) (.cons (.int 1) (.cons (.int 4) (.cons (.int 2) .nil))))) (.bin .Mod (.bin .FloorDiv (.var 0) (.bin .Pow (.int 2) (.int 12))) (.int 4))) .nil)))) S.nil))
noncomputable def d__law_reach : List D → Rs D := runDef ⟨[(2, d__law_made)], []⟩ 2 b__law_reach
def c__law_reach (xs : List Str) : Nm := ⟨["more", "above"], ["_law_made"], [], xs, 0⟩
def b__law_is_way : S := (.cons (.if_ (.or (.cmp .Eq (.var 4) (.lst E.nil)) (.or (.cmp .NotEq (.ix (.var 4) (.int 0)) (.var 2)) (.cmp .NotEq (.ix (.var 4) (.neg (.int 1))) (.var 3)))) (.cons (.ret (.bl false)) S.nil) S.nil) (.cons (.for_ (.name 5) (.iseq (.var 0)) (.cons (.if_ (.bi .any (.cons (.comp [("point", 6)] (.name 6) (.iseq (.var 4)) .nil (.call 0 (.cons (.call 1 (.cons (.var 5) (.cons (.var 6) .nil))) (.cons (.var 1) .nil)))) .nil)) (.cons (.ret (.bl false)) S.nil) S.nil) (.cons (.if_ (.bi .any (.cons (.comp [("piece", 7)] (.name 7) (.izip (.var 4) (.sl (.var 4) (.cons (.int 1) .nil) .nil)) .nil (.call 0 (.cons (.call 2 (.cons (.var 5) (.cons (.var 7) .nil))) (.cons (.var 1) .nil)))) .nil)) (.cons (.ret (.bl false)) S.nil) S.nil) S.nil))) (.cons (.ret (.bl true)) S.nil)))
noncomputable def d__law_is_way : List D → Rs D := runDef ⟨[(2, d__law_less), (2, d__law_to_fence), (2, d__law_apart)], []⟩ 8 b__law_is_way
def c__law_is_way (xs : List Str) : Nm := ⟨["fences", "reach", "start", "goal", "points", "fence", "point", "piece"], ["_law_less", "_law_to_fence", "_law_apart"], [], xs, 0⟩
def b_law : S := (.cons (.for_ (.name 1) (.irange (.cons (.bi .max (.cons (.int 1) (.cons (.bi .min (.cons (.int 4) (.cons (.bi .len (.cons (.var 0) .nil)) .nil))) .nil))) .nil)) (.cons (.asg (.name 2) (.call 0 (.cons (.call 1 (.cons (.var 0) (.cons (.var 1) .nil))) (.cons (.var 1) .nil)))) (.cons (.asg (.name 3) (.call 2 (.cons (.var 2) (.cons (.int 5) .nil)))) (.cons (.asg (.name 4) (.call 3 (.cons (.bin .FloorDiv (.var 2) (.int 64)) .nil))) (.cons (.asg (.name 5) (.comp [("j", 14)] (.name 14) (.irange (.cons (.bin .Add (.int 1) (.bin .Mod (.bin .FloorDiv (.var 2) (.int 512)) (.int 4))) .nil)) .nil (.call 4 (.cons (.call 0 (.cons (.var 2) (.cons (.bin .Add (.int 30) (.var 14)) .nil))) .nil)))) (.cons (.asg (.tup (.cons (.name 6) (.cons (.name 7) Mn.T.nil))) (.tup (.cons (.ix (.var 5) (.int 0)) (.cons (.ix (.var 5) (.neg (.int 1))) .nil)))) (.cons (.asg (.name 8) (.call 4 (.cons (.call 0 (.cons (.var 2) (.cons (.int 40) .nil))) .nil))) (.cons (.asg (.name 9) (.lst (.cons (.var 5) (.cons (.rev (.var 5)) (.cons (.bin .Add (.var 5) (.lst (.cons (.var 8) .nil))) (.cons (.bin .Add (.lst (.cons (.var 8) .nil)) (.var 5)) .nil)))))) (.cons (.asg (.name 9) (.bin .Add (.var 9) (.lst (.cons (.lst E.nil) (.cons (.lst (.cons (.var 6) .nil)) .nil))))) (.cons (.asg (.name 9) (.bin .Add (.var 9) (.lst (.cons (.lst (.cons (.var 6) (.cons (.var 7) .nil))) (.cons (.lst (.cons (.var 6) (.cons (.var 8) (.cons (.var 7) .nil)))) .nil))))) (.cons (.for_ (.name 10) (.iseq (.bin .Add (.var 9) (.lst (.cons (.lst (.cons (.var 6) (.cons (.var 6) .nil))) (.cons (.bin .Mult (.var 5) (.int 2)) .nil))))) (.cons (.asg (.name 12) (.call 5 (.cons (.var 3) (.cons (.var 4) (.cons (.var 6) (.cons (.var 7) (.cons (.var 10) .nil))))))) (.cons (.asg (.name 13) (.call 6 (.cons (.var 3) (.cons (.var 4) (.cons (.var 6) (.cons (.var 7) (.cons (.var 10) .nil))))))) (.cons (.if_ (.or (.not (.isi (.var 12) 0)) (.cmp .NotEq (.var 12) (.var 13))) (.cons (.ret (.bl false)) S.nil) S.nil) S.nil)))) (.cons (.asg (.name 11) (.tup (.cons (.var 6) (.cons (.var 6) .nil)))) (.cons (.if_ (.cmp .NotEq (.told 4 (.call 5 (.cons (.bin .Mult (.lst (.cons (.var 11) .nil)) (.int 41)) (.cons (.tup (.cons (.int 0) (.cons (.int 1) .nil))) (.cons (.var 6) (.cons (.var 7) (.cons (.var 5) .nil))))))) (.str "BadReach")) (.cons (.ret (.bl false)) S.nil) S.nil) (.cons (.if_ (.cmp .NotEq (.told 4 (.call 5 (.cons (.bin .Mult (.lst (.cons (.var 11) .nil)) (.int 41)) (.cons (.var 4) (.cons (.var 6) (.cons (.var 7) (.cons (.var 5) .nil))))))) (.str "TooMany")) (.cons (.ret (.bl false)) S.nil) S.nil) S.nil)))))))))))))) (.cons (.ret (.bl true)) S.nil))
noncomputable def d_law : List D → Rs D := runDef ⟨[(2, d__law_drawn), (2, d__law_cell), (2, d__law_fences), (1, d__law_reach), (1, d__law_point), (5, d_is_way), (5, d__law_is_way)], []⟩ 15 b_law
def c_law (xs : List Str) : Nm := ⟨["script", "k", "more", "fences", "reach", "points", "start", "goal", "other", "some", "row", "post", "told", "due", "j"], ["_law_drawn", "_law_cell", "_law_fences", "_law_reach", "_law_point", "is_way", "_law_is_way"], [], xs, 4⟩
end Mn
/-! points and walls over the rational numbers: the plain law -/
namespace Mn
abbrev Pt := Rat × Rat
abbrev Wl := Pt × Pt
def vec (p q : Pt) : Pt := (q.1 - p.1, q.2 - p.2)
def dot (p q : Pt) : Rat := p.1 * q.1 + p.2 * q.2
def crs (p q : Pt) : Rat := p.1 * q.2 - p.2 * q.1
def far (p q : Pt) : Rat := dot (vec p q) (vec p q)
def sgn (q : Rat) : Int := (if 0 < q then 1 else 0) - (if q < 0 then 1 else 0)
def at_ (w : Wl) (t : Rat) : Pt := (w.1.1 + t * (vec w.1 w.2).1, w.1.2 + t * (vec w.1 w.2).2)
def nearR (w : Wl) (p : Pt) : Pt :=
  if dot (vec w.1 w.2) (vec w.1 w.2) = 0 then w.1
  else if dot (vec w.1 w.2) (vec w.1 p) / dot (vec w.1 w.2) (vec w.1 w.2) < 0 then w.1
  else if 1 < dot (vec w.1 w.2) (vec w.1 p) / dot (vec w.1 w.2) (vec w.1 w.2) then w.2
  else at_ w (dot (vec w.1 w.2) (vec w.1 p) / dot (vec w.1 w.2) (vec w.1 w.2))
def toF (w : Wl) (p : Pt) : Rat :=
  if dot (vec w.1 w.2) (vec w.1 w.2) = 0 ∨ dot (vec w.1 w.2) (vec w.1 p) ≤ 0 then far w.1 p
  else if ¬ dot (vec w.1 w.2) (vec w.1 p) < dot (vec w.1 w.2) (vec w.1 w.2) then far w.2 p
  else crs (vec w.1 w.2) (vec w.1 p) * crs (vec w.1 w.2) (vec w.1 p) / dot (vec w.1 w.2) (vec w.1 w.2)
def shr (u v : Wl) : Rat := crs (vec u.1 v.1) (vec v.1 v.2) / crs (vec u.1 u.2) (vec v.1 v.2)
def shs (u v : Wl) : Rat := crs (vec u.1 v.1) (vec u.1 u.2) / crs (vec u.1 u.2) (vec v.1 v.2)
def outR (t : Rat) : Bool := decide (t < 0) || decide (1 < t)
def crossR (u v : Wl) : Option Pt :=
  if crs (vec u.1 u.2) (vec v.1 v.2) = 0 then none
  else if outR (shr u v) || outR (shs u v) then none
  else some (at_ u (shr u v))
theorem sq_nn (a : Rat) : 0 ≤ a * a := by
  rcases Rat.le_total (a := 0) (b := a) with h | h
  · exact Rat.mul_nonneg h h
  · have h2 : 0 ≤ -a := by grind
    have := Rat.mul_nonneg h2 h2
    grind
theorem sq_zero {a : Rat} (h : a * a = 0) : a = 0 := by
  rcases Rat.mul_eq_zero.mp h with h | h <;> exact h
theorem mul_pos {a b : Rat} (h : 0 < a) (h2 : 0 < b) : 0 < a * b := Rat.mul_pos h h2
theorem dot_nn (p : Pt) : 0 ≤ dot p p := by
  have h1 := sq_nn p.1
  have h2 := sq_nn p.2
  unfold dot; grind
theorem dot_zero {p : Pt} (h : dot p p = 0) : p.1 = 0 ∧ p.2 = 0 := by
  have h1 := sq_nn p.1
  have h2 := sq_nn p.2
  unfold dot at h
  exact ⟨sq_zero (by grind), sq_zero (by grind)⟩
theorem far_nn (p q : Pt) : 0 ≤ far p q := dot_nn _
theorem far_zero {p q : Pt} (h : far p q = 0) : p = q := by
  obtain ⟨h1, h2⟩ := dot_zero h
  unfold vec at h1 h2
  apply Prod.ext <;> grind
theorem far_self (p : Pt) : far p p = 0 := by unfold far dot vec; grind
theorem far_comm (p q : Pt) : far p q = far q p := by unfold far dot vec; grind
theorem at_0 (w : Wl) : at_ w 0 = w.1 := by unfold at_; apply Prod.ext <;> grind
theorem at_1 (w : Wl) : at_ w 1 = w.2 := by unfold at_ vec; apply Prod.ext <;> grind
theorem at_deg {w : Wl} (h : dot (vec w.1 w.2) (vec w.1 w.2) = 0) (t : Rat) : at_ w t = w.1 := by
  obtain ⟨h1, h2⟩ := dot_zero h
  unfold at_
  rw [h1, h2]
  apply Prod.ext <;> grind
/-- the way to a point of the wall -/
theorem far_at (w : Wl) (p : Pt) (t : Rat) : far (at_ w t) p = far w.1 p - 2 * t * dot (vec w.1 w.2) (vec w.1 p) + t * t * dot (vec w.1 w.2) (vec w.1 w.2) := by
  unfold far at_ dot vec; grind
/-- Lagrange -/
theorem lagr (p q : Pt) : dot p p * dot q q = dot p q * dot p q + crs p q * crs p q := by
  unfold dot crs; grind
theorem div_lt_zero {a b : Rat} (hb : 0 < b) : a / b < 0 ↔ a < 0 := by
  rw [Rat.div_lt_iff hb]; constructor <;> intro h <;> grind
theorem one_lt_div {a b : Rat} (hb : 0 < b) : 1 < a / b ↔ b < a := by
  rw [Rat.lt_div_iff hb]; constructor <;> intro h <;> grind
theorem whole_pos {w : Wl} (h : ¬ dot (vec w.1 w.2) (vec w.1 w.2) = 0) : 0 < dot (vec w.1 w.2) (vec w.1 w.2) := by
  have := dot_nn (vec w.1 w.2)
  grind
/-- the nearest point lies on the wall -/
theorem near_at (w : Wl) (p : Pt) : ∃ t, 0 ≤ t ∧ t ≤ 1 ∧ nearR w p = at_ w t := by
  unfold nearR
  split
  · exact ⟨0, by grind, by grind, (at_0 w).symm⟩
  · split
    · exact ⟨0, by grind, by grind, (at_0 w).symm⟩
    · split
      · exact ⟨1, by grind, by grind, (at_1 w).symm⟩
      · exact ⟨_, by grind, by grind, rfl⟩
/-- .. as far as the law says -/
theorem near_far (w : Wl) (p : Pt) : far (nearR w p) p = toF w p := by
  unfold nearR toF
  by_cases h0 : dot (vec w.1 w.2) (vec w.1 w.2) = 0
  · rw [if_pos h0, if_pos (Or.inl h0)]
  · have hp := whole_pos h0
    rw [if_neg h0]
    simp only [div_lt_zero hp, one_lt_div hp]
    by_cases h1 : dot (vec w.1 w.2) (vec w.1 p) < 0
    · rw [if_pos h1, if_pos (Or.inr (by grind))]
    · rw [if_neg h1]
      by_cases h2 : dot (vec w.1 w.2) (vec w.1 w.2) < dot (vec w.1 w.2) (vec w.1 p)
      · rw [if_pos h2, if_neg (by grind), if_pos (by grind)]
      · rw [if_neg h2]
        have hl := lagr (vec w.1 w.2) (vec w.1 p)
        have key : far (at_ w (dot (vec w.1 w.2) (vec w.1 p) / dot (vec w.1 w.2) (vec w.1 w.2))) p = crs (vec w.1 w.2) (vec w.1 p) * crs (vec w.1 w.2) (vec w.1 p) / dot (vec w.1 w.2) (vec w.1 w.2) := by
          rw [far_at]
          unfold far
          generalize dot (vec w.1 w.2) (vec w.1 p) = s at *
          generalize dot (vec w.1 w.2) (vec w.1 w.2) = g at *
          generalize dot (vec w.1 p) (vec w.1 p) = f at *
          generalize crs (vec w.1 w.2) (vec w.1 p) = c at *
          grind
        by_cases h3 : dot (vec w.1 w.2) (vec w.1 p) ≤ 0
        · rw [if_pos (Or.inr h3)]
          have : dot (vec w.1 w.2) (vec w.1 p) = 0 := by grind
          rw [this, show (0 : Rat) / dot (vec w.1 w.2) (vec w.1 w.2) = 0 by grind, at_0]
        · rw [if_neg (by grind)]
          by_cases h4 : dot (vec w.1 w.2) (vec w.1 p) < dot (vec w.1 w.2) (vec w.1 w.2)
          · rw [if_neg (by grind)]
            exact key
          · rw [if_pos h4]
            have : dot (vec w.1 w.2) (vec w.1 p) = dot (vec w.1 w.2) (vec w.1 w.2) := by grind
            rw [this, show dot (vec w.1 w.2) (vec w.1 w.2) / dot (vec w.1 w.2) (vec w.1 w.2) = 1 by grind, at_1]
theorem toF_nn (w : Wl) (p : Pt) : 0 ≤ toF w p := by rw [← near_far]; exact far_nn _ _
/-- no point of the wall is nearer -/
theorem toF_le (w : Wl) (p : Pt) {t : Rat} (h0 : 0 ≤ t) (h1 : t ≤ 1) : toF w p ≤ far (at_ w t) p := by
  rw [far_at]
  unfold toF
  split
  · rename_i h
    rcases h with h | h
    · have hz := dot_zero h
      have h3 : dot (vec w.1 w.2) (vec w.1 p) = 0 := by unfold dot; rw [hz.1, hz.2]; grind
      rw [h, h3]; grind
    · have h3 := Rat.mul_nonneg h0 (show 0 ≤ -dot (vec w.1 w.2) (vec w.1 p) by grind)
      have h4 := Rat.mul_nonneg (sq_nn t) (dot_nn (vec w.1 w.2))
      grind
  · rename_i hn
    split
    · rename_i h
      have e : far w.2 p = far w.1 p - 2 * dot (vec w.1 w.2) (vec w.1 p) + dot (vec w.1 w.2) (vec w.1 w.2) := by
        rw [← at_1 w, far_at]
        simp only [at_1]
        grind
      rw [e]
      generalize dot (vec w.1 w.2) (vec w.1 p) = s at *
      generalize hg : dot (vec w.1 w.2) (vec w.1 w.2) = g at *
      have hg0 : 0 ≤ g := by rw [← hg]; exact dot_nn _
      have h3 := Rat.mul_nonneg (show 0 ≤ 1 - t by grind) (show 0 ≤ s - g by grind)
      have h4 := Rat.mul_nonneg (sq_nn (1 - t)) hg0
      grind
    · have hl := lagr (vec w.1 w.2) (vec w.1 p)
      have hp := whole_pos (w := w) (by grind)
      unfold far
      generalize dot (vec w.1 w.2) (vec w.1 p) = s at *
      generalize dot (vec w.1 w.2) (vec w.1 w.2) = g at *
      generalize dot (vec w.1 p) (vec w.1 p) = f at *
      generalize crs (vec w.1 w.2) (vec w.1 p) = c at *
      have h4 := sq_nn (s - t * g)
      have h5 : c * c / g * g = c * c := by grind
      rcases Rat.le_total (a := c * c / g) (b := f - 2 * t * s + t * t * g) with h6 | h6
      · exact h6
      · have h7 : 0 ≤ (c * c / g - (f - 2 * t * s + t * t * g)) * g := Rat.mul_nonneg (by grind) (by grind)
        have h8 : (c * c / g - (f - 2 * t * s + t * t * g)) * g = 0 := by grind
        rcases Rat.mul_eq_zero.mp h8 with h9 | h9 <;> grind
theorem toF_zero {w : Wl} {p : Pt} : toF w p = 0 ↔ ∃ t, 0 ≤ t ∧ t ≤ 1 ∧ p = at_ w t := by
  constructor
  · intro h
    obtain ⟨t, h0, h1, e⟩ := near_at w p
    rw [← near_far] at h
    exact ⟨t, h0, h1, by rw [← e, far_zero h]⟩
  · rintro ⟨t, h0, h1, rfl⟩
    have h2 := toF_le w (at_ w t) h0 h1
    rw [far_self] at h2
    have := toF_nn w (at_ w t)
    grind
theorem toF_near (w : Wl) (p : Pt) : toF w (nearR w p) = 0 := toF_zero.mpr (near_at w p)
theorem toF_end1 (w : Wl) : toF w w.1 = 0 := toF_zero.mpr ⟨0, by grind, by grind, (at_0 w).symm⟩
theorem toF_end2 (w : Wl) : toF w w.2 = 0 := toF_zero.mpr ⟨1, by grind, by grind, (at_1 w).symm⟩
end Mn
/-! two walls: the plain law -/
namespace Mn
def sense (p q r : Pt) : Int := sgn (crs (vec p q) (vec p r))
def dists (u v : Wl) : List Rat := [toF u v.1, toF u v.2, toF v u.1, toF v u.2]
def touchR (u v : Wl) : Bool := decide (0 ∈ dists u v) || (decide (sense u.1 u.2 v.1 * sense u.1 u.2 v.2 < 0) && decide (sense v.1 v.2 u.1 * sense v.1 v.2 u.2 < 0))
def minR (f h : Rat) : Rat := if h < f then h else f
def apartR (u v : Wl) : Rat := if touchR u v then 0 else (dists u v).foldl minR (toF u v.1)
def pickR (f h : Wl) : Wl := if far h.1 h.2 < far f.1 f.2 then h else f
def pairs (u v : Wl) : List Wl := [(u.1, nearR v u.1), (u.2, nearR v u.2), (nearR u v.1, v.1), (nearR u v.2, v.2)]
def n2R (u v : Wl) : Wl := match crossR u v with
  | some x => (x, x)
  | none => (pairs u v).foldl pickR (u.1, nearR v u.1)
theorem sgn_pos {q : Rat} (h : 0 < q) : sgn q = 1 := by unfold sgn; rw [if_pos h, if_neg (by grind)]; rfl
theorem sgn_neg {q : Rat} (h : q < 0) : sgn q = -1 := by unfold sgn; rw [if_pos h, if_neg (by grind)]; rfl
theorem sgn_zero : sgn 0 = 0 := by decide
theorem tri (q : Rat) : q < 0 ∨ q = 0 ∨ 0 < q := by
  rcases Rat.le_total (a := 0) (b := q) with h | h <;> grind
theorem sgn_mul {a b : Rat} : sgn a * sgn b < 0 ↔ a * b < 0 := by
  rcases tri a with ha | ha | ha <;> rcases tri b with hb | hb | hb
  · have := mul_pos (show 0 < -a by grind) (show 0 < -b by grind)
    rw [sgn_neg ha, sgn_neg hb]; constructor
    · intro h; omega
    · intro h; grind
  · rw [hb, sgn_zero]; simp
  · have := mul_pos (show 0 < -a by grind) hb
    rw [sgn_neg ha, sgn_pos hb]; constructor
    · intro h; grind
    · intro h; omega
  · rw [ha, sgn_zero]; simp
  · rw [ha, sgn_zero]; simp
  · rw [ha, sgn_zero]; simp
  · have := mul_pos ha (show 0 < -b by grind)
    rw [sgn_pos ha, sgn_neg hb]; constructor
    · intro h; grind
    · intro h; omega
  · rw [hb, sgn_zero]; simp
  · have := mul_pos ha hb
    rw [sgn_pos ha, sgn_pos hb]; constructor
    · intro h; omega
    · intro h; grind
/-- the two walls' lines meet there -/
theorem meet {u v : Wl} (h : crs (vec u.1 u.2) (vec v.1 v.2) ≠ 0) : at_ u (shr u v) = at_ v (shs u v) := by
  unfold shr shs at_
  generalize hc : crs (vec u.1 u.2) (vec v.1 v.2) = c at *
  apply Prod.ext
  · simp only []
    have h1 : ∀ a b : Rat, a * c = b * c → a = b := fun a b e => by
      have : (a - b) * c = 0 := by grind
      rcases Rat.mul_eq_zero.mp this with h' | h' <;> grind
    apply h1
    unfold crs vec at *
    simp only [] at *
    grind
  · simp only []
    have h1 : ∀ a b : Rat, a * c = b * c → a = b := fun a b e => by
      have : (a - b) * c = 0 := by grind
      rcases Rat.mul_eq_zero.mp this with h' | h' <;> grind
    apply h1
    unfold crs vec at *
    simp only [] at *
    grind
theorem in01 {A c : Rat} (h : A * (A + c) < 0) : c ≠ 0 ∧ 0 < -A / c ∧ -A / c < 1 := by
  have hc : c ≠ 0 := by
    intro z
    subst z
    have := sq_nn A
    grind
  have h2 := sq_nn c
  have h3 : c * c ≠ 0 := fun z => hc (sq_zero z)
  have h4 : 0 < c * c := by grind
  refine ⟨hc, ?_⟩
  generalize ht : -A / c = t
  have e : A = - t * c := by rw [← ht]; grind
  have h5 : c * c * (t * (t - 1)) < 0 := by rw [e] at h; grind
  have key : t * (t - 1) < 0 := by
    rcases tri (t * (t - 1)) with h | h | h
    · exact h
    · rw [h] at h5; grind
    · have := mul_pos h4 h; grind
  rcases tri t with h6 | h6 | h6
  · have := mul_pos (show 0 < -t by grind) (show 0 < 1 - t by grind); grind
  · subst h6; grind
  · refine ⟨h6, ?_⟩
    rcases tri (t - 1) with h7 | h7 | h7
    · grind
    · have : t = 1 := by grind
      subst this; grind
    · have := mul_pos h6 h7; grind
theorem senses (u v : Wl) : crs (vec u.1 u.2) (vec u.1 v.2) = crs (vec u.1 u.2) (vec u.1 v.1) + crs (vec u.1 u.2) (vec v.1 v.2) ∧ crs (vec v.1 v.2) (vec v.1 u.2) = crs (vec v.1 v.2) (vec v.1 u.1) + - crs (vec u.1 u.2) (vec v.1 v.2) ∧ crs (vec u.1 v.1) (vec u.1 u.2) = - crs (vec u.1 u.2) (vec u.1 v.1) ∧ crs (vec u.1 v.1) (vec v.1 v.2) = crs (vec v.1 v.2) (vec v.1 u.1) := by
  unfold crs vec
  refine ⟨?_, ?_, ?_, ?_⟩ <;> grind
theorem cross_of_strict {u v : Wl} (h1 : sense u.1 u.2 v.1 * sense u.1 u.2 v.2 < 0) (h2 : sense v.1 v.2 u.1 * sense v.1 v.2 u.2 < 0) : crossR u v ≠ none := by
  unfold sense at h1 h2
  rw [sgn_mul] at h1 h2
  obtain ⟨e1, e2, e3, e4⟩ := senses u v
  rw [e1] at h1
  rw [e2] at h2
  obtain ⟨hc, a1, a2⟩ := in01 h1
  obtain ⟨_, b1, b2⟩ := in01 h2
  unfold crossR
  rw [if_neg hc, if_neg]
  · simp
  · unfold outR shr shs
    rw [e3, e4]
    generalize crs (vec v.1 v.2) (vec v.1 u.1) = B at *
    generalize crs (vec u.1 u.2) (vec v.1 v.2) = c at *
    have e : -B / -c = B / c := by grind
    rw [e] at b1 b2
    simp
    grind
theorem cross_some {u v : Wl} {x : Pt} (h : crossR u v = some x) : crs (vec u.1 u.2) (vec v.1 v.2) ≠ 0 ∧ 0 ≤ shr u v ∧ shr u v ≤ 1 ∧ 0 ≤ shs u v ∧ shs u v ≤ 1 ∧ x = at_ u (shr u v) ∧ x = at_ v (shs u v) := by
  unfold crossR at h
  split at h
  · cases h
  · rename_i hc
    split at h
    · cases h
    · rename_i ho
      cases h
      unfold outR at ho
      simp at ho
      refine ⟨hc, by grind, by grind, by grind, by grind, rfl, meet hc⟩
theorem cross_on {u v : Wl} {x : Pt} (h : crossR u v = some x) : toF u x = 0 ∧ toF v x = 0 := by
  obtain ⟨_, a, b, c, d, e, f⟩ := cross_some h
  exact ⟨toF_zero.mpr ⟨_, a, b, e⟩, toF_zero.mpr ⟨_, c, d, f⟩⟩
theorem fracP {B c : Rat} (hc : c ≠ 0) : c * c * (B / c * (1 - B / c)) = B * (c - B) := by
  have e : B / c * c = B := by grind
  generalize B / c = s at *
  subst e
  grind
theorem touch_of_cross {u v : Wl} {x : Pt} (h : crossR u v = some x) : touchR u v = true := by
  obtain ⟨hc, a, b, c, d, e, f⟩ := cross_some h
  by_cases h0 : (0 : Rat) ∈ dists u v
  · unfold touchR; simp [h0]
  · have hx : ∀ w p, toF w p ∈ dists u v → toF w p ≠ 0 := fun w p hm z => h0 (z ▸ hm)
    have s0 : shr u v ≠ 0 := fun z => hx v u.1 (by simp [dists]) (by
      rw [z, at_0] at e
      rw [← e]; exact (cross_on h).2)
    have s1 : shr u v ≠ 1 := fun z => hx v u.2 (by simp [dists]) (by
      rw [z, at_1] at e
      rw [← e]; exact (cross_on h).2)
    have t0 : shs u v ≠ 0 := fun z => hx u v.1 (by simp [dists]) (by
      rw [z, at_0] at f
      rw [← f]; exact (cross_on h).1)
    have t1 : shs u v ≠ 1 := fun z => hx u v.2 (by simp [dists]) (by
      rw [z, at_1] at f
      rw [← f]; exact (cross_on h).1)
    have hs := mul_pos (show 0 < shr u v by grind) (show 0 < 1 - shr u v by grind)
    have ht := mul_pos (show 0 < shs u v by grind) (show 0 < 1 - shs u v by grind)
    unfold touchR
    have k : sense u.1 u.2 v.1 * sense u.1 u.2 v.2 < 0 ∧ sense v.1 v.2 u.1 * sense v.1 v.2 u.2 < 0 := by
      unfold sense
      rw [sgn_mul, sgn_mul]
      obtain ⟨e1, e2, e3, e4⟩ := senses u v
      rw [e1, e2]
      unfold shr at hs
      unfold shs at ht
      rw [e4] at hs
      rw [e3] at ht
      generalize crs (vec v.1 v.2) (vec v.1 u.1) = B at *
      generalize crs (vec u.1 u.2) (vec u.1 v.1) = A at *
      generalize crs (vec u.1 u.2) (vec v.1 v.2) = c at *
      have h3 : c * c ≠ 0 := fun z => hc (sq_zero z)
      have h4 : 0 < c * c := by have := sq_nn c; grind
      have g1 := mul_pos h4 hs
      have g2 := mul_pos h4 ht
      rw [fracP hc] at g1 g2
      clear hs ht hx h0
      constructor
      · have : A * (A + c) = - (-A * (c - -A)) := by grind
        rw [this]; grind
      · have : B * (B + -c) = - (B * (c - B)) := by grind
        rw [this]; grind
    simp [k]
theorem minR_fold : ∀ (l : List Rat) (f : Rat), (l.foldl minR f = f ∨ l.foldl minR f ∈ l) ∧ l.foldl minR f ≤ f ∧ ∀ y ∈ l, l.foldl minR f ≤ y
  | [], f => by simp
  | x :: l, f => by
    obtain ⟨h1, h2, h3⟩ := minR_fold l (minR f x)
    have e : minR f x = f ∨ minR f x = x := by unfold minR; split <;> simp
    have e2 : minR f x ≤ f ∧ minR f x ≤ x := by unfold minR; split <;> grind
    simp only [List.foldl, List.mem_cons]
    refine ⟨?_, by grind, fun y hy => ?_⟩
    · rcases h1 with h1 | h1
      · rw [h1]; rcases e with e | e <;> simp [e]
      · right; right; exact h1
    · rcases hy with rfl | hy
      · grind
      · exact h3 y hy
theorem pick_fold : ∀ (l : List Wl) (f : Wl), (l.foldl pickR f = f ∨ l.foldl pickR f ∈ l) ∧ far (l.foldl pickR f).1 (l.foldl pickR f).2 ≤ far f.1 f.2 ∧ ∀ y ∈ l, far (l.foldl pickR f).1 (l.foldl pickR f).2 ≤ far y.1 y.2
  | [], f => by simp
  | x :: l, f => by
    obtain ⟨h1, h2, h3⟩ := pick_fold l (pickR f x)
    have e : pickR f x = f ∨ pickR f x = x := by unfold pickR; split <;> simp
    have e2 : far (pickR f x).1 (pickR f x).2 ≤ far f.1 f.2 ∧ far (pickR f x).1 (pickR f x).2 ≤ far x.1 x.2 := by unfold pickR; split <;> grind
    simp only [List.foldl, List.mem_cons]
    refine ⟨?_, by grind, fun y hy => ?_⟩
    · rcases h1 with h1 | h1
      · rw [h1]; rcases e with e | e <;> simp [e]
      · right; right; exact h1
    · rcases hy with rfl | hy
      · grind
      · exact h3 y hy
theorem pairs_ok {u v : Wl} {y : Wl} (h : y ∈ pairs u v) : toF u y.1 = 0 ∧ toF v y.2 = 0 ∧ far y.1 y.2 ∈ dists u v := by
  simp only [pairs, List.mem_cons, List.not_mem_nil, or_false] at h
  rcases h with rfl | rfl | rfl | rfl
  · exact ⟨toF_end1 u, toF_near v _, by simp only [far_comm u.1, near_far]; simp [dists]⟩
  · exact ⟨toF_end2 u, toF_near v _, by simp only [far_comm u.2, near_far]; simp [dists]⟩
  · exact ⟨toF_near u _, toF_end1 v, by simp only [near_far]; simp [dists]⟩
  · exact ⟨toF_near u _, toF_end2 v, by simp only [near_far]; simp [dists]⟩
theorem dists_pairs {u v : Wl} {d : Rat} (h : d ∈ dists u v) : ∃ y ∈ pairs u v, far y.1 y.2 = d := by
  simp only [dists, List.mem_cons, List.not_mem_nil, or_false] at h
  rcases h with rfl | rfl | rfl | rfl
  · exact ⟨(nearR u v.1, v.1), by simp [pairs], near_far _ _⟩
  · exact ⟨(nearR u v.2, v.2), by simp [pairs], near_far _ _⟩
  · exact ⟨(u.1, nearR v u.1), by simp [pairs], by rw [far_comm]; exact near_far _ _⟩
  · exact ⟨(u.2, nearR v u.2), by simp [pairs], by rw [far_comm]; exact near_far _ _⟩
/-- the nearest two points of two walls lie on them, and are as far apart as the law says -/
theorem n2_ok (u v : Wl) : toF u (n2R u v).1 = 0 ∧ toF v (n2R u v).2 = 0 ∧ far (n2R u v).1 (n2R u v).2 = apartR u v := by
  unfold n2R
  split
  · rename_i x hx
    exact ⟨(cross_on hx).1, (cross_on hx).2, by simp only []; rw [far_self]; unfold apartR; rw [if_pos (touch_of_cross hx)]⟩
  · rename_i hx
    obtain ⟨h1, h2, h3⟩ := pick_fold (pairs u v) (u.1, nearR v u.1)
    have hm : (pairs u v).foldl pickR (u.1, nearR v u.1) ∈ pairs u v := by
      rcases h1 with h1 | h1
      · rw [h1]; simp [pairs]
      · exact h1
    generalize (pairs u v).foldl pickR (u.1, nearR v u.1) = r at *
    obtain ⟨k1, k2, k3⟩ := pairs_ok hm
    refine ⟨k1, k2, ?_⟩
    have low : ∀ d ∈ dists u v, far r.1 r.2 ≤ d := fun d hd => by
      obtain ⟨y, hy, e⟩ := dists_pairs hd
      rw [← e]; exact h3 y hy
    unfold apartR
    split
    · rename_i ht
      unfold touchR at ht
      simp only [Bool.or_eq_true, Bool.and_eq_true, decide_eq_true_eq] at ht
      rcases ht with ht | ht
      · have := low 0 ht
        have := far_nn r.1 r.2
        grind
      · exact absurd hx (cross_of_strict ht.1 ht.2)
    · obtain ⟨m1, m2, m3⟩ := minR_fold (dists u v) (toF u v.1)
      have hd : (dists u v).foldl minR (toF u v.1) ∈ dists u v := by
        rcases m1 with m1 | m1
        · rw [m1]; simp [dists]
        · exact m1
      have a := low _ hd
      have b := m3 _ k3
      grind
end Mn
/-! the distance of two walls is the least one of their points -/
namespace Mn
theorem div_nn {s b : Rat} (h : 0 ≤ s) (hb : 0 < b) : 0 ≤ s / b := by
  have e : s / b * b = s := by grind
  generalize s / b = q at *
  rcases tri q with z | z | z
  · have := mul_pos (show 0 < -q by grind) hb
    grind
  · grind
  · grind
/-- a way out of 0 .. 1 -/
theorem exit1 {s a : Rat} (h0 : 0 ≤ s) (h1 : s ≤ 1) (ha : a ≠ 0) : ∃ x, 0 ≤ x ∧ (s + x * a = 0 ∨ s + x * a = 1) ∧ ∀ y, 0 ≤ y → y ≤ x → 0 ≤ s + y * a ∧ s + y * a ≤ 1 := by
  rcases tri a with h | h | h
  · have e : s / (-a) * a = -s := by grind
    have hx : 0 ≤ s / (-a) := div_nn h0 (by grind)
    refine ⟨s / (-a), hx, .inl (by grind), fun y y0 y1 => ?_⟩
    have k1 := Rat.mul_nonneg (show 0 ≤ s / (-a) - y by grind) (show 0 ≤ -a by grind)
    have k2 := Rat.mul_nonneg y0 (show 0 ≤ -a by grind)
    constructor <;> grind
  · exact absurd h ha
  · have e : (1 - s) / a * a = 1 - s := by grind
    have hx : 0 ≤ (1 - s) / a := div_nn (by grind) h
    refine ⟨(1 - s) / a, hx, .inr (by grind), fun y y0 y1 => ?_⟩
    have k1 := Rat.mul_nonneg (show 0 ≤ (1 - s) / a - y by grind) (show 0 ≤ a by grind)
    have k2 := Rat.mul_nonneg y0 (show 0 ≤ a by grind)
    constructor <;> grind
def In1 (s : Rat) : Prop := 0 ≤ s ∧ s ≤ 1
def Bd (s t : Rat) : Prop := s = 0 ∨ s = 1 ∨ t = 0 ∨ t = 1
theorem exit2 {s t a b : Rat} (hs : In1 s) (ht : In1 t) (hab : a ≠ 0 ∨ b ≠ 0) : ∃ x, 0 ≤ x ∧ Bd (s + x * a) (t + x * b) ∧ ∀ y, 0 ≤ y → y ≤ x → In1 (s + y * a) ∧ In1 (t + y * b) := by
  by_cases ha : a = 0
  · have hb : b ≠ 0 := by grind
    obtain ⟨x, x0, xb, xi⟩ := exit1 ht.1 ht.2 hb
    refine ⟨x, x0, by unfold Bd; grind, fun y y0 y1 => ⟨?_, xi y y0 y1⟩⟩
    rw [ha]; unfold In1 at *; grind
  · obtain ⟨x, x0, xb, xi⟩ := exit1 hs.1 hs.2 ha
    by_cases hb : b = 0
    · refine ⟨x, x0, by unfold Bd; grind, fun y y0 y1 => ⟨xi y y0 y1, ?_⟩⟩
      rw [hb]; unfold In1 at *; grind
    · obtain ⟨z, z0, zb, zi⟩ := exit1 ht.1 ht.2 hb
      rcases Rat.le_total (a := x) (b := z) with h | h
      · exact ⟨x, x0, by unfold Bd; grind, fun y y0 y1 => ⟨xi y y0 y1, zi y y0 (by grind)⟩⟩
      · exact ⟨z, z0, by unfold Bd; grind, fun y y0 y1 => ⟨xi y y0 (by grind), zi y y0 y1⟩⟩
theorem bd_le {u v : Wl} {s t : Rat} (hs : In1 s) (ht : In1 t) (hb : Bd s t) : ∃ d ∈ dists u v, d ≤ far (at_ u s) (at_ v t) := by
  rcases hb with rfl | rfl | rfl | rfl
  · refine ⟨toF v u.1, by simp [dists], ?_⟩
    rw [at_0, far_comm]; exact toF_le v u.1 ht.1 ht.2
  · refine ⟨toF v u.2, by simp [dists], ?_⟩
    rw [at_1, far_comm]; exact toF_le v u.2 ht.1 ht.2
  · refine ⟨toF u v.1, by simp [dists], ?_⟩
    rw [at_0]; exact toF_le u v.1 hs.1 hs.2
  · refine ⟨toF u v.2, by simp [dists], ?_⟩
    rw [at_1]; exact toF_le u v.2 hs.1 hs.2
theorem apart_dists {u v : Wl} {d : Rat} (h : d ∈ dists u v) : apartR u v ≤ d := by
  unfold apartR
  split
  · simp only [dists, List.mem_cons, List.not_mem_nil, or_false] at h
    rcases h with rfl | rfl | rfl | rfl <;> exact toF_nn _ _
  · exact (minR_fold (dists u v) (toF u v.1)).2.2 d h
theorem apart_nn (u v : Wl) : 0 ≤ apartR u v := by rw [← (n2_ok u v).2.2]; exact far_nn _ _
/-- the step between two points of the walls -/
theorem far_two (u v : Wl) (s t : Rat) : far (at_ u s) (at_ v t) = dot (u.1.1 - v.1.1 + s * (vec u.1 u.2).1 - t * (vec v.1 v.2).1, u.1.2 - v.1.2 + s * (vec u.1 u.2).2 - t * (vec v.1 v.2).2) (u.1.1 - v.1.1 + s * (vec u.1 u.2).1 - t * (vec v.1 v.2).1, u.1.2 - v.1.2 + s * (vec u.1 u.2).2 - t * (vec v.1 v.2).2) := by
  unfold far at_ dot vec; grind
theorem apart_le {u v : Wl} {s t : Rat} (hs : In1 s) (ht : In1 t) : apartR u v ≤ far (at_ u s) (at_ v t) := by
  by_cases hc : crs (vec u.1 u.2) (vec v.1 v.2) = 0
  · by_cases hab : vec u.1 u.2 = (0, 0) ∨ vec v.1 v.2 = (0, 0)
    · rcases hab with h | h
      · have e : at_ u s = u.1 := by
          unfold at_; rw [h]; apply Prod.ext <;> grind
        have := apart_dists (u := u) (v := v) (d := toF v u.1) (by simp [dists])
        have k := toF_le v u.1 ht.1 ht.2
        rw [e, far_comm]; grind
      · have e : at_ v t = v.1 := by
          unfold at_; rw [h]; apply Prod.ext <;> grind
        have := apart_dists (u := u) (v := v) (d := toF u v.1) (by simp [dists])
        have k := toF_le u v.1 hs.1 hs.2
        rw [e]; grind
    · have key : ∃ a b : Rat, (a ≠ 0 ∨ b ≠ 0) ∧ a * (vec u.1 u.2).1 = b * (vec v.1 v.2).1 ∧ a * (vec u.1 u.2).2 = b * (vec v.1 v.2).2 := by
        unfold crs at hc
        generalize vec u.1 u.2 = g at *
        generalize vec v.1 v.2 = m at *
        obtain ⟨g1, g2⟩ := g
        obtain ⟨m1, m2⟩ := m
        simp only [Prod.mk.injEq] at hab hc ⊢
        by_cases h1 : g1 = 0 ∧ m1 = 0
        · exact ⟨m2, g2, by grind, by grind, by grind⟩
        · exact ⟨m1, g1, by grind, by grind, by grind⟩
      obtain ⟨a, b, hab, e1, e2⟩ := key
      obtain ⟨x, x0, xb, xi⟩ := exit2 hs ht hab
      obtain ⟨i1, i2⟩ := xi x x0 (by grind)
      obtain ⟨d, hd, hle⟩ := bd_le (u := u) (v := v) i1 i2 xb
      have e : far (at_ u (s + x * a)) (at_ v (t + x * b)) = far (at_ u s) (at_ v t) := by
        rw [far_two, far_two]
        generalize vec u.1 u.2 = g at *
        generalize vec v.1 v.2 = m at *
        have f1 : (s + x * a) * g.1 - (t + x * b) * m.1 = s * g.1 - t * m.1 := by grind
        have f2 : (s + x * a) * g.2 - (t + x * b) * m.2 = s * g.2 - t * m.2 := by grind
        have f3 : u.1.1 - v.1.1 + (s + x * a) * g.1 - (t + x * b) * m.1 = u.1.1 - v.1.1 + s * g.1 - t * m.1 := by grind
        have f4 : u.1.2 - v.1.2 + (s + x * a) * g.2 - (t + x * b) * m.2 = u.1.2 - v.1.2 + s * g.2 - t * m.2 := by grind
        rw [f3, f4]
      have := apart_dists hd
      grind
  · have hm := meet hc
    by_cases hin : In1 (shr u v) ∧ In1 (shs u v)
    · have hx : crossR u v = some (at_ u (shr u v)) := by
        unfold crossR
        rw [if_neg hc, if_neg]
        unfold outR
        unfold In1 at hin
        simp
        grind
      unfold apartR
      rw [if_pos (touch_of_cross hx)]
      exact far_nn _ _
    · have hab : shr u v - s ≠ 0 ∨ shs u v - t ≠ 0 := by
        by_cases z : shr u v - s = 0 ∧ shs u v - t = 0
        · exfalso
          have z1 : shr u v = s := by grind
          have z2 : shs u v = t := by grind
          rw [z1, z2] at hin
          exact hin ⟨hs, ht⟩
        · grind
      obtain ⟨x, x0, xb, xi⟩ := exit2 hs ht hab
      have x1 : x ≤ 1 := by
        rcases Rat.le_total (a := x) (b := 1) with h | h
        · exact h
        · exfalso
          obtain ⟨i1, i2⟩ := xi 1 (by grind) h
          have z1 : s + 1 * (shr u v - s) = shr u v := by grind
          have z2 : t + 1 * (shs u v - t) = shs u v := by grind
          rw [z1] at i1
          rw [z2] at i2
          exact hin ⟨i1, i2⟩
      obtain ⟨i1, i2⟩ := xi x x0 (by grind)
      obtain ⟨d, hd, hle⟩ := bd_le (u := u) (v := v) i1 i2 xb
      have e : far (at_ u (s + x * (shr u v - s))) (at_ v (t + x * (shs u v - t))) = (1 - x) * (1 - x) * far (at_ u s) (at_ v t) := by
        rw [far_two, far_two]
        have q1 : u.1.1 + shr u v * (vec u.1 u.2).1 = v.1.1 + shs u v * (vec v.1 v.2).1 := congrArg Prod.fst hm
        have q2 : u.1.2 + shr u v * (vec u.1 u.2).2 = v.1.2 + shs u v * (vec v.1 v.2).2 := congrArg Prod.snd hm
        generalize vec u.1 u.2 = g at *
        generalize vec v.1 v.2 = m at *
        generalize shr u v = s0 at *
        generalize shs u v = t0 at *
        have f3 : u.1.1 - v.1.1 + (s + x * (s0 - s)) * g.1 - (t + x * (t0 - t)) * m.1 = (1 - x) * (u.1.1 - v.1.1 + s * g.1 - t * m.1) := by grind
        have f4 : u.1.2 - v.1.2 + (s + x * (s0 - s)) * g.2 - (t + x * (t0 - t)) * m.2 = (1 - x) * (u.1.2 - v.1.2 + s * g.2 - t * m.2) := by grind
        rw [f3, f4]
        unfold dot
        grind
      rw [e] at hle
      have h1 := apart_dists hd
      have h2 := far_nn (at_ u s) (at_ v t)
      generalize far (at_ u s) (at_ v t) = F at *
      have h3 := Rat.mul_nonneg (Rat.mul_nonneg x0 (show 0 ≤ 2 - x by grind)) h2
      grind
/-- a wall that is a point -/
theorem at_pt (p : Pt) (t : Rat) : at_ (p, p) t = p := by unfold at_ vec; apply Prod.ext <;> grind
theorem apart_pt (w : Wl) (p : Pt) : apartR w (p, p) = toF w p := by
  obtain ⟨t, t0, t1, e⟩ := near_at w p
  have h1 := apart_le (u := w) (v := (p, p)) (s := t) (t := 0) ⟨t0, t1⟩ ⟨by grind, by grind⟩
  rw [at_pt, ← e, near_far] at h1
  obtain ⟨k1, k2, k3⟩ := n2_ok w (p, p)
  obtain ⟨a, a0, a1, ea⟩ := toF_zero.mp k1
  obtain ⟨b, b0, b1, eb⟩ := toF_zero.mp k2
  rw [at_pt] at eb
  have h2 := toF_le w p a0 a1
  rw [eb, ea] at k3
  rw [k3] at h2
  grind
/-- a piece is as near to a wall as any of its points -/
theorem apart_piece (w v : Wl) {t : Rat} (h : In1 t) : apartR w v ≤ toF w (at_ v t) := by
  obtain ⟨s, s0, s1, e⟩ := near_at w (at_ v t)
  rw [← near_far, e]
  exact apart_le ⟨s0, s1⟩ h
end Mn
/-! fractions are rational numbers -/
namespace Mn
open PySem PySem.Spec PyProof.Rows L2
/-! ### sizes -/
def Sz (b : Nat) (q : Rat) : Prop := q.num.natAbs < 2 ^ b ∧ q.den < 2 ^ b
def enc (q : Rat) : D := .tuple [.int q.num, .int q.den]
theorem Sz.mono {a b : Nat} {q : Rat} (h : Sz a q) (hab : a ≤ b) : Sz b q :=
  have := Nat.pow_le_pow_right (show 0 < 2 by decide) hab
  ⟨Nat.lt_of_lt_of_le h.1 this, Nat.lt_of_lt_of_le h.2 this⟩
theorem divInt_parts {n d : Int} (hd : 0 < d) : (Rat.divInt n d).num = n / (Nat.gcd n.natAbs d.natAbs : Nat) ∧ ((Rat.divInt n d).den : Int) = d / (Nat.gcd n.natAbs d.natAbs : Nat) := by
  obtain ⟨m, rfl⟩ : ∃ m : Nat, d = m := ⟨d.toNat, by omega⟩
  have hm : m ≠ 0 := by omega
  rw [Rat.divInt_ofNat, show mkRat n m = Rat.normalize n m hm from by simp [mkRat, hm], Rat.normalize_eq]
  refine ⟨rfl, ?_⟩
  simp
theorem sz_divInt {n d : Int} {b : Nat} (hd : 0 < d) (h1 : n.natAbs < 2 ^ b) (h2 : d.natAbs < 2 ^ b) : Sz b (Rat.divInt n d) := by
  obtain ⟨e1, e2⟩ := divInt_parts (n := n) hd
  refine ⟨?_, ?_⟩
  · rw [e1]
    refine Nat.lt_of_le_of_lt ?_ h1
    rw [Int.natAbs_ediv_of_dvd (by rw [Int.ofNat_dvd_left]; exact Nat.gcd_dvd_left _ _)]
    exact Nat.div_le_self _ _
  · have : ((Rat.divInt n d).den : Int).natAbs ≤ d.natAbs := by
      rw [e2, Int.natAbs_ediv_of_dvd (by rw [Int.ofNat_dvd_left]; exact Nat.gcd_dvd_right _ _)]
      exact Nat.div_le_self _ _
    simp at this
    omega
theorem add_divInt (p q : Rat) : p + q = Rat.divInt (p.num * q.den + q.num * p.den) (p.den * q.den) := by
  rw [Rat.add_def, ← Int.natCast_mul, Rat.divInt_ofNat]
  unfold mkRat
  rw [dif_neg (Nat.mul_ne_zero p.den_nz q.den_nz)]
theorem sub_divInt (p q : Rat) : p - q = Rat.divInt (p.num * q.den - q.num * p.den) (p.den * q.den) := by
  rw [Rat.sub_def, ← Int.natCast_mul, Rat.divInt_ofNat]
  unfold mkRat
  rw [dif_neg (Nat.mul_ne_zero p.den_nz q.den_nz)]
theorem mul_divInt (p q : Rat) : p * q = Rat.divInt (p.num * q.num) (p.den * q.den) := by
  rw [Rat.mul_def, ← Int.natCast_mul, Rat.divInt_ofNat]
  unfold mkRat
  rw [dif_neg (Nat.mul_ne_zero p.den_nz q.den_nz)]
theorem div_divInt (p q : Rat) : p / q = Rat.divInt (p.num * q.den) (p.den * q.num) := by
  rw [Rat.div_def, Rat.inv_def]
  conv => lhs; lhs; rw [← Rat.num_divInt_den p]
  rw [Rat.divInt_mul_divInt]
theorem den_pos (p : Rat) : (0 : Int) < p.den := by have := p.den_pos; omega
theorem denm_pos (p q : Rat) : (0 : Int) < p.den * q.den := Int.mul_pos (den_pos p) (den_pos q)
theorem lt_pow_add {x y a b : Nat} (hx : x < 2 ^ a) (hy : y < 2 ^ b) : x * y < 2 ^ (a + b) := by
  rw [Nat.pow_add]
  rcases Nat.eq_zero_or_pos x with h | h
  · subst h; rw [Nat.zero_mul]; exact Nat.mul_pos (Nat.pow_pos (by decide)) (Nat.pow_pos (by decide))
  · exact Nat.lt_of_lt_of_le (Nat.mul_lt_mul_of_pos_left hy h) (Nat.mul_le_mul_right _ (Nat.le_of_lt hx))
theorem natAbs_add_lt {x y : Int} {c : Nat} (hx : x.natAbs < 2 ^ c) (hy : y.natAbs < 2 ^ c) : (x + y).natAbs < 2 ^ (c + 1) := by
  rw [Nat.pow_succ]; omega
theorem natAbs_sub_lt {x y : Int} {c : Nat} (hx : x.natAbs < 2 ^ c) (hy : y.natAbs < 2 ^ c) : (x - y).natAbs < 2 ^ (c + 1) := by
  rw [Nat.pow_succ]; omega
theorem Sz.nd {a b : Nat} {p q : Rat} (hp : Sz a p) (hq : Sz b q) : (p.num * (q.den : Int)).natAbs < 2 ^ (a + b) := by
  rw [Int.natAbs_mul, Int.natAbs_natCast]; exact lt_pow_add hp.1 hq.2
theorem Sz.nn {a b : Nat} {p q : Rat} (hp : Sz a p) (hq : Sz b q) : (p.num * q.num).natAbs < 2 ^ (a + b) := by
  rw [Int.natAbs_mul]; exact lt_pow_add hp.1 hq.1
theorem Sz.dd {a b : Nat} {p q : Rat} (hp : Sz a p) (hq : Sz b q) : ((p.den : Int) * (q.den : Int)).natAbs < 2 ^ (a + b) := by
  rw [Int.natAbs_mul, Int.natAbs_natCast, Int.natAbs_natCast]; exact lt_pow_add hp.2 hq.2
theorem Sz.dn {a b : Nat} {p q : Rat} (hp : Sz a p) (hq : Sz b q) : ((p.den : Int) * q.num).natAbs < 2 ^ (a + b) := by
  rw [Int.natAbs_mul, Int.natAbs_natCast]; exact lt_pow_add hp.2 hq.1
theorem Sz.add {a b : Nat} {p q : Rat} (hp : Sz a p) (hq : Sz b q) : Sz (a + b + 1) (p + q) := by
  rw [add_divInt]
  have h2 := Sz.nd hq hp
  rw [Nat.add_comm b a] at h2
  have := Sz.dd hp hq
  exact sz_divInt (denm_pos p q) (natAbs_add_lt (Sz.nd hp hq) h2) (by rw [Nat.pow_succ]; omega)
theorem Sz.sub {a b : Nat} {p q : Rat} (hp : Sz a p) (hq : Sz b q) : Sz (a + b + 1) (p - q) := by
  rw [sub_divInt]
  have h2 := Sz.nd hq hp
  rw [Nat.add_comm b a] at h2
  have := Sz.dd hp hq
  exact sz_divInt (denm_pos p q) (natAbs_sub_lt (Sz.nd hp hq) h2) (by rw [Nat.pow_succ]; omega)
theorem Sz.mul {a b : Nat} {p q : Rat} (hp : Sz a p) (hq : Sz b q) : Sz (a + b) (p * q) := by
  rw [mul_divInt]
  exact sz_divInt (denm_pos p q) (Sz.nn hp hq) (Sz.dd hp hq)
theorem Sz.pos {b : Nat} {q : Rat} (h : Sz b q) : 1 ≤ b := by
  have h1 := h.2
  have h2 := q.den_pos
  cases b with
  | zero => simp at h1; omega
  | succ b => omega
theorem num_zero {q : Rat} : q.num = 0 ↔ q = 0 := Rat.num_eq_zero
theorem Sz.div {a b : Nat} {p q : Rat} (hp : Sz a p) (hq : Sz b q) : Sz (a + b) (p / q) := by
  rw [div_divInt]
  by_cases h : q.num = 0
  · rw [h]; simp
    refine ⟨by simp; exact Nat.pow_pos (by decide), ?_⟩
    have := hp.pos
    have h3 := Nat.pow_le_pow_right (show 0 < 2 by decide) (show 1 ≤ a + b by omega)
    simp
    omega
  · rcases Int.lt_or_gt_of_ne h with h' | h'
    · have e : Rat.divInt (p.num * q.den) (p.den * q.num) = Rat.divInt (-(p.num * q.den)) (p.den * -q.num) := by
        rw [Int.mul_neg, Rat.neg_divInt_neg]
      rw [e]
      refine sz_divInt (Int.mul_pos (den_pos p) (by omega)) ?_ ?_
      · rw [Int.natAbs_neg]; exact Sz.nd hp hq
      · rw [Int.mul_neg, Int.natAbs_neg]; exact Sz.dn hp hq
    · exact sz_divInt (Int.mul_pos (den_pos p) h') (Sz.nd hp hq) (Sz.dn hp hq)
theorem sz_int (n : Int) (b : Nat) (h : n.natAbs < 2 ^ b) (hb : 1 ≤ b) : Sz b (n : Rat) := by
  refine ⟨by simpa using h, ?_⟩
  have h3 := Nat.pow_le_pow_right (show 0 < 2 by decide) hb
  simp
  omega
theorem mulOk_of {i j : Int} {a b : Nat} (hi : i.natAbs < 2 ^ a) (hj : j.natAbs < 2 ^ b) (h : a + b ≤ 999999) : mulOk i j = true := by
  have key : ∀ {x c : Nat}, x < 2 ^ c → x.log2 ≤ c := fun {x c} hx => by
    by_cases h0 : x = 0
    · subst h0; simp
    · exact Nat.le_of_lt ((Nat.log2_lt h0).mpr hx)
  have h1 := key hi
  have h2 := key hj
  unfold mulOk
  simp -implicitDefEqProofs only [Bool.or_eq_true, decide_eq_true_eq]
  right
  omega
/-! ### the walk of the fractions -/
theorem gcdW (Γ : G) (s t : Sl) : ∀ (y x : Nat), whileDen (fun ρ => ev Γ (.cmp .Gt (.var 3) (.int 0)) ρ) (fun ρ => ex Γ (.cons (.par 2 3 (.var 3) (.bin .Mod (.var 2) (.var 3))) .nil) ρ) [s, t, .dt (.int x), .dt (.int y)] = .next [s, t, .dt (.int (Nat.gcd x y)), .dt (.int 0)] := by
  suffices h : ∀ (n y x : Nat), y < n → whileRun (fun ρ => ev Γ (.cmp .Gt (.var 3) (.int 0)) ρ) (fun ρ => ex Γ (.cons (.par 2 3 (.var 3) (.bin .Mod (.var 2) (.var 3))) .nil) ρ) n [s, t, .dt (.int x), .dt (.int y)] = .next [s, t, .dt (.int (Nat.gcd x y)), .dt (.int 0)] by
    intro y x
    exact whileDen_of (h (y + 1) y x (by omega)) (by simp)
  intro n
  induction n with
  | zero => intro y x h; omega
  | succ n ih =>
    intro y x h
    unfold whileRun
    by_cases h0 : y = 0
    · subst h0
      simp [ev, cmpD]
    · have e1 : ev Γ (.cmp .Gt (.var 3) (.int 0)) [s, t, .dt (.int x), .dt (.int y)] = .ok (.bool true) := by
        simp [ev, cmpD]; omega
      have e2 : ex Γ (.cons (.par 2 3 (.var 3) (.bin .Mod (.var 2) (.var 3))) .nil) [s, t, .dt (.int x), .dt (.int y)] = .next [s, t, .dt (.int y), .dt (.int (x % y : Nat))] := by
        simp [ex, ev, binD, show 0 < y by omega]
      simp -implicitDefEqProofs only [e1, Rs.fl_ok]
      rw [e2]
      simp -implicitDefEqProofs only []
      rw [ih (x % y) y (by have := Nat.mod_lt x (show 0 < y by omega); omega)]
      rw [Nat.gcd_comm x y, Nat.gcd_rec y x, Nat.gcd_comm]
theorem gcd_log {n d : Nat} {b : Nat} (h0 : 0 < d) (hd : d < 2 ^ b) (hb : b ≤ 9000) : (Nat.gcd n d).log2 < 9000 := by
  have h1 : Nat.gcd n d ≤ d := Nat.gcd_le_right n h0
  have h2 : Nat.gcd n d ≠ 0 := by
    have := Nat.gcd_pos_of_pos_right n h0
    omega
  rw [Nat.log2_lt h2]
  exact Nat.lt_of_le_of_lt h1 (Nat.lt_of_lt_of_le hd (Nat.pow_le_pow_right (by decide) hb))
theorem made_end {n d : Int} {b : Nat} (hd : 0 < d) (h2 : d.natAbs < 2 ^ b) (hb : b ≤ 9000) :
    (binD .FloorDiv (.int n) (.int (Nat.gcd n.natAbs d.natAbs : Nat)) = .ok (.int (Rat.divInt n d).num)) ∧ (binD .FloorDiv (.int d) (.int (Nat.gcd n.natAbs d.natAbs : Nat)) = .ok (.int (Rat.divInt n d).den)) := by
  obtain ⟨e1, e2⟩ := divInt_parts (n := n) hd
  have h3 := gcd_log (n := n.natAbs) (d := d.natAbs) (by omega) h2 hb
  have h4 := Nat.gcd_pos_of_pos_right n.natAbs (show 0 < d.natAbs by omega)
  rw [e1, e2]
  constructor
  · exact binD_div (by omega) (by simpa using h3)
  · exact binD_div (by omega) (by simpa using h3)
theorem gcdW' (Γ : G) (s t : Sl) (y x : Nat) : whileDen (ev Γ (.cmp .Gt (.var 3) (.int 0))) (ex Γ (.cons (.par 2 3 (.var 3) (.bin .Mod (.var 2) (.var 3))) .nil)) [s, t, .dt (.int x), .dt (.int y)] = .next [s, t, .dt (.int (Nat.gcd x y)), .dt (.int 0)] := gcdW Γ s t y x
theorem d__law_made_eq {n d : Int} {b : Nat} (hd : 0 < d) (h2 : d.natAbs < 2 ^ b) (hb : b ≤ 9000) : d__law_made [.int n, .int d] = .ok (enc (Rat.divInt n d)) := by
  obtain ⟨e1, e2⟩ := made_end (n := n) hd h2 hb
  have ha : biD .abs [.int n] = .ok (.int ((n.natAbs : Nat) : Int)) := by
    show Rs.ok (PyData.int (if n < 0 then -n else n)) = _
    congr 2; split <;> omega
  have hd' : d = ((d.natAbs : Nat) : Int) := by omega
  have g := gcdW' ⟨[], []⟩ (.dt (.int n)) (.dt (.int d)) d.natAbs n.natAbs
  rw [← hd'] at g
  unfold d__law_made b__law_made
  simp -implicitDefEqProofs only [x_var, x_int, x_str, x_bl, x_non, x_glob, x_tup, x_lst, x_bin, x_neg, x_cmp, x_chain, x_isN, x_notN, x_and, x_or, x_not, x_ite, x_ix, x_call, x_bi, x_isi, x_comp, x_enil, x_econs, x_cnil, x_ccons, x_iseq, x_irange, x_ienum, x_izip, x_irev, x_lzip, x_slc, x_onil, x_ocons, x_rev, y_sl, y_bin, y_cmp, y_cons, y_neg, y_isN, y_notN, y_and, y_or, y_andB, y_orB, y_not, y_iteT, y_iteF, y_ix, y_call0, y_call1, y_call2, y_call3, y_call4, y_call5, y_bi, y_isi, y_chain, y_chainT, y_chainF, y_tup0, y_tup1, y_tup2, y_tup3, y_tup4, y_lst0, y_lst1, y_lst2, y_lst3, y_lst4, y_lst5, y_lst6, y_lst7, y_seqT, y_seqL, y_enum, y_zip, y_zipT, y_lzip, y_rev, y_opt, y_slc, y_revL, z_comp0, z_comp1, z_comp2, z_comp3, z_lstC, z_compN, z_compC, z_stepA, z_stepCT, z_stepCF, z_stepE, x_snil, x_scons, x_asg, x_par, x_if, x_for, x_ret, x_raise, x_exp, x_brk, x_cont, x_pass, x_while, x_def, y_seqN, y_seqR, y_seqX, y_seqB, y_seqC, y_asg, y_asgX, y_asgO, y_ifT, y_ifF, y_for, y_ret, y_retX, y_exp, y_endR, y_endN, y_endX, z_forN, z_forC, z_forS, z_forBn, z_forBc, z_forBb, z_forBr, z_forBx, binD_add, binD_sub, cmpD_lt, cmpD_le, cmpD_gt, cmpD_ge, ix_t0, ix_t1, ix_t2, ix_l0, ix_l1, Rs.ofO_some, List.map, List.length_cons, List.length_nil, List.replicate, List.cons_append, List.nil_append, List.getElem?_cons_zero, List.getElem?_cons_succ, List.set_cons_zero, List.set_cons_succ, Nat.reduceAdd, Nat.reduceSub, Nat.reduceLT, t_name, t_tup, t_nil, t_cons, t_asgC, t_Lname, t_LtupT, t_LtupL, if_true, Nat.zero_lt_succ, Nat.lt_add_left_iff_pos, wipeE, y_par, ha, g, e1, e2, enc]
theorem d_fraction_eq {n d : Int} {b : Nat} (hd : d ≠ 0) (h2 : d.natAbs < 2 ^ b) (hb : b ≤ 9000) : d_fraction [.int n, .int d] = .ok (enc (Rat.divInt n d)) := by
  have key : ∀ {n d : Int}, 0 < d → d.natAbs < 2 ^ b → ∀ ρ, ρ = [.dt (.int n), .dt (.int d), .un, .un] → endR (ex ⟨[], []⟩ (.cons (.par 2 3 (.bi .abs (.cons (.var 0) .nil)) (.var 1)) (.cons (.while_ (.cmp .Gt (.var 3) (.int 0)) (.cons (.par 2 3 (.var 3) (.bin .Mod (.var 2) (.var 3))) S.nil)) (.cons (.ret (.tup (.cons (.bin .FloorDiv (.var 0) (.var 2)) (.cons (.bin .FloorDiv (.var 1) (.var 2)) .nil)))) S.nil))) ρ) = .ok (enc (Rat.divInt n d)) := by
    intro n d hd h2 ρ hρ
    subst hρ
    obtain ⟨e1, e2⟩ := made_end (n := n) hd h2 hb
    have ha : biD .abs [.int n] = .ok (.int ((n.natAbs : Nat) : Int)) := by
      show Rs.ok (PyData.int (if n < 0 then -n else n)) = _
      congr 2; split <;> omega
    have hd' : d = ((d.natAbs : Nat) : Int) := by omega
    have g := gcdW' ⟨[], []⟩ (.dt (.int n)) (.dt (.int d)) d.natAbs n.natAbs
    rw [← hd'] at g
    simp -implicitDefEqProofs only [x_var, x_int, x_str, x_bl, x_non, x_glob, x_tup, x_lst, x_bin, x_neg, x_cmp, x_chain, x_isN, x_notN, x_and, x_or, x_not, x_ite, x_ix, x_call, x_bi, x_isi, x_comp, x_enil, x_econs, x_cnil, x_ccons, x_iseq, x_irange, x_ienum, x_izip, x_irev, x_lzip, x_slc, x_onil, x_ocons, x_rev, y_sl, y_bin, y_cmp, y_cons, y_neg, y_isN, y_notN, y_and, y_or, y_andB, y_orB, y_not, y_iteT, y_iteF, y_ix, y_call0, y_call1, y_call2, y_call3, y_call4, y_call5, y_bi, y_isi, y_chain, y_chainT, y_chainF, y_tup0, y_tup1, y_tup2, y_tup3, y_tup4, y_lst0, y_lst1, y_lst2, y_lst3, y_lst4, y_lst5, y_lst6, y_lst7, y_seqT, y_seqL, y_enum, y_zip, y_zipT, y_lzip, y_rev, y_opt, y_slc, y_revL, z_comp0, z_comp1, z_comp2, z_comp3, z_lstC, z_compN, z_compC, z_stepA, z_stepCT, z_stepCF, z_stepE, x_snil, x_scons, x_asg, x_par, x_if, x_for, x_ret, x_raise, x_exp, x_brk, x_cont, x_pass, x_while, x_def, y_seqN, y_seqR, y_seqX, y_seqB, y_seqC, y_asg, y_asgX, y_asgO, y_ifT, y_ifF, y_for, y_ret, y_retX, y_exp, y_endR, y_endN, y_endX, z_forN, z_forC, z_forS, z_forBn, z_forBc, z_forBb, z_forBr, z_forBx, binD_add, binD_sub, cmpD_lt, cmpD_le, cmpD_gt, cmpD_ge, ix_t0, ix_t1, ix_t2, ix_l0, ix_l1, Rs.ofO_some, List.map, List.length_cons, List.length_nil, List.replicate, List.cons_append, List.nil_append, List.getElem?_cons_zero, List.getElem?_cons_succ, List.set_cons_zero, List.set_cons_succ, Nat.reduceAdd, Nat.reduceSub, Nat.reduceLT, t_name, t_tup, t_nil, t_cons, t_asgC, t_Lname, t_LtupT, t_LtupL, if_true, Nat.zero_lt_succ, Nat.lt_add_left_iff_pos, wipeE, y_par, ha, g, e1, e2, enc]
  unfold d_fraction b_fraction
  by_cases h : d < 0
  · have k := key (n := 0 - n) (d := 0 - d) (by omega) (by omega) _ rfl
    have e : Rat.divInt (0 - n) (0 - d) = Rat.divInt n d := by
      rw [Int.zero_sub, Int.zero_sub, Rat.neg_divInt_neg]
    rw [e] at k
    simp -implicitDefEqProofs only [x_def, x_scons, x_if, x_cmp, x_var, x_int, y_cmp, y_sl, cmpD_lt, h, decide_true, List.map, List.length_cons, List.length_nil, List.replicate, List.cons_append, List.nil_append, List.getElem?_cons_zero, List.getElem?_cons_succ, y_ifT, y_seqN, x_asg, x_bin, y_bin, binD_sub, y_asg, y_asgO, t_name, t_Lname, List.set_cons_zero, List.set_cons_succ, x_snil, Nat.reduceAdd, Nat.reduceSub, Nat.reduceLT, if_true, Nat.zero_lt_succ]
    simp -implicitDefEqProofs only [x_scons] at k
    exact k
  · have k := key (n := n) (d := d) (by omega) h2 _ rfl
    simp -implicitDefEqProofs only [x_def, x_scons, x_if, x_cmp, x_var, x_int, y_cmp, y_sl, cmpD_lt, h, decide_false, List.map, List.length_cons, List.length_nil, List.replicate, List.cons_append, List.nil_append, List.getElem?_cons_zero, List.getElem?_cons_succ, y_ifF, y_seqN, x_snil, Nat.reduceAdd, Nat.reduceSub]
    simp -implicitDefEqProofs only [x_scons] at k
    exact k
end Mn
/-! fractions and points, the walk -/
namespace Mn
open PySem PySem.Spec PyProof.Rows L2
def encP (p : Pt) : D := .tuple [enc p.1, enc p.2]
def encW (w : Wl) : D := .tuple [encP w.1, encP w.2]
def SzP (b : Nat) (p : Pt) : Prop := Sz b p.1 ∧ Sz b p.2
def SzW (b : Nat) (w : Wl) : Prop := SzP b w.1 ∧ SzP b w.2
theorem SzP.mono {a b : Nat} {p : Pt} (h : SzP a p) (hab : a ≤ b) : SzP b p := ⟨h.1.mono hab, h.2.mono hab⟩
theorem SzW.mono {a b : Nat} {p : Wl} (h : SzW a p) (hab : a ≤ b) : SzW b p := ⟨h.1.mono hab, h.2.mono hab⟩
theorem Sz.nl {a b : Nat} {p q : Rat} (hp : Sz a p) (hq : Sz b q) (h : a + b ≤ 9000) : mulOk p.num q.den = true := mulOk_of hp.1 (by simpa using hq.2) (by omega)
theorem Sz.nnl {a b : Nat} {p q : Rat} (hp : Sz a p) (hq : Sz b q) (h : a + b ≤ 9000) : mulOk p.num q.num = true := mulOk_of hp.1 hq.1 (by omega)
theorem Sz.ddl {a b : Nat} {p q : Rat} (hp : Sz a p) (hq : Sz b q) (h : a + b ≤ 9000) : mulOk p.den q.den = true := mulOk_of (by simpa using hp.2) (by simpa using hq.2) (by omega)
theorem Sz.dnl {a b : Nat} {p q : Rat} (hp : Sz a p) (hq : Sz b q) (h : a + b ≤ 9000) : mulOk p.den q.num = true := mulOk_of (by simpa using hp.2) hq.1 (by omega)
theorem SzP.vec {a b : Nat} {p q : Pt} (hp : SzP a p) (hq : SzP b q) : SzP (a + b + 1) (vec p q) := ⟨(hq.1.sub hp.1).mono (by omega), (hq.2.sub hp.2).mono (by omega)⟩
theorem SzP.dot {a b : Nat} {p q : Pt} (hp : SzP a p) (hq : SzP b q) : Sz (2 * a + 2 * b + 1) (dot p q) := ((hp.1.mul hq.1).add (hp.2.mul hq.2)).mono (by omega)
theorem SzP.crs {a b : Nat} {p q : Pt} (hp : SzP a p) (hq : SzP b q) : Sz (2 * a + 2 * b + 1) (crs p q) := ((hp.1.mul hq.2).sub (hp.2.mul hq.1)).mono (by omega)
theorem SzP.far {a b : Nat} {p q : Pt} (hp : SzP a p) (hq : SzP b q) : Sz (4 * a + 4 * b + 5) (far p q) := ((hp.vec hq).dot (hp.vec hq)).mono (by omega)
theorem num_pos {q : Rat} : 0 < q.num ↔ 0 < q := by
  rw [Rat.lt_iff]; simp
theorem num_neg {q : Rat} : q.num < 0 ↔ q < 0 := by
  rw [Rat.lt_iff]; simp
theorem num_nonpos {q : Rat} : q.num ≤ 0 ↔ q ≤ 0 := by
  rw [Rat.le_iff]; simp
theorem d_plus_eq {a b : Nat} {p q : Rat} (hp : Sz a p) (hq : Sz b q) (h : a + b ≤ 9000) : d_plus [enc p, enc q] = .ok (enc (p + q)) := by
  have h' : b + a ≤ 9000 := by omega
  have m0 := binD_mul (hp.nl hq h)
  have m1 := binD_mul (hq.nl hp h')
  have m2 := binD_mul (hp.ddl hq h)
  unfold d_plus b_plus
  simp -implicitDefEqProofs only [enc, x_var, x_int, x_str, x_bl, x_non, x_glob, x_tup, x_lst, x_bin, x_neg, x_cmp, x_chain, x_isN, x_notN, x_and, x_or, x_not, x_ite, x_ix, x_call, x_bi, x_isi, x_comp, x_enil, x_econs, x_cnil, x_ccons, x_iseq, x_irange, x_ienum, x_izip, x_irev, x_lzip, x_slc, x_onil, x_ocons, x_rev, y_sl, y_bin, y_cmp, y_cons, y_neg, y_isN, y_notN, y_and, y_or, y_andB, y_orB, y_not, y_iteT, y_iteF, y_ix, y_call0, y_call1, y_call2, y_call3, y_call4, y_call5, y_bi, y_isi, y_chain, y_chainT, y_chainF, y_tup0, y_tup1, y_tup2, y_tup3, y_tup4, y_lst0, y_lst1, y_lst2, y_lst3, y_lst4, y_lst5, y_lst6, y_lst7, y_seqT, y_seqL, y_enum, y_zip, y_zipT, y_lzip, y_rev, y_opt, y_slc, y_revL, z_comp0, z_comp1, z_comp2, z_comp3, z_lstC, z_compN, z_compC, z_stepA, z_stepCT, z_stepCF, z_stepE, x_snil, x_scons, x_asg, x_par, x_if, x_for, x_ret, x_raise, x_exp, x_brk, x_cont, x_pass, x_while, x_def, y_seqN, y_seqR, y_seqX, y_seqB, y_seqC, y_asg, y_asgX, y_asgO, y_ifT, y_ifF, y_for, y_ret, y_retX, y_exp, y_endR, y_endN, y_endX, z_forN, z_forC, z_forS, z_forBn, z_forBc, z_forBb, z_forBr, z_forBx, binD_add, binD_sub, cmpD_lt, cmpD_le, cmpD_gt, cmpD_ge, ix_t0, ix_t1, ix_t2, ix_l0, ix_l1, Rs.ofO_some, List.map, List.length_cons, List.length_nil, List.replicate, List.cons_append, List.nil_append, List.getElem?_cons_zero, List.getElem?_cons_succ, List.set_cons_zero, List.set_cons_succ, Nat.reduceAdd, Nat.reduceSub, Nat.reduceLT, t_name, t_tup, t_nil, t_cons, t_asgC, t_Lname, t_LtupT, t_LtupL, if_true, Nat.zero_lt_succ, Nat.lt_add_left_iff_pos, wipeE, m0, m1, m2]
  rw [d_fraction_eq (Int.ne_of_gt (denm_pos p q)) (Sz.dd hp hq) (by omega), add_divInt]
  rfl
theorem d_minus_eq {a b : Nat} {p q : Rat} (hp : Sz a p) (hq : Sz b q) (h : a + b ≤ 9000) : d_minus [enc p, enc q] = .ok (enc (p - q)) := by
  have h' : b + a ≤ 9000 := by omega
  have m0 := binD_mul (hp.nl hq h)
  have m1 := binD_mul (hq.nl hp h')
  have m2 := binD_mul (hp.ddl hq h)
  unfold d_minus b_minus
  simp -implicitDefEqProofs only [enc, x_var, x_int, x_str, x_bl, x_non, x_glob, x_tup, x_lst, x_bin, x_neg, x_cmp, x_chain, x_isN, x_notN, x_and, x_or, x_not, x_ite, x_ix, x_call, x_bi, x_isi, x_comp, x_enil, x_econs, x_cnil, x_ccons, x_iseq, x_irange, x_ienum, x_izip, x_irev, x_lzip, x_slc, x_onil, x_ocons, x_rev, y_sl, y_bin, y_cmp, y_cons, y_neg, y_isN, y_notN, y_and, y_or, y_andB, y_orB, y_not, y_iteT, y_iteF, y_ix, y_call0, y_call1, y_call2, y_call3, y_call4, y_call5, y_bi, y_isi, y_chain, y_chainT, y_chainF, y_tup0, y_tup1, y_tup2, y_tup3, y_tup4, y_lst0, y_lst1, y_lst2, y_lst3, y_lst4, y_lst5, y_lst6, y_lst7, y_seqT, y_seqL, y_enum, y_zip, y_zipT, y_lzip, y_rev, y_opt, y_slc, y_revL, z_comp0, z_comp1, z_comp2, z_comp3, z_lstC, z_compN, z_compC, z_stepA, z_stepCT, z_stepCF, z_stepE, x_snil, x_scons, x_asg, x_par, x_if, x_for, x_ret, x_raise, x_exp, x_brk, x_cont, x_pass, x_while, x_def, y_seqN, y_seqR, y_seqX, y_seqB, y_seqC, y_asg, y_asgX, y_asgO, y_ifT, y_ifF, y_for, y_ret, y_retX, y_exp, y_endR, y_endN, y_endX, z_forN, z_forC, z_forS, z_forBn, z_forBc, z_forBb, z_forBr, z_forBx, binD_add, binD_sub, cmpD_lt, cmpD_le, cmpD_gt, cmpD_ge, ix_t0, ix_t1, ix_t2, ix_l0, ix_l1, Rs.ofO_some, List.map, List.length_cons, List.length_nil, List.replicate, List.cons_append, List.nil_append, List.getElem?_cons_zero, List.getElem?_cons_succ, List.set_cons_zero, List.set_cons_succ, Nat.reduceAdd, Nat.reduceSub, Nat.reduceLT, t_name, t_tup, t_nil, t_cons, t_asgC, t_Lname, t_LtupT, t_LtupL, if_true, Nat.zero_lt_succ, Nat.lt_add_left_iff_pos, wipeE, m0, m1, m2]
  rw [d_fraction_eq (Int.ne_of_gt (denm_pos p q)) (Sz.dd hp hq) (by omega), sub_divInt]
  rfl
theorem d_times_eq {a b : Nat} {p q : Rat} (hp : Sz a p) (hq : Sz b q) (h : a + b ≤ 9000) : d_times [enc p, enc q] = .ok (enc (p * q)) := by
  have h' : b + a ≤ 9000 := by omega
  have m0 := binD_mul (hp.nnl hq h)
  have m1 := binD_mul (hp.ddl hq h)
  unfold d_times b_times
  simp -implicitDefEqProofs only [enc, x_var, x_int, x_str, x_bl, x_non, x_glob, x_tup, x_lst, x_bin, x_neg, x_cmp, x_chain, x_isN, x_notN, x_and, x_or, x_not, x_ite, x_ix, x_call, x_bi, x_isi, x_comp, x_enil, x_econs, x_cnil, x_ccons, x_iseq, x_irange, x_ienum, x_izip, x_irev, x_lzip, x_slc, x_onil, x_ocons, x_rev, y_sl, y_bin, y_cmp, y_cons, y_neg, y_isN, y_notN, y_and, y_or, y_andB, y_orB, y_not, y_iteT, y_iteF, y_ix, y_call0, y_call1, y_call2, y_call3, y_call4, y_call5, y_bi, y_isi, y_chain, y_chainT, y_chainF, y_tup0, y_tup1, y_tup2, y_tup3, y_tup4, y_lst0, y_lst1, y_lst2, y_lst3, y_lst4, y_lst5, y_lst6, y_lst7, y_seqT, y_seqL, y_enum, y_zip, y_zipT, y_lzip, y_rev, y_opt, y_slc, y_revL, z_comp0, z_comp1, z_comp2, z_comp3, z_lstC, z_compN, z_compC, z_stepA, z_stepCT, z_stepCF, z_stepE, x_snil, x_scons, x_asg, x_par, x_if, x_for, x_ret, x_raise, x_exp, x_brk, x_cont, x_pass, x_while, x_def, y_seqN, y_seqR, y_seqX, y_seqB, y_seqC, y_asg, y_asgX, y_asgO, y_ifT, y_ifF, y_for, y_ret, y_retX, y_exp, y_endR, y_endN, y_endX, z_forN, z_forC, z_forS, z_forBn, z_forBc, z_forBb, z_forBr, z_forBx, binD_add, binD_sub, cmpD_lt, cmpD_le, cmpD_gt, cmpD_ge, ix_t0, ix_t1, ix_t2, ix_l0, ix_l1, Rs.ofO_some, List.map, List.length_cons, List.length_nil, List.replicate, List.cons_append, List.nil_append, List.getElem?_cons_zero, List.getElem?_cons_succ, List.set_cons_zero, List.set_cons_succ, Nat.reduceAdd, Nat.reduceSub, Nat.reduceLT, t_name, t_tup, t_nil, t_cons, t_asgC, t_Lname, t_LtupT, t_LtupL, if_true, Nat.zero_lt_succ, Nat.lt_add_left_iff_pos, wipeE, m0, m1]
  rw [d_fraction_eq (Int.ne_of_gt (denm_pos p q)) (Sz.dd hp hq) (by omega), mul_divInt]
  rfl
theorem d__law_plus_eq {a b : Nat} {p q : Rat} (hp : Sz a p) (hq : Sz b q) (h : a + b ≤ 9000) : d__law_plus [enc p, enc q] = .ok (enc (p + q)) := by
  have h' : b + a ≤ 9000 := by omega
  have m0 := binD_mul (hp.nl hq h)
  have m1 := binD_mul (hq.nl hp h')
  have m2 := binD_mul (hp.ddl hq h)
  unfold d__law_plus b__law_plus
  simp -implicitDefEqProofs only [enc, x_var, x_int, x_str, x_bl, x_non, x_glob, x_tup, x_lst, x_bin, x_neg, x_cmp, x_chain, x_isN, x_notN, x_and, x_or, x_not, x_ite, x_ix, x_call, x_bi, x_isi, x_comp, x_enil, x_econs, x_cnil, x_ccons, x_iseq, x_irange, x_ienum, x_izip, x_irev, x_lzip, x_slc, x_onil, x_ocons, x_rev, y_sl, y_bin, y_cmp, y_cons, y_neg, y_isN, y_notN, y_and, y_or, y_andB, y_orB, y_not, y_iteT, y_iteF, y_ix, y_call0, y_call1, y_call2, y_call3, y_call4, y_call5, y_bi, y_isi, y_chain, y_chainT, y_chainF, y_tup0, y_tup1, y_tup2, y_tup3, y_tup4, y_lst0, y_lst1, y_lst2, y_lst3, y_lst4, y_lst5, y_lst6, y_lst7, y_seqT, y_seqL, y_enum, y_zip, y_zipT, y_lzip, y_rev, y_opt, y_slc, y_revL, z_comp0, z_comp1, z_comp2, z_comp3, z_lstC, z_compN, z_compC, z_stepA, z_stepCT, z_stepCF, z_stepE, x_snil, x_scons, x_asg, x_par, x_if, x_for, x_ret, x_raise, x_exp, x_brk, x_cont, x_pass, x_while, x_def, y_seqN, y_seqR, y_seqX, y_seqB, y_seqC, y_asg, y_asgX, y_asgO, y_ifT, y_ifF, y_for, y_ret, y_retX, y_exp, y_endR, y_endN, y_endX, z_forN, z_forC, z_forS, z_forBn, z_forBc, z_forBb, z_forBr, z_forBx, binD_add, binD_sub, cmpD_lt, cmpD_le, cmpD_gt, cmpD_ge, ix_t0, ix_t1, ix_t2, ix_l0, ix_l1, Rs.ofO_some, List.map, List.length_cons, List.length_nil, List.replicate, List.cons_append, List.nil_append, List.getElem?_cons_zero, List.getElem?_cons_succ, List.set_cons_zero, List.set_cons_succ, Nat.reduceAdd, Nat.reduceSub, Nat.reduceLT, t_name, t_tup, t_nil, t_cons, t_asgC, t_Lname, t_LtupT, t_LtupL, if_true, Nat.zero_lt_succ, Nat.lt_add_left_iff_pos, wipeE, m0, m1, m2]
  rw [d__law_made_eq (denm_pos p q) (Sz.dd hp hq) (by omega), add_divInt]
  rfl
theorem d__law_minus_eq {a b : Nat} {p q : Rat} (hp : Sz a p) (hq : Sz b q) (h : a + b ≤ 9000) : d__law_minus [enc p, enc q] = .ok (enc (p - q)) := by
  have h' : b + a ≤ 9000 := by omega
  have m0 := binD_mul (hp.nl hq h)
  have m1 := binD_mul (hq.nl hp h')
  have m2 := binD_mul (hp.ddl hq h)
  unfold d__law_minus b__law_minus
  simp -implicitDefEqProofs only [enc, x_var, x_int, x_str, x_bl, x_non, x_glob, x_tup, x_lst, x_bin, x_neg, x_cmp, x_chain, x_isN, x_notN, x_and, x_or, x_not, x_ite, x_ix, x_call, x_bi, x_isi, x_comp, x_enil, x_econs, x_cnil, x_ccons, x_iseq, x_irange, x_ienum, x_izip, x_irev, x_lzip, x_slc, x_onil, x_ocons, x_rev, y_sl, y_bin, y_cmp, y_cons, y_neg, y_isN, y_notN, y_and, y_or, y_andB, y_orB, y_not, y_iteT, y_iteF, y_ix, y_call0, y_call1, y_call2, y_call3, y_call4, y_call5, y_bi, y_isi, y_chain, y_chainT, y_chainF, y_tup0, y_tup1, y_tup2, y_tup3, y_tup4, y_lst0, y_lst1, y_lst2, y_lst3, y_lst4, y_lst5, y_lst6, y_lst7, y_seqT, y_seqL, y_enum, y_zip, y_zipT, y_lzip, y_rev, y_opt, y_slc, y_revL, z_comp0, z_comp1, z_comp2, z_comp3, z_lstC, z_compN, z_compC, z_stepA, z_stepCT, z_stepCF, z_stepE, x_snil, x_scons, x_asg, x_par, x_if, x_for, x_ret, x_raise, x_exp, x_brk, x_cont, x_pass, x_while, x_def, y_seqN, y_seqR, y_seqX, y_seqB, y_seqC, y_asg, y_asgX, y_asgO, y_ifT, y_ifF, y_for, y_ret, y_retX, y_exp, y_endR, y_endN, y_endX, z_forN, z_forC, z_forS, z_forBn, z_forBc, z_forBb, z_forBr, z_forBx, binD_add, binD_sub, cmpD_lt, cmpD_le, cmpD_gt, cmpD_ge, ix_t0, ix_t1, ix_t2, ix_l0, ix_l1, Rs.ofO_some, List.map, List.length_cons, List.length_nil, List.replicate, List.cons_append, List.nil_append, List.getElem?_cons_zero, List.getElem?_cons_succ, List.set_cons_zero, List.set_cons_succ, Nat.reduceAdd, Nat.reduceSub, Nat.reduceLT, t_name, t_tup, t_nil, t_cons, t_asgC, t_Lname, t_LtupT, t_LtupL, if_true, Nat.zero_lt_succ, Nat.lt_add_left_iff_pos, wipeE, m0, m1, m2]
  rw [d__law_made_eq (denm_pos p q) (Sz.dd hp hq) (by omega), sub_divInt]
  rfl
theorem d__law_times_eq {a b : Nat} {p q : Rat} (hp : Sz a p) (hq : Sz b q) (h : a + b ≤ 9000) : d__law_times [enc p, enc q] = .ok (enc (p * q)) := by
  have h' : b + a ≤ 9000 := by omega
  have m0 := binD_mul (hp.nnl hq h)
  have m1 := binD_mul (hp.ddl hq h)
  unfold d__law_times b__law_times
  simp -implicitDefEqProofs only [enc, x_var, x_int, x_str, x_bl, x_non, x_glob, x_tup, x_lst, x_bin, x_neg, x_cmp, x_chain, x_isN, x_notN, x_and, x_or, x_not, x_ite, x_ix, x_call, x_bi, x_isi, x_comp, x_enil, x_econs, x_cnil, x_ccons, x_iseq, x_irange, x_ienum, x_izip, x_irev, x_lzip, x_slc, x_onil, x_ocons, x_rev, y_sl, y_bin, y_cmp, y_cons, y_neg, y_isN, y_notN, y_and, y_or, y_andB, y_orB, y_not, y_iteT, y_iteF, y_ix, y_call0, y_call1, y_call2, y_call3, y_call4, y_call5, y_bi, y_isi, y_chain, y_chainT, y_chainF, y_tup0, y_tup1, y_tup2, y_tup3, y_tup4, y_lst0, y_lst1, y_lst2, y_lst3, y_lst4, y_lst5, y_lst6, y_lst7, y_seqT, y_seqL, y_enum, y_zip, y_zipT, y_lzip, y_rev, y_opt, y_slc, y_revL, z_comp0, z_comp1, z_comp2, z_comp3, z_lstC, z_compN, z_compC, z_stepA, z_stepCT, z_stepCF, z_stepE, x_snil, x_scons, x_asg, x_par, x_if, x_for, x_ret, x_raise, x_exp, x_brk, x_cont, x_pass, x_while, x_def, y_seqN, y_seqR, y_seqX, y_seqB, y_seqC, y_asg, y_asgX, y_asgO, y_ifT, y_ifF, y_for, y_ret, y_retX, y_exp, y_endR, y_endN, y_endX, z_forN, z_forC, z_forS, z_forBn, z_forBc, z_forBb, z_forBr, z_forBx, binD_add, binD_sub, cmpD_lt, cmpD_le, cmpD_gt, cmpD_ge, ix_t0, ix_t1, ix_t2, ix_l0, ix_l1, Rs.ofO_some, List.map, List.length_cons, List.length_nil, List.replicate, List.cons_append, List.nil_append, List.getElem?_cons_zero, List.getElem?_cons_succ, List.set_cons_zero, List.set_cons_succ, Nat.reduceAdd, Nat.reduceSub, Nat.reduceLT, t_name, t_tup, t_nil, t_cons, t_asgC, t_Lname, t_LtupT, t_LtupL, if_true, Nat.zero_lt_succ, Nat.lt_add_left_iff_pos, wipeE, m0, m1]
  rw [d__law_made_eq (denm_pos p q) (Sz.dd hp hq) (by omega), mul_divInt]
  rfl
theorem d_over_eq {a b : Nat} {p q : Rat} (hp : Sz a p) (hq : Sz b q) (hz : q ≠ 0) (h : a + b ≤ 9000) : d_over [enc p, enc q] = .ok (enc (p / q)) := by
  have h' : b + a ≤ 9000 := by omega
  have m0 := binD_mul (hp.nl hq h)
  have m1 := binD_mul (hp.dnl hq h)
  unfold d_over b_over
  simp -implicitDefEqProofs only [enc, x_var, x_int, x_str, x_bl, x_non, x_glob, x_tup, x_lst, x_bin, x_neg, x_cmp, x_chain, x_isN, x_notN, x_and, x_or, x_not, x_ite, x_ix, x_call, x_bi, x_isi, x_comp, x_enil, x_econs, x_cnil, x_ccons, x_iseq, x_irange, x_ienum, x_izip, x_irev, x_lzip, x_slc, x_onil, x_ocons, x_rev, y_sl, y_bin, y_cmp, y_cons, y_neg, y_isN, y_notN, y_and, y_or, y_andB, y_orB, y_not, y_iteT, y_iteF, y_ix, y_call0, y_call1, y_call2, y_call3, y_call4, y_call5, y_bi, y_isi, y_chain, y_chainT, y_chainF, y_tup0, y_tup1, y_tup2, y_tup3, y_tup4, y_lst0, y_lst1, y_lst2, y_lst3, y_lst4, y_lst5, y_lst6, y_lst7, y_seqT, y_seqL, y_enum, y_zip, y_zipT, y_lzip, y_rev, y_opt, y_slc, y_revL, z_comp0, z_comp1, z_comp2, z_comp3, z_lstC, z_compN, z_compC, z_stepA, z_stepCT, z_stepCF, z_stepE, x_snil, x_scons, x_asg, x_par, x_if, x_for, x_ret, x_raise, x_exp, x_brk, x_cont, x_pass, x_while, x_def, y_seqN, y_seqR, y_seqX, y_seqB, y_seqC, y_asg, y_asgX, y_asgO, y_ifT, y_ifF, y_for, y_ret, y_retX, y_exp, y_endR, y_endN, y_endX, z_forN, z_forC, z_forS, z_forBn, z_forBc, z_forBb, z_forBr, z_forBx, binD_add, binD_sub, cmpD_lt, cmpD_le, cmpD_gt, cmpD_ge, ix_t0, ix_t1, ix_t2, ix_l0, ix_l1, Rs.ofO_some, List.map, List.length_cons, List.length_nil, List.replicate, List.cons_append, List.nil_append, List.getElem?_cons_zero, List.getElem?_cons_succ, List.set_cons_zero, List.set_cons_succ, Nat.reduceAdd, Nat.reduceSub, Nat.reduceLT, t_name, t_tup, t_nil, t_cons, t_asgC, t_Lname, t_LtupT, t_LtupL, if_true, Nat.zero_lt_succ, Nat.lt_add_left_iff_pos, wipeE, m0, m1]
  rw [d_fraction_eq (Int.mul_ne_zero (Int.ne_of_gt (den_pos p)) (fun z => hz (num_zero.mp z))) (Sz.dn hp hq) (by omega), div_divInt]
  rfl
theorem d_is_less_eq {a b : Nat} {p q : Rat} (hp : Sz a p) (hq : Sz b q) (h : a + b ≤ 9000) : d_is_less [enc p, enc q] = .ok (.bool (decide (p < q))) := by
  have m0 := binD_mul (hp.nl hq h)
  have m1 := binD_mul (hq.nl hp (show b + a ≤ 9000 by omega))
  unfold d_is_less b_is_less
  simp -implicitDefEqProofs only [enc, x_var, x_int, x_str, x_bl, x_non, x_glob, x_tup, x_lst, x_bin, x_neg, x_cmp, x_chain, x_isN, x_notN, x_and, x_or, x_not, x_ite, x_ix, x_call, x_bi, x_isi, x_comp, x_enil, x_econs, x_cnil, x_ccons, x_iseq, x_irange, x_ienum, x_izip, x_irev, x_lzip, x_slc, x_onil, x_ocons, x_rev, y_sl, y_bin, y_cmp, y_cons, y_neg, y_isN, y_notN, y_and, y_or, y_andB, y_orB, y_not, y_iteT, y_iteF, y_ix, y_call0, y_call1, y_call2, y_call3, y_call4, y_call5, y_bi, y_isi, y_chain, y_chainT, y_chainF, y_tup0, y_tup1, y_tup2, y_tup3, y_tup4, y_lst0, y_lst1, y_lst2, y_lst3, y_lst4, y_lst5, y_lst6, y_lst7, y_seqT, y_seqL, y_enum, y_zip, y_zipT, y_lzip, y_rev, y_opt, y_slc, y_revL, z_comp0, z_comp1, z_comp2, z_comp3, z_lstC, z_compN, z_compC, z_stepA, z_stepCT, z_stepCF, z_stepE, x_snil, x_scons, x_asg, x_par, x_if, x_for, x_ret, x_raise, x_exp, x_brk, x_cont, x_pass, x_while, x_def, y_seqN, y_seqR, y_seqX, y_seqB, y_seqC, y_asg, y_asgX, y_asgO, y_ifT, y_ifF, y_for, y_ret, y_retX, y_exp, y_endR, y_endN, y_endX, z_forN, z_forC, z_forS, z_forBn, z_forBc, z_forBb, z_forBr, z_forBx, binD_add, binD_sub, cmpD_lt, cmpD_le, cmpD_gt, cmpD_ge, ix_t0, ix_t1, ix_t2, ix_l0, ix_l1, Rs.ofO_some, List.map, List.length_cons, List.length_nil, List.replicate, List.cons_append, List.nil_append, List.getElem?_cons_zero, List.getElem?_cons_succ, List.set_cons_zero, List.set_cons_succ, Nat.reduceAdd, Nat.reduceSub, Nat.reduceLT, t_name, t_tup, t_nil, t_cons, t_asgC, t_Lname, t_LtupT, t_LtupL, if_true, Nat.zero_lt_succ, Nat.lt_add_left_iff_pos, wipeE, m0, m1, Rat.lt_iff]
theorem d__law_less_eq {a b : Nat} {p q : Rat} (hp : Sz a p) (hq : Sz b q) (h : a + b ≤ 9000) : d__law_less [enc p, enc q] = .ok (.bool (decide (p < q))) := by
  have m0 := binD_mul (hp.nl hq h)
  have m1 := binD_mul (hq.nl hp (show b + a ≤ 9000 by omega))
  unfold d__law_less b__law_less
  simp -implicitDefEqProofs only [enc, x_var, x_int, x_str, x_bl, x_non, x_glob, x_tup, x_lst, x_bin, x_neg, x_cmp, x_chain, x_isN, x_notN, x_and, x_or, x_not, x_ite, x_ix, x_call, x_bi, x_isi, x_comp, x_enil, x_econs, x_cnil, x_ccons, x_iseq, x_irange, x_ienum, x_izip, x_irev, x_lzip, x_slc, x_onil, x_ocons, x_rev, y_sl, y_bin, y_cmp, y_cons, y_neg, y_isN, y_notN, y_and, y_or, y_andB, y_orB, y_not, y_iteT, y_iteF, y_ix, y_call0, y_call1, y_call2, y_call3, y_call4, y_call5, y_bi, y_isi, y_chain, y_chainT, y_chainF, y_tup0, y_tup1, y_tup2, y_tup3, y_tup4, y_lst0, y_lst1, y_lst2, y_lst3, y_lst4, y_lst5, y_lst6, y_lst7, y_seqT, y_seqL, y_enum, y_zip, y_zipT, y_lzip, y_rev, y_opt, y_slc, y_revL, z_comp0, z_comp1, z_comp2, z_comp3, z_lstC, z_compN, z_compC, z_stepA, z_stepCT, z_stepCF, z_stepE, x_snil, x_scons, x_asg, x_par, x_if, x_for, x_ret, x_raise, x_exp, x_brk, x_cont, x_pass, x_while, x_def, y_seqN, y_seqR, y_seqX, y_seqB, y_seqC, y_asg, y_asgX, y_asgO, y_ifT, y_ifF, y_for, y_ret, y_retX, y_exp, y_endR, y_endN, y_endX, z_forN, z_forC, z_forS, z_forBn, z_forBc, z_forBb, z_forBr, z_forBx, binD_add, binD_sub, cmpD_lt, cmpD_le, cmpD_gt, cmpD_ge, ix_t0, ix_t1, ix_t2, ix_l0, ix_l1, Rs.ofO_some, List.map, List.length_cons, List.length_nil, List.replicate, List.cons_append, List.nil_append, List.getElem?_cons_zero, List.getElem?_cons_succ, List.set_cons_zero, List.set_cons_succ, Nat.reduceAdd, Nat.reduceSub, Nat.reduceLT, t_name, t_tup, t_nil, t_cons, t_asgC, t_Lname, t_LtupT, t_LtupL, if_true, Nat.zero_lt_succ, Nat.lt_add_left_iff_pos, wipeE, m0, m1, Rat.lt_iff]
theorem d_step_from_eq {a b : Nat} {p q : Pt} (hp : SzP a p) (hq : SzP b q) (h : a + b ≤ 9000) : d_step_from [encP p, encP q] = .ok (encP (vec p q)) := by
  have m0 := d_minus_eq hq.1 hp.1 (show b + a ≤ 9000 by omega)
  have m1 := d_minus_eq hq.2 hp.2 (show b + a ≤ 9000 by omega)
  unfold d_step_from b_step_from
  simp -implicitDefEqProofs only [encP, x_var, x_int, x_str, x_bl, x_non, x_glob, x_tup, x_lst, x_bin, x_neg, x_cmp, x_chain, x_isN, x_notN, x_and, x_or, x_not, x_ite, x_ix, x_call, x_bi, x_isi, x_comp, x_enil, x_econs, x_cnil, x_ccons, x_iseq, x_irange, x_ienum, x_izip, x_irev, x_lzip, x_slc, x_onil, x_ocons, x_rev, y_sl, y_bin, y_cmp, y_cons, y_neg, y_isN, y_notN, y_and, y_or, y_andB, y_orB, y_not, y_iteT, y_iteF, y_ix, y_call0, y_call1, y_call2, y_call3, y_call4, y_call5, y_bi, y_isi, y_chain, y_chainT, y_chainF, y_tup0, y_tup1, y_tup2, y_tup3, y_tup4, y_lst0, y_lst1, y_lst2, y_lst3, y_lst4, y_lst5, y_lst6, y_lst7, y_seqT, y_seqL, y_enum, y_zip, y_zipT, y_lzip, y_rev, y_opt, y_slc, y_revL, z_comp0, z_comp1, z_comp2, z_comp3, z_lstC, z_compN, z_compC, z_stepA, z_stepCT, z_stepCF, z_stepE, x_snil, x_scons, x_asg, x_par, x_if, x_for, x_ret, x_raise, x_exp, x_brk, x_cont, x_pass, x_while, x_def, y_seqN, y_seqR, y_seqX, y_seqB, y_seqC, y_asg, y_asgX, y_asgO, y_ifT, y_ifF, y_for, y_ret, y_retX, y_exp, y_endR, y_endN, y_endX, z_forN, z_forC, z_forS, z_forBn, z_forBc, z_forBb, z_forBr, z_forBx, binD_add, binD_sub, cmpD_lt, cmpD_le, cmpD_gt, cmpD_ge, ix_t0, ix_t1, ix_t2, ix_l0, ix_l1, Rs.ofO_some, List.map, List.length_cons, List.length_nil, List.replicate, List.cons_append, List.nil_append, List.getElem?_cons_zero, List.getElem?_cons_succ, List.set_cons_zero, List.set_cons_succ, Nat.reduceAdd, Nat.reduceSub, Nat.reduceLT, t_name, t_tup, t_nil, t_cons, t_asgC, t_Lname, t_LtupT, t_LtupL, if_true, Nat.zero_lt_succ, Nat.lt_add_left_iff_pos, wipeE, m0, m1, vec]
theorem d__law_gone_eq {a b : Nat} {p q : Pt} (hp : SzP a p) (hq : SzP b q) (h : a + b ≤ 9000) : d__law_gone [encP p, encP q] = .ok (encP (vec p q)) := by
  have m0 := d__law_minus_eq hq.1 hp.1 (show b + a ≤ 9000 by omega)
  have m1 := d__law_minus_eq hq.2 hp.2 (show b + a ≤ 9000 by omega)
  unfold d__law_gone b__law_gone
  simp -implicitDefEqProofs only [encP, x_var, x_int, x_str, x_bl, x_non, x_glob, x_tup, x_lst, x_bin, x_neg, x_cmp, x_chain, x_isN, x_notN, x_and, x_or, x_not, x_ite, x_ix, x_call, x_bi, x_isi, x_comp, x_enil, x_econs, x_cnil, x_ccons, x_iseq, x_irange, x_ienum, x_izip, x_irev, x_lzip, x_slc, x_onil, x_ocons, x_rev, y_sl, y_bin, y_cmp, y_cons, y_neg, y_isN, y_notN, y_and, y_or, y_andB, y_orB, y_not, y_iteT, y_iteF, y_ix, y_call0, y_call1, y_call2, y_call3, y_call4, y_call5, y_bi, y_isi, y_chain, y_chainT, y_chainF, y_tup0, y_tup1, y_tup2, y_tup3, y_tup4, y_lst0, y_lst1, y_lst2, y_lst3, y_lst4, y_lst5, y_lst6, y_lst7, y_seqT, y_seqL, y_enum, y_zip, y_zipT, y_lzip, y_rev, y_opt, y_slc, y_revL, z_comp0, z_comp1, z_comp2, z_comp3, z_lstC, z_compN, z_compC, z_stepA, z_stepCT, z_stepCF, z_stepE, x_snil, x_scons, x_asg, x_par, x_if, x_for, x_ret, x_raise, x_exp, x_brk, x_cont, x_pass, x_while, x_def, y_seqN, y_seqR, y_seqX, y_seqB, y_seqC, y_asg, y_asgX, y_asgO, y_ifT, y_ifF, y_for, y_ret, y_retX, y_exp, y_endR, y_endN, y_endX, z_forN, z_forC, z_forS, z_forBn, z_forBc, z_forBb, z_forBr, z_forBx, binD_add, binD_sub, cmpD_lt, cmpD_le, cmpD_gt, cmpD_ge, ix_t0, ix_t1, ix_t2, ix_l0, ix_l1, Rs.ofO_some, List.map, List.length_cons, List.length_nil, List.replicate, List.cons_append, List.nil_append, List.getElem?_cons_zero, List.getElem?_cons_succ, List.set_cons_zero, List.set_cons_succ, Nat.reduceAdd, Nat.reduceSub, Nat.reduceLT, t_name, t_tup, t_nil, t_cons, t_asgC, t_Lname, t_LtupT, t_LtupL, if_true, Nat.zero_lt_succ, Nat.lt_add_left_iff_pos, wipeE, m0, m1, vec]
theorem d_inner_eq {a b : Nat} {p q : Pt} (hp : SzP a p) (hq : SzP b q) (h : 2 * a + 2 * b ≤ 9000) : d_inner [encP p, encP q] = .ok (enc (dot p q)) := by
  have m0 := d_times_eq hp.1 hq.1 (show a + b ≤ 9000 by omega)
  have m1 := d_times_eq hp.2 hq.2 (show a + b ≤ 9000 by omega)
  have m2 := d_plus_eq (hp.1.mul hq.1) (hp.2.mul hq.2) (show (a + b) + (a + b) ≤ 9000 by omega)
  unfold d_inner b_inner
  simp -implicitDefEqProofs only [encP, x_var, x_int, x_str, x_bl, x_non, x_glob, x_tup, x_lst, x_bin, x_neg, x_cmp, x_chain, x_isN, x_notN, x_and, x_or, x_not, x_ite, x_ix, x_call, x_bi, x_isi, x_comp, x_enil, x_econs, x_cnil, x_ccons, x_iseq, x_irange, x_ienum, x_izip, x_irev, x_lzip, x_slc, x_onil, x_ocons, x_rev, y_sl, y_bin, y_cmp, y_cons, y_neg, y_isN, y_notN, y_and, y_or, y_andB, y_orB, y_not, y_iteT, y_iteF, y_ix, y_call0, y_call1, y_call2, y_call3, y_call4, y_call5, y_bi, y_isi, y_chain, y_chainT, y_chainF, y_tup0, y_tup1, y_tup2, y_tup3, y_tup4, y_lst0, y_lst1, y_lst2, y_lst3, y_lst4, y_lst5, y_lst6, y_lst7, y_seqT, y_seqL, y_enum, y_zip, y_zipT, y_lzip, y_rev, y_opt, y_slc, y_revL, z_comp0, z_comp1, z_comp2, z_comp3, z_lstC, z_compN, z_compC, z_stepA, z_stepCT, z_stepCF, z_stepE, x_snil, x_scons, x_asg, x_par, x_if, x_for, x_ret, x_raise, x_exp, x_brk, x_cont, x_pass, x_while, x_def, y_seqN, y_seqR, y_seqX, y_seqB, y_seqC, y_asg, y_asgX, y_asgO, y_ifT, y_ifF, y_for, y_ret, y_retX, y_exp, y_endR, y_endN, y_endX, z_forN, z_forC, z_forS, z_forBn, z_forBc, z_forBb, z_forBr, z_forBx, binD_add, binD_sub, cmpD_lt, cmpD_le, cmpD_gt, cmpD_ge, ix_t0, ix_t1, ix_t2, ix_l0, ix_l1, Rs.ofO_some, List.map, List.length_cons, List.length_nil, List.replicate, List.cons_append, List.nil_append, List.getElem?_cons_zero, List.getElem?_cons_succ, List.set_cons_zero, List.set_cons_succ, Nat.reduceAdd, Nat.reduceSub, Nat.reduceLT, t_name, t_tup, t_nil, t_cons, t_asgC, t_Lname, t_LtupT, t_LtupL, if_true, Nat.zero_lt_succ, Nat.lt_add_left_iff_pos, wipeE, m0, m1, m2, dot]
theorem d_across_eq {a b : Nat} {p q : Pt} (hp : SzP a p) (hq : SzP b q) (h : 2 * a + 2 * b ≤ 9000) : d_across [encP p, encP q] = .ok (enc (crs p q)) := by
  have m0 := d_times_eq hp.1 hq.2 (show a + b ≤ 9000 by omega)
  have m1 := d_times_eq hp.2 hq.1 (show a + b ≤ 9000 by omega)
  have m2 := d_minus_eq (hp.1.mul hq.2) (hp.2.mul hq.1) (show (a + b) + (a + b) ≤ 9000 by omega)
  unfold d_across b_across
  simp -implicitDefEqProofs only [encP, x_var, x_int, x_str, x_bl, x_non, x_glob, x_tup, x_lst, x_bin, x_neg, x_cmp, x_chain, x_isN, x_notN, x_and, x_or, x_not, x_ite, x_ix, x_call, x_bi, x_isi, x_comp, x_enil, x_econs, x_cnil, x_ccons, x_iseq, x_irange, x_ienum, x_izip, x_irev, x_lzip, x_slc, x_onil, x_ocons, x_rev, y_sl, y_bin, y_cmp, y_cons, y_neg, y_isN, y_notN, y_and, y_or, y_andB, y_orB, y_not, y_iteT, y_iteF, y_ix, y_call0, y_call1, y_call2, y_call3, y_call4, y_call5, y_bi, y_isi, y_chain, y_chainT, y_chainF, y_tup0, y_tup1, y_tup2, y_tup3, y_tup4, y_lst0, y_lst1, y_lst2, y_lst3, y_lst4, y_lst5, y_lst6, y_lst7, y_seqT, y_seqL, y_enum, y_zip, y_zipT, y_lzip, y_rev, y_opt, y_slc, y_revL, z_comp0, z_comp1, z_comp2, z_comp3, z_lstC, z_compN, z_compC, z_stepA, z_stepCT, z_stepCF, z_stepE, x_snil, x_scons, x_asg, x_par, x_if, x_for, x_ret, x_raise, x_exp, x_brk, x_cont, x_pass, x_while, x_def, y_seqN, y_seqR, y_seqX, y_seqB, y_seqC, y_asg, y_asgX, y_asgO, y_ifT, y_ifF, y_for, y_ret, y_retX, y_exp, y_endR, y_endN, y_endX, z_forN, z_forC, z_forS, z_forBn, z_forBc, z_forBb, z_forBr, z_forBx, binD_add, binD_sub, cmpD_lt, cmpD_le, cmpD_gt, cmpD_ge, ix_t0, ix_t1, ix_t2, ix_l0, ix_l1, Rs.ofO_some, List.map, List.length_cons, List.length_nil, List.replicate, List.cons_append, List.nil_append, List.getElem?_cons_zero, List.getElem?_cons_succ, List.set_cons_zero, List.set_cons_succ, Nat.reduceAdd, Nat.reduceSub, Nat.reduceLT, t_name, t_tup, t_nil, t_cons, t_asgC, t_Lname, t_LtupT, t_LtupL, if_true, Nat.zero_lt_succ, Nat.lt_add_left_iff_pos, wipeE, m0, m1, m2, crs]
theorem d__law_inner_eq {a b : Nat} {p q : Pt} (hp : SzP a p) (hq : SzP b q) (h : 2 * a + 2 * b ≤ 9000) : d__law_inner [encP p, encP q] = .ok (enc (dot p q)) := by
  have m0 := d__law_times_eq hp.1 hq.1 (show a + b ≤ 9000 by omega)
  have m1 := d__law_times_eq hp.2 hq.2 (show a + b ≤ 9000 by omega)
  have m2 := d__law_plus_eq (hp.1.mul hq.1) (hp.2.mul hq.2) (show (a + b) + (a + b) ≤ 9000 by omega)
  unfold d__law_inner b__law_inner
  simp -implicitDefEqProofs only [encP, x_var, x_int, x_str, x_bl, x_non, x_glob, x_tup, x_lst, x_bin, x_neg, x_cmp, x_chain, x_isN, x_notN, x_and, x_or, x_not, x_ite, x_ix, x_call, x_bi, x_isi, x_comp, x_enil, x_econs, x_cnil, x_ccons, x_iseq, x_irange, x_ienum, x_izip, x_irev, x_lzip, x_slc, x_onil, x_ocons, x_rev, y_sl, y_bin, y_cmp, y_cons, y_neg, y_isN, y_notN, y_and, y_or, y_andB, y_orB, y_not, y_iteT, y_iteF, y_ix, y_call0, y_call1, y_call2, y_call3, y_call4, y_call5, y_bi, y_isi, y_chain, y_chainT, y_chainF, y_tup0, y_tup1, y_tup2, y_tup3, y_tup4, y_lst0, y_lst1, y_lst2, y_lst3, y_lst4, y_lst5, y_lst6, y_lst7, y_seqT, y_seqL, y_enum, y_zip, y_zipT, y_lzip, y_rev, y_opt, y_slc, y_revL, z_comp0, z_comp1, z_comp2, z_comp3, z_lstC, z_compN, z_compC, z_stepA, z_stepCT, z_stepCF, z_stepE, x_snil, x_scons, x_asg, x_par, x_if, x_for, x_ret, x_raise, x_exp, x_brk, x_cont, x_pass, x_while, x_def, y_seqN, y_seqR, y_seqX, y_seqB, y_seqC, y_asg, y_asgX, y_asgO, y_ifT, y_ifF, y_for, y_ret, y_retX, y_exp, y_endR, y_endN, y_endX, z_forN, z_forC, z_forS, z_forBn, z_forBc, z_forBb, z_forBr, z_forBx, binD_add, binD_sub, cmpD_lt, cmpD_le, cmpD_gt, cmpD_ge, ix_t0, ix_t1, ix_t2, ix_l0, ix_l1, Rs.ofO_some, List.map, List.length_cons, List.length_nil, List.replicate, List.cons_append, List.nil_append, List.getElem?_cons_zero, List.getElem?_cons_succ, List.set_cons_zero, List.set_cons_succ, Nat.reduceAdd, Nat.reduceSub, Nat.reduceLT, t_name, t_tup, t_nil, t_cons, t_asgC, t_Lname, t_LtupT, t_LtupL, if_true, Nat.zero_lt_succ, Nat.lt_add_left_iff_pos, wipeE, m0, m1, m2, dot]
theorem d__law_across_eq {a b : Nat} {p q : Pt} (hp : SzP a p) (hq : SzP b q) (h : 2 * a + 2 * b ≤ 9000) : d__law_across [encP p, encP q] = .ok (enc (crs p q)) := by
  have m0 := d__law_times_eq hp.1 hq.2 (show a + b ≤ 9000 by omega)
  have m1 := d__law_times_eq hp.2 hq.1 (show a + b ≤ 9000 by omega)
  have m2 := d__law_minus_eq (hp.1.mul hq.2) (hp.2.mul hq.1) (show (a + b) + (a + b) ≤ 9000 by omega)
  unfold d__law_across b__law_across
  simp -implicitDefEqProofs only [encP, x_var, x_int, x_str, x_bl, x_non, x_glob, x_tup, x_lst, x_bin, x_neg, x_cmp, x_chain, x_isN, x_notN, x_and, x_or, x_not, x_ite, x_ix, x_call, x_bi, x_isi, x_comp, x_enil, x_econs, x_cnil, x_ccons, x_iseq, x_irange, x_ienum, x_izip, x_irev, x_lzip, x_slc, x_onil, x_ocons, x_rev, y_sl, y_bin, y_cmp, y_cons, y_neg, y_isN, y_notN, y_and, y_or, y_andB, y_orB, y_not, y_iteT, y_iteF, y_ix, y_call0, y_call1, y_call2, y_call3, y_call4, y_call5, y_bi, y_isi, y_chain, y_chainT, y_chainF, y_tup0, y_tup1, y_tup2, y_tup3, y_tup4, y_lst0, y_lst1, y_lst2, y_lst3, y_lst4, y_lst5, y_lst6, y_lst7, y_seqT, y_seqL, y_enum, y_zip, y_zipT, y_lzip, y_rev, y_opt, y_slc, y_revL, z_comp0, z_comp1, z_comp2, z_comp3, z_lstC, z_compN, z_compC, z_stepA, z_stepCT, z_stepCF, z_stepE, x_snil, x_scons, x_asg, x_par, x_if, x_for, x_ret, x_raise, x_exp, x_brk, x_cont, x_pass, x_while, x_def, y_seqN, y_seqR, y_seqX, y_seqB, y_seqC, y_asg, y_asgX, y_asgO, y_ifT, y_ifF, y_for, y_ret, y_retX, y_exp, y_endR, y_endN, y_endX, z_forN, z_forC, z_forS, z_forBn, z_forBc, z_forBb, z_forBr, z_forBx, binD_add, binD_sub, cmpD_lt, cmpD_le, cmpD_gt, cmpD_ge, ix_t0, ix_t1, ix_t2, ix_l0, ix_l1, Rs.ofO_some, List.map, List.length_cons, List.length_nil, List.replicate, List.cons_append, List.nil_append, List.getElem?_cons_zero, List.getElem?_cons_succ, List.set_cons_zero, List.set_cons_succ, Nat.reduceAdd, Nat.reduceSub, Nat.reduceLT, t_name, t_tup, t_nil, t_cons, t_asgC, t_Lname, t_LtupT, t_LtupL, if_true, Nat.zero_lt_succ, Nat.lt_add_left_iff_pos, wipeE, m0, m1, m2, crs]
theorem d_square_far_eq {a b : Nat} {p q : Pt} (hp : SzP a p) (hq : SzP b q) (h : 4 * a + 4 * b + 4 ≤ 9000) : d_square_far [encP p, encP q] = .ok (enc (far p q)) := by
  have m0 := d_step_from_eq hp hq (show a + b ≤ 9000 by omega)
  have m2 := d_inner_eq (hp.vec hq) (hp.vec hq) (show 2 * (a + b + 1) + 2 * (a + b + 1) ≤ 9000 by omega)
  unfold d_square_far b_square_far
  simp -implicitDefEqProofs only [x_var, x_int, x_str, x_bl, x_non, x_glob, x_tup, x_lst, x_bin, x_neg, x_cmp, x_chain, x_isN, x_notN, x_and, x_or, x_not, x_ite, x_ix, x_call, x_bi, x_isi, x_comp, x_enil, x_econs, x_cnil, x_ccons, x_iseq, x_irange, x_ienum, x_izip, x_irev, x_lzip, x_slc, x_onil, x_ocons, x_rev, y_sl, y_bin, y_cmp, y_cons, y_neg, y_isN, y_notN, y_and, y_or, y_andB, y_orB, y_not, y_iteT, y_iteF, y_ix, y_call0, y_call1, y_call2, y_call3, y_call4, y_call5, y_bi, y_isi, y_chain, y_chainT, y_chainF, y_tup0, y_tup1, y_tup2, y_tup3, y_tup4, y_lst0, y_lst1, y_lst2, y_lst3, y_lst4, y_lst5, y_lst6, y_lst7, y_seqT, y_seqL, y_enum, y_zip, y_zipT, y_lzip, y_rev, y_opt, y_slc, y_revL, z_comp0, z_comp1, z_comp2, z_comp3, z_lstC, z_compN, z_compC, z_stepA, z_stepCT, z_stepCF, z_stepE, x_snil, x_scons, x_asg, x_par, x_if, x_for, x_ret, x_raise, x_exp, x_brk, x_cont, x_pass, x_while, x_def, y_seqN, y_seqR, y_seqX, y_seqB, y_seqC, y_asg, y_asgX, y_asgO, y_ifT, y_ifF, y_for, y_ret, y_retX, y_exp, y_endR, y_endN, y_endX, z_forN, z_forC, z_forS, z_forBn, z_forBc, z_forBb, z_forBr, z_forBx, binD_add, binD_sub, cmpD_lt, cmpD_le, cmpD_gt, cmpD_ge, ix_t0, ix_t1, ix_t2, ix_l0, ix_l1, Rs.ofO_some, List.map, List.length_cons, List.length_nil, List.replicate, List.cons_append, List.nil_append, List.getElem?_cons_zero, List.getElem?_cons_succ, List.set_cons_zero, List.set_cons_succ, Nat.reduceAdd, Nat.reduceSub, Nat.reduceLT, t_name, t_tup, t_nil, t_cons, t_asgC, t_Lname, t_LtupT, t_LtupL, if_true, Nat.zero_lt_succ, Nat.lt_add_left_iff_pos, wipeE, m0, m2]
  rfl
theorem d__law_sense_eq {b : Nat} {p q r : Pt} (hp : SzP b p) (hq : SzP b q) (hr : SzP b r) (h : 8 * b + 4 ≤ 9000) : d__law_sense [encP p, encP q, encP r] = .ok (.int (sgn (crs (vec p q) (vec p r)))) := by
  have m0 := d__law_gone_eq hp hq (show b + b ≤ 9000 by omega)
  have m1 := d__law_gone_eq hp hr (show b + b ≤ 9000 by omega)
  have m2 := d__law_across_eq (hp.vec hq) (hp.vec hr) (show 2 * (b + b + 1) + 2 * (b + b + 1) ≤ 9000 by omega)
  unfold d__law_sense b__law_sense
  simp -implicitDefEqProofs only [x_var, x_int, x_str, x_bl, x_non, x_glob, x_tup, x_lst, x_bin, x_neg, x_cmp, x_chain, x_isN, x_notN, x_and, x_or, x_not, x_ite, x_ix, x_call, x_bi, x_isi, x_comp, x_enil, x_econs, x_cnil, x_ccons, x_iseq, x_irange, x_ienum, x_izip, x_irev, x_lzip, x_slc, x_onil, x_ocons, x_rev, y_sl, y_bin, y_cmp, y_cons, y_neg, y_isN, y_notN, y_and, y_or, y_andB, y_orB, y_not, y_iteT, y_iteF, y_ix, y_call0, y_call1, y_call2, y_call3, y_call4, y_call5, y_bi, y_isi, y_chain, y_chainT, y_chainF, y_tup0, y_tup1, y_tup2, y_tup3, y_tup4, y_lst0, y_lst1, y_lst2, y_lst3, y_lst4, y_lst5, y_lst6, y_lst7, y_seqT, y_seqL, y_enum, y_zip, y_zipT, y_lzip, y_rev, y_opt, y_slc, y_revL, z_comp0, z_comp1, z_comp2, z_comp3, z_lstC, z_compN, z_compC, z_stepA, z_stepCT, z_stepCF, z_stepE, x_snil, x_scons, x_asg, x_par, x_if, x_for, x_ret, x_raise, x_exp, x_brk, x_cont, x_pass, x_while, x_def, y_seqN, y_seqR, y_seqX, y_seqB, y_seqC, y_asg, y_asgX, y_asgO, y_ifT, y_ifF, y_for, y_ret, y_retX, y_exp, y_endR, y_endN, y_endX, z_forN, z_forC, z_forS, z_forBn, z_forBc, z_forBb, z_forBr, z_forBx, binD_add, binD_sub, cmpD_lt, cmpD_le, cmpD_gt, cmpD_ge, ix_t0, ix_t1, ix_t2, ix_l0, ix_l1, Rs.ofO_some, List.map, List.length_cons, List.length_nil, List.replicate, List.cons_append, List.nil_append, List.getElem?_cons_zero, List.getElem?_cons_succ, List.set_cons_zero, List.set_cons_succ, Nat.reduceAdd, Nat.reduceSub, Nat.reduceLT, t_name, t_tup, t_nil, t_cons, t_asgC, t_Lname, t_LtupT, t_LtupL, if_true, Nat.zero_lt_succ, Nat.lt_add_left_iff_pos, wipeE, m0, m1, m2]
  simp -implicitDefEqProofs only [x_var, x_int, x_str, x_bl, x_non, x_glob, x_tup, x_lst, x_bin, x_neg, x_cmp, x_chain, x_isN, x_notN, x_and, x_or, x_not, x_ite, x_ix, x_call, x_bi, x_isi, x_comp, x_enil, x_econs, x_cnil, x_ccons, x_iseq, x_irange, x_ienum, x_izip, x_irev, x_lzip, x_slc, x_onil, x_ocons, x_rev, y_sl, y_bin, y_cmp, y_cons, y_neg, y_isN, y_notN, y_and, y_or, y_andB, y_orB, y_not, y_iteT, y_iteF, y_ix, y_call0, y_call1, y_call2, y_call3, y_call4, y_call5, y_bi, y_isi, y_chain, y_chainT, y_chainF, y_tup0, y_tup1, y_tup2, y_tup3, y_tup4, y_lst0, y_lst1, y_lst2, y_lst3, y_lst4, y_lst5, y_lst6, y_lst7, y_seqT, y_seqL, y_enum, y_zip, y_zipT, y_lzip, y_rev, y_opt, y_slc, y_revL, z_comp0, z_comp1, z_comp2, z_comp3, z_lstC, z_compN, z_compC, z_stepA, z_stepCT, z_stepCF, z_stepE, x_snil, x_scons, x_asg, x_par, x_if, x_for, x_ret, x_raise, x_exp, x_brk, x_cont, x_pass, x_while, x_def, y_seqN, y_seqR, y_seqX, y_seqB, y_seqC, y_asg, y_asgX, y_asgO, y_ifT, y_ifF, y_for, y_ret, y_retX, y_exp, y_endR, y_endN, y_endX, z_forN, z_forC, z_forS, z_forBn, z_forBc, z_forBb, z_forBr, z_forBx, binD_add, binD_sub, cmpD_lt, cmpD_le, cmpD_gt, cmpD_ge, ix_t0, ix_t1, ix_t2, ix_l0, ix_l1, Rs.ofO_some, List.map, List.length_cons, List.length_nil, List.replicate, List.cons_append, List.nil_append, List.getElem?_cons_zero, List.getElem?_cons_succ, List.set_cons_zero, List.set_cons_succ, Nat.reduceAdd, Nat.reduceSub, Nat.reduceLT, t_name, t_tup, t_nil, t_cons, t_asgC, t_Lname, t_LtupT, t_LtupL, if_true, Nat.zero_lt_succ, Nat.lt_add_left_iff_pos, wipeE, enc, biD, num_pos, num_neg, sgn, decide_eq_true_eq]
theorem d__law_square_eq {a b : Nat} {p q : Pt} (hp : SzP a p) (hq : SzP b q) (h : 4 * a + 4 * b + 4 ≤ 9000) : d__law_square [encP p, encP q] = .ok (enc (far p q)) := by
  have m0 := d__law_gone_eq hp hq (show a + b ≤ 9000 by omega)
  have m2 := d__law_inner_eq (hp.vec hq) (hp.vec hq) (show 2 * (a + b + 1) + 2 * (a + b + 1) ≤ 9000 by omega)
  unfold d__law_square b__law_square
  simp -implicitDefEqProofs only [x_var, x_int, x_str, x_bl, x_non, x_glob, x_tup, x_lst, x_bin, x_neg, x_cmp, x_chain, x_isN, x_notN, x_and, x_or, x_not, x_ite, x_ix, x_call, x_bi, x_isi, x_comp, x_enil, x_econs, x_cnil, x_ccons, x_iseq, x_irange, x_ienum, x_izip, x_irev, x_lzip, x_slc, x_onil, x_ocons, x_rev, y_sl, y_bin, y_cmp, y_cons, y_neg, y_isN, y_notN, y_and, y_or, y_andB, y_orB, y_not, y_iteT, y_iteF, y_ix, y_call0, y_call1, y_call2, y_call3, y_call4, y_call5, y_bi, y_isi, y_chain, y_chainT, y_chainF, y_tup0, y_tup1, y_tup2, y_tup3, y_tup4, y_lst0, y_lst1, y_lst2, y_lst3, y_lst4, y_lst5, y_lst6, y_lst7, y_seqT, y_seqL, y_enum, y_zip, y_zipT, y_lzip, y_rev, y_opt, y_slc, y_revL, z_comp0, z_comp1, z_comp2, z_comp3, z_lstC, z_compN, z_compC, z_stepA, z_stepCT, z_stepCF, z_stepE, x_snil, x_scons, x_asg, x_par, x_if, x_for, x_ret, x_raise, x_exp, x_brk, x_cont, x_pass, x_while, x_def, y_seqN, y_seqR, y_seqX, y_seqB, y_seqC, y_asg, y_asgX, y_asgO, y_ifT, y_ifF, y_for, y_ret, y_retX, y_exp, y_endR, y_endN, y_endX, z_forN, z_forC, z_forS, z_forBn, z_forBc, z_forBb, z_forBr, z_forBx, binD_add, binD_sub, cmpD_lt, cmpD_le, cmpD_gt, cmpD_ge, ix_t0, ix_t1, ix_t2, ix_l0, ix_l1, Rs.ofO_some, List.map, List.length_cons, List.length_nil, List.replicate, List.cons_append, List.nil_append, List.getElem?_cons_zero, List.getElem?_cons_succ, List.set_cons_zero, List.set_cons_succ, Nat.reduceAdd, Nat.reduceSub, Nat.reduceLT, t_name, t_tup, t_nil, t_cons, t_asgC, t_Lname, t_LtupT, t_LtupL, if_true, Nat.zero_lt_succ, Nat.lt_add_left_iff_pos, wipeE, m0, m2]
  rfl
theorem at_sz {a b : Nat} {w : Wl} {t : Rat} (hw : SzW a w) (ht : Sz b t) : SzP (3 * a + b + 2) (at_ w t) :=
  have hv := hw.1.vec hw.2
  ⟨(hw.1.1.add (ht.mul hv.1)).mono (by omega), (hw.1.2.add (ht.mul hv.2)).mono (by omega)⟩
theorem d_point_at_eq {a b : Nat} {w : Wl} {t : Rat} (hw : SzW a w) (ht : Sz b t) (h : 3 * a + b + 2 ≤ 9000) : d_point_at [encW w, enc t] = .ok (encP (at_ w t)) := by
  have hv := hw.1.vec hw.2
  have m0 := d_step_from_eq hw.1 hw.2 (by omega)
  have m1 := d_times_eq ht hv.1 (by omega)
  have m2 := d_times_eq ht hv.2 (by omega)
  have m3 := d_plus_eq hw.1.1 (ht.mul hv.1) (by omega)
  have m4 := d_plus_eq hw.1.2 (ht.mul hv.2) (by omega)
  unfold d_point_at b_point_at
  simp -implicitDefEqProofs only [x_var, x_int, x_str, x_bl, x_non, x_glob, x_tup, x_lst, x_bin, x_neg, x_cmp, x_chain, x_isN, x_notN, x_and, x_or, x_not, x_ite, x_ix, x_call, x_bi, x_isi, x_comp, x_enil, x_econs, x_cnil, x_ccons, x_iseq, x_irange, x_ienum, x_izip, x_irev, x_lzip, x_slc, x_onil, x_ocons, x_rev, y_sl, y_bin, y_cmp, y_cons, y_neg, y_isN, y_notN, y_and, y_or, y_andB, y_orB, y_not, y_iteT, y_iteF, y_ix, y_call0, y_call1, y_call2, y_call3, y_call4, y_call5, y_bi, y_isi, y_chain, y_chainT, y_chainF, y_tup0, y_tup1, y_tup2, y_tup3, y_tup4, y_lst0, y_lst1, y_lst2, y_lst3, y_lst4, y_lst5, y_lst6, y_lst7, y_seqT, y_seqL, y_enum, y_zip, y_zipT, y_lzip, y_rev, y_opt, y_slc, y_revL, z_comp0, z_comp1, z_comp2, z_comp3, z_lstC, z_compN, z_compC, z_stepA, z_stepCT, z_stepCF, z_stepE, x_snil, x_scons, x_asg, x_par, x_if, x_for, x_ret, x_raise, x_exp, x_brk, x_cont, x_pass, x_while, x_def, y_seqN, y_seqR, y_seqX, y_seqB, y_seqC, y_asg, y_asgX, y_asgO, y_ifT, y_ifF, y_for, y_ret, y_retX, y_exp, y_endR, y_endN, y_endX, z_forN, z_forC, z_forS, z_forBn, z_forBc, z_forBb, z_forBr, z_forBx, binD_add, binD_sub, cmpD_lt, cmpD_le, cmpD_gt, cmpD_ge, ix_t0, ix_t1, ix_t2, ix_l0, ix_l1, Rs.ofO_some, List.map, List.length_cons, List.length_nil, List.replicate, List.cons_append, List.nil_append, List.getElem?_cons_zero, List.getElem?_cons_succ, List.set_cons_zero, List.set_cons_succ, Nat.reduceAdd, Nat.reduceSub, Nat.reduceLT, t_name, t_tup, t_nil, t_cons, t_asgC, t_Lname, t_LtupT, t_LtupL, if_true, Nat.zero_lt_succ, Nat.lt_add_left_iff_pos, wipeE, encW, m0]
  simp -implicitDefEqProofs only [x_var, x_int, x_str, x_bl, x_non, x_glob, x_tup, x_lst, x_bin, x_neg, x_cmp, x_chain, x_isN, x_notN, x_and, x_or, x_not, x_ite, x_ix, x_call, x_bi, x_isi, x_comp, x_enil, x_econs, x_cnil, x_ccons, x_iseq, x_irange, x_ienum, x_izip, x_irev, x_lzip, x_slc, x_onil, x_ocons, x_rev, y_sl, y_bin, y_cmp, y_cons, y_neg, y_isN, y_notN, y_and, y_or, y_andB, y_orB, y_not, y_iteT, y_iteF, y_ix, y_call0, y_call1, y_call2, y_call3, y_call4, y_call5, y_bi, y_isi, y_chain, y_chainT, y_chainF, y_tup0, y_tup1, y_tup2, y_tup3, y_tup4, y_lst0, y_lst1, y_lst2, y_lst3, y_lst4, y_lst5, y_lst6, y_lst7, y_seqT, y_seqL, y_enum, y_zip, y_zipT, y_lzip, y_rev, y_opt, y_slc, y_revL, z_comp0, z_comp1, z_comp2, z_comp3, z_lstC, z_compN, z_compC, z_stepA, z_stepCT, z_stepCF, z_stepE, x_snil, x_scons, x_asg, x_par, x_if, x_for, x_ret, x_raise, x_exp, x_brk, x_cont, x_pass, x_while, x_def, y_seqN, y_seqR, y_seqX, y_seqB, y_seqC, y_asg, y_asgX, y_asgO, y_ifT, y_ifF, y_for, y_ret, y_retX, y_exp, y_endR, y_endN, y_endX, z_forN, z_forC, z_forS, z_forBn, z_forBc, z_forBb, z_forBr, z_forBx, binD_add, binD_sub, cmpD_lt, cmpD_le, cmpD_gt, cmpD_ge, ix_t0, ix_t1, ix_t2, ix_l0, ix_l1, Rs.ofO_some, List.map, List.length_cons, List.length_nil, List.replicate, List.cons_append, List.nil_append, List.getElem?_cons_zero, List.getElem?_cons_succ, List.set_cons_zero, List.set_cons_succ, Nat.reduceAdd, Nat.reduceSub, Nat.reduceLT, t_name, t_tup, t_nil, t_cons, t_asgC, t_Lname, t_LtupT, t_LtupL, if_true, Nat.zero_lt_succ, Nat.lt_add_left_iff_pos, wipeE, encP, m1, m2, m3, m4, at_]
end Mn
/-! walls, the walk -/
namespace Mn
open PySem PySem.Spec PyProof.Rows L2
/-! ### equality of fractions and points -/
theorem rat_ext {p q : Rat} (h1 : p.num = q.num) (h2 : p.den = q.den) : p = q := by
  rw [← Rat.mkRat_self p, ← Rat.mkRat_self q, h1, h2]
theorem eqv_enc (p q : Rat) : PyData.eqv (enc p) (enc q) = decide (p = q) := by
  unfold enc
  simp only [PyData.eqv, PyData.eqvAll, Bool.and_true]
  by_cases h : p = q
  · subst h; simp
  · simp only [h, decide_false]
    cases h1 : (p.num == q.num) with
    | false => simp
    | true =>
      cases h2 : ((p.den : Int) == (q.den : Int)) with
      | false => simp
      | true =>
        have h3 : (p.den : Int) = (q.den : Int) := by simpa using h2
        exact absurd (rat_ext (by simpa using h1) (by omega)) h
theorem eqv_encP (p q : Pt) : PyData.eqv (encP p) (encP q) = decide (p = q) := by
  unfold encP
  simp only [PyData.eqv, PyData.eqvAll, Bool.and_true, eqv_enc]
  rw [← Bool.decide_and]
  congr 1
  exact propext ⟨fun h => Prod.ext h.1 h.2, fun h => by rw [h]; exact ⟨rfl, rfl⟩⟩
theorem eqv_encW (p q : Wl) : PyData.eqv (encW p) (encW q) = decide (p = q) := by
  unfold encW
  simp only [PyData.eqv, PyData.eqvAll, Bool.and_true, eqv_encP]
  rw [← Bool.decide_and]
  congr 1
  exact propext ⟨fun h => Prod.ext h.1 h.2, fun h => by rw [h]; exact ⟨rfl, rfl⟩⟩
theorem shp_enc (p : Rat) : shp (enc p) = true := rfl
theorem shp_encP (p : Pt) : shp (encP p) = true := rfl
theorem shp_encW (p : Wl) : shp (encW p) = true := rfl
theorem shp_int (n : Int) : shp (.int n) = true := rfl
theorem cmp_eq {x y : D} (h : shp x = true) (h2 : shp y = true) (hd : ∀ k, x ≠ .dict k) : cmpD .Eq x y = .ok (.bool (PyData.eqv x y)) := by
  cases x with
  | dict k => exact absurd rfl (hd k)
  | _ =>
    show (if (shp _ && shp y) = true then Rs.ok (PyData.bool (PyData.eqv _ y)) else .no) = _
    rw [h, h2]; rfl
theorem cmp_ne {x y : D} (h : shp x = true) (h2 : shp y = true) : cmpD .NotEq x y = .ok (.bool (!PyData.eqv x y)) := by
  show (if (shp x && shp y) = true then Rs.ok (PyData.bool (!PyData.eqv x y)) else .no) = _
  rw [h, h2]; rfl
theorem cmp_in {x : D} {ds : List D} (h : shp x = true) (h2 : shp (.list ds) = true) : cmpD .In x (.list ds) = .ok (.bool (ds.any fun z => PyData.eqv z x)) := by
  show (if (shp x && shp (.list ds)) = true then Rs.ok (PyData.bool (ds.any fun z => PyData.eqv z x)) else .no) = _
  rw [h, h2]; rfl
theorem eq_q (p q : Rat) : cmpD .Eq (enc p) (enc q) = .ok (.bool (decide (p = q))) := by
  rw [cmp_eq rfl rfl (fun k => by simp [enc]), eqv_enc]
theorem ne_q (p q : Rat) : cmpD .NotEq (enc p) (enc q) = .ok (.bool (!decide (p = q))) := by
  rw [cmp_ne rfl rfl, eqv_enc]
theorem eq_p (p q : Pt) : cmpD .Eq (encP p) (encP q) = .ok (.bool (decide (p = q))) := by
  rw [cmp_eq rfl rfl (fun k => by simp [encP]), eqv_encP]
theorem ne_p (p q : Pt) : cmpD .NotEq (encP p) (encP q) = .ok (.bool (!decide (p = q))) := by
  rw [cmp_ne rfl rfl, eqv_encP]
theorem eq_w (p q : Wl) : cmpD .Eq (encW p) (encW q) = .ok (.bool (decide (p = q))) := by
  rw [cmp_eq rfl rfl (fun k => by simp [encW]), eqv_encW]
theorem ne_w (p q : Wl) : cmpD .NotEq (encW p) (encW q) = .ok (.bool (!decide (p = q))) := by
  rw [cmp_ne rfl rfl, eqv_encW]
theorem eq_i (i j : Int) : cmpD .Eq (.int i) (.int j) = .ok (.bool (decide (i = j))) := by
  rw [cmp_eq rfl rfl (fun k => by simp)]
  simp only [PyData.eqv]
  congr 2
theorem ne_i (i j : Int) : cmpD .NotEq (.int i) (.int j) = .ok (.bool (!decide (i = j))) := by
  rw [cmp_ne rfl rfl]
  simp only [PyData.eqv]
  congr 2
theorem enc0 : PyData.tuple [.int 0, .int 1] = enc 0 := rfl
theorem enc1 : PyData.tuple [.int 1, .int 1] = enc 1 := rfl
theorem sz0 : Sz 1 0 := by constructor <;> decide
theorem sz1 : Sz 1 1 := by constructor <;> decide
theorem W_ix0 (w : Wl) : ixD (encW w) (.int 0) = .ok (encP w.1) := ix_t0
theorem W_ix1 (w : Wl) : ixD (encW w) (.int 1) = .ok (encP w.2) := ix_t1
theorem P_ix0 (p : Pt) : ixD (encP p) (.int 0) = .ok (enc p.1) := ix_t0
theorem P_ix1 (p : Pt) : ixD (encP p) (.int 1) = .ok (enc p.2) := ix_t1
theorem q_ix0 (q : Rat) : ixD (enc q) (.int 0) = .ok (.int q.num) := ix_t0
theorem q_ix1 (q : Rat) : ixD (enc q) (.int 1) = .ok (.int q.den) := ix_t1
theorem W_seq (w : Wl) : iseqR (.ok (encW w)) = .ok [encP w.1, encP w.2] := rfl
/-! ### the program's walls -/
theorem near_sz {a b : Nat} {w : Wl} {p : Pt} (hw : SzW a w) (hp : SzP b p) : SzP (19 * a + 4 * b + 12) (nearR w p) := by
  have hv := hw.1.vec hw.2
  have hd := (hv.dot (hw.1.vec hp)).div (hv.dot hv)
  unfold nearR
  split
  · exact hw.1.mono (by omega)
  · split
    · exact hw.1.mono (by omega)
    · split
      · exact hw.2.mono (by omega)
      · exact (at_sz hw hd).mono (by omega)
theorem d_nearest_eq {a b : Nat} {w : Wl} {p : Pt} (hw : SzW a w) (hp : SzP b p) (h : 19 * a + 4 * b + 12 ≤ 9000) : d_nearest [encW w, encP p] = .ok (encP (nearR w p)) := by
  have hv := hw.1.vec hw.2
  have hq := hw.1.vec hp
  have hd := (hv.dot hq).div (hv.dot hv)
  have m0 := d_step_from_eq hw.1 hw.2 (by omega)
  have m1 := d_inner_eq hv hv (by omega)
  have m2 := d_step_from_eq hw.1 hp (by omega)
  have m3 := d_inner_eq hv hq (by omega)
  have m5 := d_is_less_eq hd sz0 (by omega)
  have m6 := d_is_less_eq sz1 hd (by omega)
  have m7 := d_point_at_eq hw hd (by omega)
  unfold d_nearest b_nearest nearR
  by_cases h0 : dot (vec w.1 w.2) (vec w.1 w.2) = 0
  · simp -implicitDefEqProofs only [x_var, x_int, x_str, x_bl, x_non, x_glob, x_tup, x_lst, x_bin, x_neg, x_cmp, x_chain, x_isN, x_notN, x_and, x_or, x_not, x_ite, x_ix, x_call, x_bi, x_isi, x_comp, x_enil, x_econs, x_cnil, x_ccons, x_iseq, x_irange, x_ienum, x_izip, x_irev, x_lzip, x_slc, x_onil, x_ocons, x_rev, y_sl, y_bin, y_cmp, y_cons, y_neg, y_isN, y_notN, y_and, y_or, y_andB, y_orB, y_not, y_iteT, y_iteF, y_ix, y_call0, y_call1, y_call2, y_call3, y_call4, y_call5, y_bi, y_isi, y_chain, y_chainT, y_chainF, y_tup0, y_tup1, y_tup2, y_tup3, y_tup4, y_lst0, y_lst1, y_lst2, y_lst3, y_lst4, y_lst5, y_lst6, y_lst7, y_seqT, y_seqL, y_enum, y_zip, y_zipT, y_lzip, y_rev, y_opt, y_slc, y_revL, z_comp0, z_comp1, z_comp2, z_comp3, z_lstC, z_compN, z_compC, z_stepA, z_stepCT, z_stepCF, z_stepE, x_snil, x_scons, x_asg, x_par, x_if, x_for, x_ret, x_raise, x_exp, x_brk, x_cont, x_pass, x_while, x_def, y_seqN, y_seqR, y_seqX, y_seqB, y_seqC, y_asg, y_asgX, y_asgO, y_ifT, y_ifF, y_for, y_ret, y_retX, y_exp, y_endR, y_endN, y_endX, z_forN, z_forC, z_forS, z_forBn, z_forBc, z_forBb, z_forBr, z_forBx, binD_add, binD_sub, cmpD_lt, cmpD_le, cmpD_gt, cmpD_ge, ix_t0, ix_t1, ix_t2, ix_l0, ix_l1, Rs.ofO_some, List.map, List.length_cons, List.length_nil, List.replicate, List.cons_append, List.nil_append, List.getElem?_cons_zero, List.getElem?_cons_succ, List.set_cons_zero, List.set_cons_succ, Nat.reduceAdd, Nat.reduceSub, Nat.reduceLT, t_name, t_tup, t_nil, t_cons, t_asgC, t_Lname, t_LtupT, t_LtupL, if_true, Nat.zero_lt_succ, Nat.lt_add_left_iff_pos, wipeE, y_if, y_seqI, y_endI, y_forBI, Bool.or_eq_true, Bool.and_eq_true, decide_eq_true_eq, enc0, enc1, W_ix0, W_ix1, m0, m1, eq_q, h0, if_true]
  · have m4 := d_over_eq (hv.dot hq) (hv.dot hv) h0 (by omega)
    simp -implicitDefEqProofs only [x_var, x_int, x_str, x_bl, x_non, x_glob, x_tup, x_lst, x_bin, x_neg, x_cmp, x_chain, x_isN, x_notN, x_and, x_or, x_not, x_ite, x_ix, x_call, x_bi, x_isi, x_comp, x_enil, x_econs, x_cnil, x_ccons, x_iseq, x_irange, x_ienum, x_izip, x_irev, x_lzip, x_slc, x_onil, x_ocons, x_rev, y_sl, y_bin, y_cmp, y_cons, y_neg, y_isN, y_notN, y_and, y_or, y_andB, y_orB, y_not, y_iteT, y_iteF, y_ix, y_call0, y_call1, y_call2, y_call3, y_call4, y_call5, y_bi, y_isi, y_chain, y_chainT, y_chainF, y_tup0, y_tup1, y_tup2, y_tup3, y_tup4, y_lst0, y_lst1, y_lst2, y_lst3, y_lst4, y_lst5, y_lst6, y_lst7, y_seqT, y_seqL, y_enum, y_zip, y_zipT, y_lzip, y_rev, y_opt, y_slc, y_revL, z_comp0, z_comp1, z_comp2, z_comp3, z_lstC, z_compN, z_compC, z_stepA, z_stepCT, z_stepCF, z_stepE, x_snil, x_scons, x_asg, x_par, x_if, x_for, x_ret, x_raise, x_exp, x_brk, x_cont, x_pass, x_while, x_def, y_seqN, y_seqR, y_seqX, y_seqB, y_seqC, y_asg, y_asgX, y_asgO, y_ifT, y_ifF, y_for, y_ret, y_retX, y_exp, y_endR, y_endN, y_endX, z_forN, z_forC, z_forS, z_forBn, z_forBc, z_forBb, z_forBr, z_forBx, binD_add, binD_sub, cmpD_lt, cmpD_le, cmpD_gt, cmpD_ge, ix_t0, ix_t1, ix_t2, ix_l0, ix_l1, Rs.ofO_some, List.map, List.length_cons, List.length_nil, List.replicate, List.cons_append, List.nil_append, List.getElem?_cons_zero, List.getElem?_cons_succ, List.set_cons_zero, List.set_cons_succ, Nat.reduceAdd, Nat.reduceSub, Nat.reduceLT, t_name, t_tup, t_nil, t_cons, t_asgC, t_Lname, t_LtupT, t_LtupL, if_true, Nat.zero_lt_succ, Nat.lt_add_left_iff_pos, wipeE, y_if, y_seqI, y_endI, y_forBI, Bool.or_eq_true, Bool.and_eq_true, decide_eq_true_eq, enc0, enc1, W_ix0, W_ix1, m0, m1, eq_q, h0, if_false, m2, m3, m4, m5, m6, m7]
    split
    · rfl
    · split <;> rfl
def encO : Option Pt → D
  | none => .none
  | some p => encP p
theorem d_crossing_eq {a : Nat} {u v : Wl} (hu : SzW a u) (hv : SzW a v) (h : 19 * a + 12 ≤ 9000) : d_crossing [encW u, encW v] = .ok (encO (crossR u v)) := by
  have gu := hu.1.vec hu.2
  have gv := hv.1.vec hv.2
  have gb := hu.1.vec hv.1
  have m0 := d_step_from_eq hu.1 hu.2 (by omega)
  have m1 := d_step_from_eq hv.1 hv.2 (by omega)
  have m2 := d_across_eq gu gv (by omega)
  have m3 := d_step_from_eq hu.1 hv.1 (by omega)
  have m4 := d_across_eq gb gv (by omega)
  have m5 := d_across_eq gb gu (by omega)
  have hs : Sz (16 * a + 10) (shr u v) := ((gb.crs gv).div (gu.crs gv)).mono (by omega)
  have ht : Sz (16 * a + 10) (shs u v) := ((gb.crs gu).div (gu.crs gv)).mono (by omega)
  have l1 := d_is_less_eq hs sz0 (by omega)
  have l2 := d_is_less_eq sz1 hs (by omega)
  have l3 := d_is_less_eq ht sz0 (by omega)
  have l4 := d_is_less_eq sz1 ht (by omega)
  have m7 := d_point_at_eq hu hs (by omega)
  unfold d_crossing b_crossing crossR
  by_cases h0 : crs (vec u.1 u.2) (vec v.1 v.2) = 0
  · simp -implicitDefEqProofs only [x_var, x_int, x_str, x_bl, x_non, x_glob, x_tup, x_lst, x_bin, x_neg, x_cmp, x_chain, x_isN, x_notN, x_and, x_or, x_not, x_ite, x_ix, x_call, x_bi, x_isi, x_comp, x_enil, x_econs, x_cnil, x_ccons, x_iseq, x_irange, x_ienum, x_izip, x_irev, x_lzip, x_slc, x_onil, x_ocons, x_rev, y_sl, y_bin, y_cmp, y_cons, y_neg, y_isN, y_notN, y_and, y_or, y_andB, y_orB, y_not, y_iteT, y_iteF, y_ix, y_call0, y_call1, y_call2, y_call3, y_call4, y_call5, y_bi, y_isi, y_chain, y_chainT, y_chainF, y_tup0, y_tup1, y_tup2, y_tup3, y_tup4, y_lst0, y_lst1, y_lst2, y_lst3, y_lst4, y_lst5, y_lst6, y_lst7, y_seqT, y_seqL, y_enum, y_zip, y_zipT, y_lzip, y_rev, y_opt, y_slc, y_revL, z_comp0, z_comp1, z_comp2, z_comp3, z_lstC, z_compN, z_compC, z_stepA, z_stepCT, z_stepCF, z_stepE, x_snil, x_scons, x_asg, x_par, x_if, x_for, x_ret, x_raise, x_exp, x_brk, x_cont, x_pass, x_while, x_def, y_seqN, y_seqR, y_seqX, y_seqB, y_seqC, y_asg, y_asgX, y_asgO, y_ifT, y_ifF, y_for, y_ret, y_retX, y_exp, y_endR, y_endN, y_endX, z_forN, z_forC, z_forS, z_forBn, z_forBc, z_forBb, z_forBr, z_forBx, binD_add, binD_sub, cmpD_lt, cmpD_le, cmpD_gt, cmpD_ge, ix_t0, ix_t1, ix_t2, ix_l0, ix_l1, Rs.ofO_some, List.map, List.length_cons, List.length_nil, List.replicate, List.cons_append, List.nil_append, List.getElem?_cons_zero, List.getElem?_cons_succ, List.set_cons_zero, List.set_cons_succ, Nat.reduceAdd, Nat.reduceSub, Nat.reduceLT, t_name, t_tup, t_nil, t_cons, t_asgC, t_Lname, t_LtupT, t_LtupL, if_true, Nat.zero_lt_succ, Nat.lt_add_left_iff_pos, wipeE, y_if, y_seqI, y_endI, y_forBI, Bool.or_eq_true, Bool.and_eq_true, decide_eq_true_eq, enc0, enc1, W_ix0, W_ix1, m0, m1, m2, eq_q, h0, if_true, encO]
  · have m8 := d_over_eq (gb.crs gv) (gu.crs gv) h0 (by omega)
    have m9 := d_over_eq (gb.crs gu) (gu.crs gv) h0 (by omega)
    rw [show crs (vec u.1 v.1) (vec v.1 v.2) / crs (vec u.1 u.2) (vec v.1 v.2) = shr u v from rfl] at m8
    rw [show crs (vec u.1 v.1) (vec u.1 u.2) / crs (vec u.1 u.2) (vec v.1 v.2) = shs u v from rfl] at m9
    simp -implicitDefEqProofs only [x_var, x_int, x_str, x_bl, x_non, x_glob, x_tup, x_lst, x_bin, x_neg, x_cmp, x_chain, x_isN, x_notN, x_and, x_or, x_not, x_ite, x_ix, x_call, x_bi, x_isi, x_comp, x_enil, x_econs, x_cnil, x_ccons, x_iseq, x_irange, x_ienum, x_izip, x_irev, x_lzip, x_slc, x_onil, x_ocons, x_rev, y_sl, y_bin, y_cmp, y_cons, y_neg, y_isN, y_notN, y_and, y_or, y_andB, y_orB, y_not, y_iteT, y_iteF, y_ix, y_call0, y_call1, y_call2, y_call3, y_call4, y_call5, y_bi, y_isi, y_chain, y_chainT, y_chainF, y_tup0, y_tup1, y_tup2, y_tup3, y_tup4, y_lst0, y_lst1, y_lst2, y_lst3, y_lst4, y_lst5, y_lst6, y_lst7, y_seqT, y_seqL, y_enum, y_zip, y_zipT, y_lzip, y_rev, y_opt, y_slc, y_revL, z_comp0, z_comp1, z_comp2, z_comp3, z_lstC, z_compN, z_compC, z_stepA, z_stepCT, z_stepCF, z_stepE, x_snil, x_scons, x_asg, x_par, x_if, x_for, x_ret, x_raise, x_exp, x_brk, x_cont, x_pass, x_while, x_def, y_seqN, y_seqR, y_seqX, y_seqB, y_seqC, y_asg, y_asgX, y_asgO, y_ifT, y_ifF, y_for, y_ret, y_retX, y_exp, y_endR, y_endN, y_endX, z_forN, z_forC, z_forS, z_forBn, z_forBc, z_forBb, z_forBr, z_forBx, binD_add, binD_sub, cmpD_lt, cmpD_le, cmpD_gt, cmpD_ge, ix_t0, ix_t1, ix_t2, ix_l0, ix_l1, Rs.ofO_some, List.map, List.length_cons, List.length_nil, List.replicate, List.cons_append, List.nil_append, List.getElem?_cons_zero, List.getElem?_cons_succ, List.set_cons_zero, List.set_cons_succ, Nat.reduceAdd, Nat.reduceSub, Nat.reduceLT, t_name, t_tup, t_nil, t_cons, t_asgC, t_Lname, t_LtupT, t_LtupL, if_true, Nat.zero_lt_succ, Nat.lt_add_left_iff_pos, wipeE, y_if, y_seqI, y_endI, y_forBI, Bool.or_eq_true, Bool.and_eq_true, decide_eq_true_eq, enc0, enc1, W_ix0, W_ix1, m0, m1, m2, eq_q, h0, if_false, m3, m4, m5, m8, m9, l1, l2, l3, l4, m7, biD, boolsOf, Option.map, List.any, id, Bool.or_false, outR]
    split <;> rfl
theorem crs_sz {a : Nat} {u v : Wl} {x : Pt} (hu : SzW a u) (hv : SzW a v) (h : crossR u v = some x) : SzP (19 * a + 12) x := by
  have gu := hu.1.vec hu.2
  have gv := hv.1.vec hv.2
  have gb := hu.1.vec hv.1
  have hs : Sz (16 * a + 10) (shr u v) := ((gb.crs gv).div (gu.crs gv)).mono (by omega)
  obtain ⟨_, _, _, _, _, e, _⟩ := cross_some h
  rw [e]
  exact (at_sz hu hs).mono (by omega)
theorem isNone_encP (p : Pt) : isNone (encP p) = false := rfl
theorem pickR_enc (f h : Wl) : (if far h.1 h.2 < far f.1 f.2 then encW h else encW f) = encW (pickR f h) := by
  unfold pickR; split <;> rfl
theorem pick_step {a : Nat} {Γ : G} {A B C0 E0 : Sl} {f h : Wl} (hf : SzW a f) (hh : SzW a h) (hl : 16 * a + 10 ≤ 9000) :
    ex ⟨[(2, d_crossing), (2, d_nearest), (2, d_is_less), (2, d_square_far)], []⟩ (.cons (.if_ (.call 2 (.cons (.call 3 (.cons (.ix (.var 5) (.int 0)) (.cons (.ix (.var 5) (.int 1)) .nil))) (.cons (.call 3 (.cons (.ix (.var 4) (.int 0)) (.cons (.ix (.var 4) (.int 1)) .nil))) .nil))) (.cons (.asg (.name 4) (.var 5)) S.nil) S.nil) S.nil) [A, B, C0, E0, .dt (encW f), .dt (encW h), .un] = .next [A, B, C0, E0, .dt (encW (pickR f h)), .dt (encW h), .un] := by
  have m0 := d_square_far_eq hh.1 hh.2 (by omega)
  have m1 := d_square_far_eq hf.1 hf.2 (by omega)
  have m2 := d_is_less_eq (hh.1.far hh.2) (hf.1.far hf.2) (by omega)
  simp -implicitDefEqProofs only [x_var, x_int, x_str, x_bl, x_non, x_glob, x_tup, x_lst, x_bin, x_neg, x_cmp, x_chain, x_isN, x_notN, x_and, x_or, x_not, x_ite, x_ix, x_call, x_bi, x_isi, x_comp, x_enil, x_econs, x_cnil, x_ccons, x_iseq, x_irange, x_ienum, x_izip, x_irev, x_lzip, x_slc, x_onil, x_ocons, x_rev, y_sl, y_bin, y_cmp, y_cons, y_neg, y_isN, y_notN, y_and, y_or, y_andB, y_orB, y_not, y_iteT, y_iteF, y_ix, y_call0, y_call1, y_call2, y_call3, y_call4, y_call5, y_bi, y_isi, y_chain, y_chainT, y_chainF, y_tup0, y_tup1, y_tup2, y_tup3, y_tup4, y_lst0, y_lst1, y_lst2, y_lst3, y_lst4, y_lst5, y_lst6, y_lst7, y_seqT, y_seqL, y_enum, y_zip, y_zipT, y_lzip, y_rev, y_opt, y_slc, y_revL, z_comp0, z_comp1, z_comp2, z_comp3, z_lstC, z_compN, z_compC, z_stepA, z_stepCT, z_stepCF, z_stepE, x_snil, x_scons, x_asg, x_par, x_if, x_for, x_ret, x_raise, x_exp, x_brk, x_cont, x_pass, x_while, x_def, y_seqN, y_seqR, y_seqX, y_seqB, y_seqC, y_asg, y_asgX, y_asgO, y_ifT, y_ifF, y_for, y_ret, y_retX, y_exp, y_endR, y_endN, y_endX, z_forN, z_forC, z_forS, z_forBn, z_forBc, z_forBb, z_forBr, z_forBx, binD_add, binD_sub, cmpD_lt, cmpD_le, cmpD_gt, cmpD_ge, ix_t0, ix_t1, ix_t2, ix_l0, ix_l1, Rs.ofO_some, List.map, List.length_cons, List.length_nil, List.replicate, List.cons_append, List.nil_append, List.getElem?_cons_zero, List.getElem?_cons_succ, List.set_cons_zero, List.set_cons_succ, Nat.reduceAdd, Nat.reduceSub, Nat.reduceLT, t_name, t_tup, t_nil, t_cons, t_asgC, t_Lname, t_LtupT, t_LtupL, if_true, Nat.zero_lt_succ, Nat.lt_add_left_iff_pos, wipeE, y_if, y_seqI, y_endI, y_forBI, Bool.or_eq_true, Bool.and_eq_true, decide_eq_true_eq, W_ix0, W_ix1, m0, m1, m2, pickR]
  split <;> rfl
theorem pick_sz {a : Nat} {f h : Wl} (hf : SzW a f) (hh : SzW a h) : SzW a (pickR f h) := by
  unfold pickR; split
  · exact hh
  · exact hf
theorem d_nearest_two_eq {a : Nat} {u v : Wl} (hu : SzW a u) (hv : SzW a v) (h : 16 * (23 * a + 12) + 10 ≤ 9000) : d_nearest_two [encW u, encW v] = .ok (encW (n2R u v)) := by
  have m0 := d_crossing_eq hu hv (by omega)
  have n1 := d_nearest_eq hv hu.1 (by omega)
  have n2 := d_nearest_eq hv hu.2 (by omega)
  have n3 := d_nearest_eq hu hv.1 (by omega)
  have n4 := d_nearest_eq hu hv.2 (by omega)
  have s1 : SzW (23 * a + 12) (u.1, nearR v u.1) := ⟨hu.1.mono (by omega), (near_sz hv hu.1).mono (by omega)⟩
  have s2 : SzW (23 * a + 12) (u.2, nearR v u.2) := ⟨hu.2.mono (by omega), (near_sz hv hu.2).mono (by omega)⟩
  have s3 : SzW (23 * a + 12) (nearR u v.1, v.1) := ⟨(near_sz hu hv.1).mono (by omega), hv.1.mono (by omega)⟩
  have s4 : SzW (23 * a + 12) (nearR u v.2, v.2) := ⟨(near_sz hu hv.2).mono (by omega), hv.2.mono (by omega)⟩
  have t1 := pick_sz s1 s1
  have t2 := pick_sz t1 s2
  have t3 := pick_sz t2 s3
  have w1 : PyData.tuple [encP u.1, encP (nearR v u.1)] = encW (u.1, nearR v u.1) := rfl
  have w2 : PyData.tuple [encP u.2, encP (nearR v u.2)] = encW (u.2, nearR v u.2) := rfl
  have w3 : PyData.tuple [encP (nearR u v.1), encP v.1] = encW (nearR u v.1, v.1) := rfl
  have w4 : PyData.tuple [encP (nearR u v.2), encP v.2] = encW (nearR u v.2, v.2) := rfl
  unfold d_nearest_two b_nearest_two n2R
  cases hc : crossR u v with
  | some x =>
    rw [hc] at m0
    simp -implicitDefEqProofs only [x_var, x_int, x_str, x_bl, x_non, x_glob, x_tup, x_lst, x_bin, x_neg, x_cmp, x_chain, x_isN, x_notN, x_and, x_or, x_not, x_ite, x_ix, x_call, x_bi, x_isi, x_comp, x_enil, x_econs, x_cnil, x_ccons, x_iseq, x_irange, x_ienum, x_izip, x_irev, x_lzip, x_slc, x_onil, x_ocons, x_rev, y_sl, y_bin, y_cmp, y_cons, y_neg, y_isN, y_notN, y_and, y_or, y_andB, y_orB, y_not, y_iteT, y_iteF, y_ix, y_call0, y_call1, y_call2, y_call3, y_call4, y_call5, y_bi, y_isi, y_chain, y_chainT, y_chainF, y_tup0, y_tup1, y_tup2, y_tup3, y_tup4, y_lst0, y_lst1, y_lst2, y_lst3, y_lst4, y_lst5, y_lst6, y_lst7, y_seqT, y_seqL, y_enum, y_zip, y_zipT, y_lzip, y_rev, y_opt, y_slc, y_revL, z_comp0, z_comp1, z_comp2, z_comp3, z_lstC, z_compN, z_compC, z_stepA, z_stepCT, z_stepCF, z_stepE, x_snil, x_scons, x_asg, x_par, x_if, x_for, x_ret, x_raise, x_exp, x_brk, x_cont, x_pass, x_while, x_def, y_seqN, y_seqR, y_seqX, y_seqB, y_seqC, y_asg, y_asgX, y_asgO, y_ifT, y_ifF, y_for, y_ret, y_retX, y_exp, y_endR, y_endN, y_endX, z_forN, z_forC, z_forS, z_forBn, z_forBc, z_forBb, z_forBr, z_forBx, binD_add, binD_sub, cmpD_lt, cmpD_le, cmpD_gt, cmpD_ge, ix_t0, ix_t1, ix_t2, ix_l0, ix_l1, Rs.ofO_some, List.map, List.length_cons, List.length_nil, List.replicate, List.cons_append, List.nil_append, List.getElem?_cons_zero, List.getElem?_cons_succ, List.set_cons_zero, List.set_cons_succ, Nat.reduceAdd, Nat.reduceSub, Nat.reduceLT, t_name, t_tup, t_nil, t_cons, t_asgC, t_Lname, t_LtupT, t_LtupL, if_true, Nat.zero_lt_succ, Nat.lt_add_left_iff_pos, wipeE, y_if, y_seqI, y_endI, y_forBI, Bool.or_eq_true, Bool.and_eq_true, decide_eq_true_eq, m0, encO, isNone_encP, Bool.not_false, if_true]
    rfl
  | none =>
    rw [hc] at m0
    have b1 := pick_step (Γ := ⟨[], []⟩) (A := .dt (encW u)) (B := .dt (encW v)) (C0 := .dt .none) (E0 := .dt (.list [encW (u.1, nearR v u.1), encW (u.2, nearR v u.2), encW (nearR u v.1, v.1), encW (nearR u v.2, v.2)])) s1 s1 (by omega)
    have b2 := pick_step (Γ := ⟨[], []⟩) (A := .dt (encW u)) (B := .dt (encW v)) (C0 := .dt .none) (E0 := .dt (.list [encW (u.1, nearR v u.1), encW (u.2, nearR v u.2), encW (nearR u v.1, v.1), encW (nearR u v.2, v.2)])) t1 s2 (by omega)
    have b3 := pick_step (Γ := ⟨[], []⟩) (A := .dt (encW u)) (B := .dt (encW v)) (C0 := .dt .none) (E0 := .dt (.list [encW (u.1, nearR v u.1), encW (u.2, nearR v u.2), encW (nearR u v.1, v.1), encW (nearR u v.2, v.2)])) t2 s3 (by omega)
    have b4 := pick_step (Γ := ⟨[], []⟩) (A := .dt (encW u)) (B := .dt (encW v)) (C0 := .dt .none) (E0 := .dt (.list [encW (u.1, nearR v u.1), encW (u.2, nearR v u.2), encW (nearR u v.1, v.1), encW (nearR u v.2, v.2)])) t3 s4 (by omega)
    have ad : binD .Add (.list [encW (u.1, nearR v u.1), encW (u.2, nearR v u.2)]) (.list [encW (nearR u v.1, v.1), encW (nearR u v.2, v.2)]) = .ok (.list [encW (u.1, nearR v u.1), encW (u.2, nearR v u.2), encW (nearR u v.1, v.1), encW (nearR u v.2, v.2)]) := rfl
    simp -implicitDefEqProofs only [x_def, x_scons, x_asg, x_call, x_econs, x_enil, x_var, y_sl, y_cons, y_call2, List.map, List.length_cons, List.length_nil, List.replicate, List.cons_append, List.nil_append, List.getElem?_cons_zero, List.getElem?_cons_succ, List.set_cons_zero, List.set_cons_succ, Nat.reduceAdd, Nat.reduceSub, Nat.reduceLT, t_name, t_Lname, y_asg, y_asgO, y_seqN, if_true, Nat.zero_lt_succ, m0, encO, x_if, x_notN, y_notN, isNone, Bool.not_true, y_ifF, x_snil, x_bin, x_comp, x_iseq, W_seq, z_comp2, wipeE, z_compC, z_compN, z_stepA, x_cnil, z_stepCT, x_tup, n1, n2, n3, n4, y_tup2, z_stepE, z_lstC, y_bin, w1, w2, w3, w4, ad, x_ix, x_int, y_ix, ix_l0, x_for, y_seqL, y_for]
    simp -implicitDefEqProofs only [z_forC, z_forS, t_name, List.length_cons, List.length_nil, Nat.reduceAdd, Nat.reduceLT, if_true, List.set_cons_zero, List.set_cons_succ, b1, b2, b3, b4, z_forBn, z_forN, y_seqN, x_ret, x_var, List.getElem?_cons_zero, List.getElem?_cons_succ, y_sl, y_ret, y_seqR, y_endR]
    rfl
/-! ### the law's walls -/
theorem d__law_to_fence_eq {a b : Nat} {w : Wl} {p : Pt} (hw : SzW a w) (hp : SzP b p) (h : 20 * a + 8 * b + 15 ≤ 9000) : d__law_to_fence [encW w, encP p] = .ok (enc (toF w p)) := by
  have hv := hw.1.vec hw.2
  have hq := hw.1.vec hp
  have m0 := d__law_gone_eq hw.1 hw.2 (by omega)
  have m1 := d__law_inner_eq hv hv (by omega)
  have m2 := d__law_gone_eq hw.1 hp (by omega)
  have m3 := d__law_inner_eq hv hq (by omega)
  have m4 := d__law_square_eq hw.1 hp (by omega)
  have m5 := d__law_square_eq hw.2 hp (by omega)
  have m6 := d__law_less_eq (hv.dot hq) (hv.dot hv) (by omega)
  have m7 := d__law_across_eq hv hq (by omega)
  have m8 := d__law_times_eq (hv.crs hq) (hv.crs hq) (by omega)
  have sc := (hv.crs hq).mul (hv.crs hq)
  have m9 := binD_mul (sc.nl (hv.dot hv) (by omega))
  have m10 := binD_mul (sc.dnl (hv.dot hv) (by omega))
  unfold d__law_to_fence b__law_to_fence toF
  simp -implicitDefEqProofs only [x_var, x_int, x_str, x_bl, x_non, x_glob, x_tup, x_lst, x_bin, x_neg, x_cmp, x_chain, x_isN, x_notN, x_and, x_or, x_not, x_ite, x_ix, x_call, x_bi, x_isi, x_comp, x_enil, x_econs, x_cnil, x_ccons, x_iseq, x_irange, x_ienum, x_izip, x_irev, x_lzip, x_slc, x_onil, x_ocons, x_rev, y_sl, y_bin, y_cmp, y_cons, y_neg, y_isN, y_notN, y_and, y_or, y_andB, y_orB, y_not, y_iteT, y_iteF, y_ix, y_call0, y_call1, y_call2, y_call3, y_call4, y_call5, y_bi, y_isi, y_chain, y_chainT, y_chainF, y_tup0, y_tup1, y_tup2, y_tup3, y_tup4, y_lst0, y_lst1, y_lst2, y_lst3, y_lst4, y_lst5, y_lst6, y_lst7, y_seqT, y_seqL, y_enum, y_zip, y_zipT, y_lzip, y_rev, y_opt, y_slc, y_revL, z_comp0, z_comp1, z_comp2, z_comp3, z_lstC, z_compN, z_compC, z_stepA, z_stepCT, z_stepCF, z_stepE, x_snil, x_scons, x_asg, x_par, x_if, x_for, x_ret, x_raise, x_exp, x_brk, x_cont, x_pass, x_while, x_def, y_seqN, y_seqR, y_seqX, y_seqB, y_seqC, y_asg, y_asgX, y_asgO, y_ifT, y_ifF, y_for, y_ret, y_retX, y_exp, y_endR, y_endN, y_endX, z_forN, z_forC, z_forS, z_forBn, z_forBc, z_forBb, z_forBr, z_forBx, binD_add, binD_sub, cmpD_lt, cmpD_le, cmpD_gt, cmpD_ge, ix_t0, ix_t1, ix_t2, ix_l0, ix_l1, Rs.ofO_some, List.map, List.length_cons, List.length_nil, List.replicate, List.cons_append, List.nil_append, List.getElem?_cons_zero, List.getElem?_cons_succ, List.set_cons_zero, List.set_cons_succ, Nat.reduceAdd, Nat.reduceSub, Nat.reduceLT, t_name, t_tup, t_nil, t_cons, t_asgC, t_Lname, t_LtupT, t_LtupL, if_true, Nat.zero_lt_succ, Nat.lt_add_left_iff_pos, wipeE, y_if, y_seqI, y_endI, y_forBI, Bool.or_eq_true, Bool.and_eq_true, decide_eq_true_eq, W_ix0, W_ix1, q_ix0, q_ix1, m0, m1, m2, m3, eq_i, num_zero, num_nonpos, m4, m5, m6, m7, m8, m9, m10, Bool.not_eq_true', decide_eq_false_iff_not]
  by_cases h0 : dot (vec w.1 w.2) (vec w.1 w.2) = 0 ∨ dot (vec w.1 w.2) (vec w.1 p) ≤ 0
  · rw [if_pos h0, if_pos h0]
  · rw [if_neg h0, if_neg h0]
    split
    · rfl
    · have h1 : ¬ dot (vec w.1 w.2) (vec w.1 w.2) = 0 := fun z => h0 (Or.inl z)
      have hpos := whole_pos h1
      rw [d__law_made_eq (Int.mul_pos (den_pos _) (num_pos.mpr hpos)) (Sz.dn sc (hv.dot hv)) (by omega), ← div_divInt]
      simp -implicitDefEqProofs only [x_var, x_int, x_str, x_bl, x_non, x_glob, x_tup, x_lst, x_bin, x_neg, x_cmp, x_chain, x_isN, x_notN, x_and, x_or, x_not, x_ite, x_ix, x_call, x_bi, x_isi, x_comp, x_enil, x_econs, x_cnil, x_ccons, x_iseq, x_irange, x_ienum, x_izip, x_irev, x_lzip, x_slc, x_onil, x_ocons, x_rev, y_sl, y_bin, y_cmp, y_cons, y_neg, y_isN, y_notN, y_and, y_or, y_andB, y_orB, y_not, y_iteT, y_iteF, y_ix, y_call0, y_call1, y_call2, y_call3, y_call4, y_call5, y_bi, y_isi, y_chain, y_chainT, y_chainF, y_tup0, y_tup1, y_tup2, y_tup3, y_tup4, y_lst0, y_lst1, y_lst2, y_lst3, y_lst4, y_lst5, y_lst6, y_lst7, y_seqT, y_seqL, y_enum, y_zip, y_zipT, y_lzip, y_rev, y_opt, y_slc, y_revL, z_comp0, z_comp1, z_comp2, z_comp3, z_lstC, z_compN, z_compC, z_stepA, z_stepCT, z_stepCF, z_stepE, x_snil, x_scons, x_asg, x_par, x_if, x_for, x_ret, x_raise, x_exp, x_brk, x_cont, x_pass, x_while, x_def, y_seqN, y_seqR, y_seqX, y_seqB, y_seqC, y_asg, y_asgX, y_asgO, y_ifT, y_ifF, y_for, y_ret, y_retX, y_exp, y_endR, y_endN, y_endX, z_forN, z_forC, z_forS, z_forBn, z_forBc, z_forBb, z_forBr, z_forBx, binD_add, binD_sub, cmpD_lt, cmpD_le, cmpD_gt, cmpD_ge, ix_t0, ix_t1, ix_t2, ix_l0, ix_l1, Rs.ofO_some, List.map, List.length_cons, List.length_nil, List.replicate, List.cons_append, List.nil_append, List.getElem?_cons_zero, List.getElem?_cons_succ, List.set_cons_zero, List.set_cons_succ, Nat.reduceAdd, Nat.reduceSub, Nat.reduceLT, t_name, t_tup, t_nil, t_cons, t_asgC, t_Lname, t_LtupT, t_LtupL, if_true, Nat.zero_lt_succ, Nat.lt_add_left_iff_pos, wipeE]
end Mn
/-! the law's drawing, the walk -/
namespace Mn
open PySem PySem.Spec PyProof.Rows L2
theorem mulOk_r {i j : Int} (h1 : -(2 ^ 64) < j) (h2 : j < 2 ^ 64) : mulOk i j = true := by
  unfold mulOk; simp only [h1, h2, decide_true, Bool.and_self, Bool.or_true, Bool.true_or]
theorem mulOk_l {i j : Int} (h1 : -(2 ^ 64) < i) (h2 : i < 2 ^ 64) : mulOk i j = true := by
  unfold mulOk; simp only [h1, h2, decide_true, Bool.and_self, Bool.or_true, Bool.true_or]
theorem log_lt {j : Int} {b : Nat} (h0 : 0 < j) (h : j < 2 ^ b) (hb : b ≤ 9000) : j.natAbs.log2 < 9000 := by
  rw [Nat.log2_lt (by omega)]
  refine Nat.lt_of_lt_of_le (m := 2 ^ b) ?_ (Nat.pow_le_pow_right (by decide) hb)
  have : ((2 ^ b : Nat) : Int) = (2 : Int) ^ b := by simp
  omega
/-- a number is drawn -/
def dr1 (c k : Int) : Int := (c * 6364136223846793005 + (k + 1) * 1442695040888963407) % 340282366920938463463374607431768211507
def dr2 (x : Int) : Int := x * x % 340282366920938463463374607431768211297
def dr3 (x : Int) : Int := (x % 18446744073709551557 + 1) * (x / 18446744073709551557 + 1) * x % 340282366920938463463374607431768211507
def drw (c k : Int) : Int := dr3 (dr2 (dr1 c k))
theorem drw_nn (c k : Int) : 0 ≤ drw c k := Int.emod_nonneg _ (by decide)
theorem d__law_drawn_eq (c k : Int) : d__law_drawn [.int c, .int k] = .ok (.int (drw c k)) := by
  have m0 := binD_mul (i := c) (j := 6364136223846793005) (mulOk_r (by decide) (by decide))
  have m1 := binD_mul (i := k + 1) (j := 1442695040888963407) (mulOk_r (by decide) (by decide))
  have m2 : binD .Mod (.int (c * 6364136223846793005 + (k + 1) * 1442695040888963407)) (.int 340282366920938463463374607431768211507) = .ok (.int (dr1 c k)) := binD_mod (by decide)
  have l1 : 0 ≤ dr1 c k ∧ dr1 c k < 340282366920938463463374607431768211507 := by unfold dr1; omega
  unfold drw
  generalize dr1 c k = x1 at *
  have m3 := binD_mul (i := x1) (j := x1) (mulOk_of (a := 130) (b := 130) (by omega) (by omega) (by decide))
  have m4 : binD .Mod (.int (x1 * x1)) (.int 340282366920938463463374607431768211297) = .ok (.int (dr2 x1)) := binD_mod (by decide)
  have l3 : 0 ≤ dr2 x1 ∧ dr2 x1 < 340282366920938463463374607431768211297 := by unfold dr2; omega
  generalize dr2 x1 = x3 at *
  have m5 := binD_mod (i := x3) (j := 18446744073709551557) (by decide)
  have m6 := binD_div (i := x3) (j := 18446744073709551557) (by decide) (log_lt (b := 64) (by decide) (by decide) (by decide))
  have l5 : 0 ≤ x3 % 18446744073709551557 + 1 ∧ x3 % 18446744073709551557 + 1 < 18446744073709551559 := by omega
  have l6 : 0 ≤ x3 / 18446744073709551557 + 1 ∧ x3 / 18446744073709551557 + 1 < 18446744073709553000 := by omega
  obtain ⟨x4, h4⟩ : ∃ x, x = x3 % 18446744073709551557 + 1 := ⟨_, rfl⟩
  obtain ⟨x5, h5⟩ : ∃ x, x = x3 / 18446744073709551557 + 1 := ⟨_, rfl⟩
  rw [← h4] at l5
  rw [← h5] at l6
  have m7 := binD_mul (i := x4) (j := x5) (mulOk_of (a := 66) (b := 66) (by omega) (by omega) (by decide))
  have l7 : (x4 * x5).natAbs < 2 ^ (66 + 66) := by rw [Int.natAbs_mul]; exact lt_pow_add (by omega) (by omega)
  have m8 := binD_mul (i := x4 * x5) (j := x3) (mulOk_of (a := 132) (b := 130) l7 (by omega) (by decide))
  have m9 := binD_mod (i := x4 * x5 * x3) (j := 340282366920938463463374607431768211507) (by decide)
  unfold d__law_drawn b__law_drawn
  simp -implicitDefEqProofs only [x_var, x_int, x_str, x_bl, x_non, x_glob, x_tup, x_lst, x_bin, x_neg, x_cmp, x_chain, x_isN, x_notN, x_and, x_or, x_not, x_ite, x_ix, x_call, x_bi, x_isi, x_comp, x_enil, x_econs, x_cnil, x_ccons, x_iseq, x_irange, x_ienum, x_izip, x_irev, x_lzip, x_slc, x_onil, x_ocons, x_rev, y_sl, y_bin, y_cmp, y_cons, y_neg, y_isN, y_notN, y_and, y_or, y_andB, y_orB, y_not, y_iteT, y_iteF, y_ix, y_call0, y_call1, y_call2, y_call3, y_call4, y_call5, y_bi, y_isi, y_chain, y_chainT, y_chainF, y_tup0, y_tup1, y_tup2, y_tup3, y_tup4, y_lst0, y_lst1, y_lst2, y_lst3, y_lst4, y_lst5, y_lst6, y_lst7, y_seqT, y_seqL, y_enum, y_zip, y_zipT, y_lzip, y_rev, y_opt, y_slc, y_revL, z_comp0, z_comp1, z_comp2, z_comp3, z_lstC, z_compN, z_compC, z_stepA, z_stepCT, z_stepCF, z_stepE, x_snil, x_scons, x_asg, x_par, x_if, x_for, x_ret, x_raise, x_exp, x_brk, x_cont, x_pass, x_while, x_def, y_seqN, y_seqR, y_seqX, y_seqB, y_seqC, y_asg, y_asgX, y_asgO, y_ifT, y_ifF, y_for, y_ret, y_retX, y_exp, y_endR, y_endN, y_endX, z_forN, z_forC, z_forS, z_forBn, z_forBc, z_forBb, z_forBr, z_forBx, binD_add, binD_sub, cmpD_lt, cmpD_le, cmpD_gt, cmpD_ge, ix_t0, ix_t1, ix_t2, ix_l0, ix_l1, Rs.ofO_some, List.map, List.length_cons, List.length_nil, List.replicate, List.cons_append, List.nil_append, List.getElem?_cons_zero, List.getElem?_cons_succ, List.set_cons_zero, List.set_cons_succ, Nat.reduceAdd, Nat.reduceSub, Nat.reduceLT, t_name, t_tup, t_nil, t_cons, t_asgC, t_Lname, t_LtupT, t_LtupL, if_true, Nat.zero_lt_succ, Nat.lt_add_left_iff_pos, wipeE, m0, m1, m2, m3, m4, m5, m6, m7, m8, m9, ← h4, ← h5, dr3]
theorem scr_ix (ns : List Int) (j : Nat) (h : j < ns.length) : ixD (.dict (ns.map fun n => (.int n, .none))) (.int j) = .ok (.int ns[j]) := by
  simp [ixD, atI, ixN_nat h, h]
/-- a cell of the script -/
theorem d__law_cell_eq (ns : List Int) (k : Nat) (hb : ns.length ≤ 63) : ∃ c, d__law_cell [.dict (ns.map fun n => (.int n, .none)), .int k] = .ok (.int c) := by
  unfold d__law_cell b__law_cell
  by_cases h0 : ns = []
  · subst h0
    have m0 := binD_mul (i := (k : Int)) (j := 7919) (mulOk_r (by decide) (by decide))
    refine ⟨(k : Int) * 7919, ?_⟩
    have e : cmpD .Eq (.dict []) (.list []) = .ok (.bool true) := rfl
    simp -implicitDefEqProofs only [x_var, x_int, x_str, x_bl, x_non, x_glob, x_tup, x_lst, x_bin, x_neg, x_cmp, x_chain, x_isN, x_notN, x_and, x_or, x_not, x_ite, x_ix, x_call, x_bi, x_isi, x_comp, x_enil, x_econs, x_cnil, x_ccons, x_iseq, x_irange, x_ienum, x_izip, x_irev, x_lzip, x_slc, x_onil, x_ocons, x_rev, y_sl, y_bin, y_cmp, y_cons, y_neg, y_isN, y_notN, y_and, y_or, y_andB, y_orB, y_not, y_iteT, y_iteF, y_ix, y_call0, y_call1, y_call2, y_call3, y_call4, y_call5, y_bi, y_isi, y_chain, y_chainT, y_chainF, y_tup0, y_tup1, y_tup2, y_tup3, y_tup4, y_lst0, y_lst1, y_lst2, y_lst3, y_lst4, y_lst5, y_lst6, y_lst7, y_seqT, y_seqL, y_enum, y_zip, y_zipT, y_lzip, y_rev, y_opt, y_slc, y_revL, z_comp0, z_comp1, z_comp2, z_comp3, z_lstC, z_compN, z_compC, z_stepA, z_stepCT, z_stepCF, z_stepE, x_snil, x_scons, x_asg, x_par, x_if, x_for, x_ret, x_raise, x_exp, x_brk, x_cont, x_pass, x_while, x_def, y_seqN, y_seqR, y_seqX, y_seqB, y_seqC, y_asg, y_asgX, y_asgO, y_ifT, y_ifF, y_for, y_ret, y_retX, y_exp, y_endR, y_endN, y_endX, z_forN, z_forC, z_forS, z_forBn, z_forBc, z_forBb, z_forBr, z_forBx, binD_add, binD_sub, cmpD_lt, cmpD_le, cmpD_gt, cmpD_ge, ix_t0, ix_t1, ix_t2, ix_l0, ix_l1, Rs.ofO_some, List.map, List.length_cons, List.length_nil, List.replicate, List.cons_append, List.nil_append, List.getElem?_cons_zero, List.getElem?_cons_succ, List.set_cons_zero, List.set_cons_succ, Nat.reduceAdd, Nat.reduceSub, Nat.reduceLT, t_name, t_tup, t_nil, t_cons, t_asgC, t_Lname, t_LtupT, t_LtupL, if_true, Nat.zero_lt_succ, Nat.lt_add_left_iff_pos, wipeE, e, m0]
  · have hl : 0 < ns.length := List.length_pos_iff.mpr h0
    have e : cmpD .Eq (.dict (ns.map fun n => (.int n, .none))) (.list []) = .ok (.bool false) := by
      show Rs.ok (PyData.bool (List.isEmpty _)) = _
      cases ns with
      | nil => exact absurd rfl h0
      | cons a l => rfl
    have eL : biD .len [.dict (ns.map fun n => (.int n, .none))] = .ok (.int ns.length) := by
      show Rs.ok (PyData.int _) = _
      rw [List.length_map]
    · have m0 := binD_mod (i := (k : Int)) (j := (ns.length : Int)) (by omega)
      have m1 := binD_div (i := (k : Int)) (j := (ns.length : Int)) (by omega) (log_lt (b := 64) (by omega) (by omega) (by decide))
      have m2 := binD_mul (i := (k : Int) / (ns.length : Int)) (j := 104729) (mulOk_r (by decide) (by decide))
      have m3 := scr_ix ns (k % ns.length) (Nat.mod_lt _ hl)
      rw [Int.natCast_emod] at m3
      refine ⟨ns[k % ns.length]'(Nat.mod_lt _ hl) + (k : Int) / (ns.length : Int) * 104729, ?_⟩
      simp -implicitDefEqProofs only [x_var, x_int, x_str, x_bl, x_non, x_glob, x_tup, x_lst, x_bin, x_neg, x_cmp, x_chain, x_isN, x_notN, x_and, x_or, x_not, x_ite, x_ix, x_call, x_bi, x_isi, x_comp, x_enil, x_econs, x_cnil, x_ccons, x_iseq, x_irange, x_ienum, x_izip, x_irev, x_lzip, x_slc, x_onil, x_ocons, x_rev, y_sl, y_bin, y_cmp, y_cons, y_neg, y_isN, y_notN, y_and, y_or, y_andB, y_orB, y_not, y_iteT, y_iteF, y_ix, y_call0, y_call1, y_call2, y_call3, y_call4, y_call5, y_bi, y_isi, y_chain, y_chainT, y_chainF, y_tup0, y_tup1, y_tup2, y_tup3, y_tup4, y_lst0, y_lst1, y_lst2, y_lst3, y_lst4, y_lst5, y_lst6, y_lst7, y_seqT, y_seqL, y_enum, y_zip, y_zipT, y_lzip, y_rev, y_opt, y_slc, y_revL, z_comp0, z_comp1, z_comp2, z_comp3, z_lstC, z_compN, z_compC, z_stepA, z_stepCT, z_stepCF, z_stepE, x_snil, x_scons, x_asg, x_par, x_if, x_for, x_ret, x_raise, x_exp, x_brk, x_cont, x_pass, x_while, x_def, y_seqN, y_seqR, y_seqX, y_seqB, y_seqC, y_asg, y_asgX, y_asgO, y_ifT, y_ifF, y_for, y_ret, y_retX, y_exp, y_endR, y_endN, y_endX, z_forN, z_forC, z_forS, z_forBn, z_forBc, z_forBb, z_forBr, z_forBx, binD_add, binD_sub, cmpD_lt, cmpD_le, cmpD_gt, cmpD_ge, ix_t0, ix_t1, ix_t2, ix_l0, ix_l1, Rs.ofO_some, List.map, List.length_cons, List.length_nil, List.replicate, List.cons_append, List.nil_append, List.getElem?_cons_zero, List.getElem?_cons_succ, List.set_cons_zero, List.set_cons_succ, Nat.reduceAdd, Nat.reduceSub, Nat.reduceLT, t_name, t_tup, t_nil, t_cons, t_asgC, t_Lname, t_LtupT, t_LtupL, if_true, Nat.zero_lt_succ, Nat.lt_add_left_iff_pos, wipeE, e, eL, m0, m1, m2, m3]
theorem Sz.i {n : Int} {b : Nat} (h : n.natAbs < 2 ^ b) (hb : 1 ≤ b) : Sz b (Rat.divInt n 1) :=
  sz_divInt (by decide) h (by have := Nat.pow_le_pow_right (show 0 < 2 by decide) hb; simp; omega)
theorem num1 (n : Int) : (Rat.divInt n 1).num = n := by
  have := (divInt_parts (n := n) (d := 1) (by decide)).1
  rw [this]; simp
theorem binD_mod' {i : Int} {j : Nat} (h : 0 < j) : binD .Mod (.int i) (.int (j : Int)) = .ok (.int (i % j)) := binD_mod (by omega)
theorem pow_20 : binD .Pow (.int 2) (.int 20) = .ok (.int 1048576) := rfl
theorem pow_18 : binD .Pow (.int 2) (.int 18) = .ok (.int 262144) := rfl
theorem pow_23 : binD .Pow (.int 2) (.int 23) = .ok (.int 8388608) := rfl
theorem pow_14 : binD .Pow (.int 2) (.int 14) = .ok (.int 16384) := rfl
theorem pow_12 : binD .Pow (.int 2) (.int 12) = .ok (.int 4096) := rfl
theorem dv {i j : Int} {b : Nat} (h : 0 < j) (h2 : j < 2 ^ b) (hb : b ≤ 9000) : binD .FloorDiv (.int i) (.int j) = .ok (.int (i / j)) := binD_div h (log_lt h h2 hb)
/-- a place in a list is one of its items -/
theorem ix_some {l : List D} {i : Int} (h0 : 0 ≤ i) (h1 : i < l.length) : ∃ x ∈ l, ixD (.list l) (.int i) = .ok x := by
  obtain ⟨k, rfl⟩ : ∃ k : Nat, i = k := ⟨i.toNat, by omega⟩
  have hk : k < l.length := by omega
  exact ⟨l[k], List.getElem_mem hk, ix_ln hk⟩
/-- a point of the law -/
theorem d__law_point_eq (m : Int) (hm : 0 ≤ m) : ∃ p, SzP 4 p ∧ d__law_point [.int m] = .ok (encP p) := by
  obtain ⟨u, hu, e⟩ : ∃ u : Int, (1 ≤ u ∧ u ≤ 3) ∧ ixD (.list [.int 1, .int 1, .int 1, .int 2, .int 3]) (.int (m / 1048576 % 5)) = .ok (.int u) := by
    obtain ⟨x, hx, e⟩ := ix_some (l := [.int 1, .int 1, .int 1, .int 2, .int 3]) (i := m / 1048576 % 5) (by omega) (by simp; omega)
    simp only [List.mem_cons, List.not_mem_nil, or_false] at hx
    rcases hx with rfl | rfl | rfl | rfl | rfl
    · exact ⟨1, by decide, e⟩
    · exact ⟨1, by decide, e⟩
    · exact ⟨1, by decide, e⟩
    · exact ⟨2, by decide, e⟩
    · exact ⟨3, by decide, e⟩
  have a1 := d__law_made_eq (n := m % 25 - 12) (d := u) (b := 6) (by omega) (by omega) (by decide)
  have a2 := d__law_made_eq (n := m / 32 % 25 - 12) (d := u) (b := 6) (by omega) (by omega) (by decide)
  have d1 := dv (i := m) (j := 1048576) (b := 30) (by decide) (by decide) (by decide)
  have d2 := dv (i := m) (j := 32) (b := 30) (by decide) (by decide) (by decide)
  have d3 := binD_mod (i := m / 1048576) (j := 5) (by decide)
  have d4 := binD_mod (i := m) (j := 25) (by decide)
  have d5 := binD_mod (i := m / 32) (j := 25) (by decide)
  refine ⟨(Rat.divInt (m % 25 - 12) u, Rat.divInt (m / 32 % 25 - 12) u), ⟨sz_divInt (by omega) (by omega) (by omega), sz_divInt (by omega) (by omega) (by omega)⟩, ?_⟩
  unfold d__law_point b__law_point
  simp -implicitDefEqProofs only [x_var, x_int, x_str, x_bl, x_non, x_glob, x_tup, x_lst, x_bin, x_neg, x_cmp, x_chain, x_isN, x_notN, x_and, x_or, x_not, x_ite, x_ix, x_call, x_bi, x_isi, x_comp, x_enil, x_econs, x_cnil, x_ccons, x_iseq, x_irange, x_ienum, x_izip, x_irev, x_lzip, x_slc, x_onil, x_ocons, x_rev, y_sl, y_bin, y_cmp, y_cons, y_neg, y_isN, y_notN, y_and, y_or, y_andB, y_orB, y_not, y_iteT, y_iteF, y_ix, y_call0, y_call1, y_call2, y_call3, y_call4, y_call5, y_bi, y_isi, y_chain, y_chainT, y_chainF, y_tup0, y_tup1, y_tup2, y_tup3, y_tup4, y_lst0, y_lst1, y_lst2, y_lst3, y_lst4, y_lst5, y_lst6, y_lst7, y_seqT, y_seqL, y_enum, y_zip, y_zipT, y_lzip, y_rev, y_opt, y_slc, y_revL, z_comp0, z_comp1, z_comp2, z_comp3, z_lstC, z_compN, z_compC, z_stepA, z_stepCT, z_stepCF, z_stepE, x_snil, x_scons, x_asg, x_par, x_if, x_for, x_ret, x_raise, x_exp, x_brk, x_cont, x_pass, x_while, x_def, y_seqN, y_seqR, y_seqX, y_seqB, y_seqC, y_asg, y_asgX, y_asgO, y_ifT, y_ifF, y_for, y_ret, y_retX, y_exp, y_endR, y_endN, y_endX, z_forN, z_forC, z_forS, z_forBn, z_forBc, z_forBb, z_forBr, z_forBx, binD_add, binD_sub, cmpD_lt, cmpD_le, cmpD_gt, cmpD_ge, ix_t0, ix_t1, ix_t2, ix_l0, ix_l1, Rs.ofO_some, List.map, List.length_cons, List.length_nil, List.replicate, List.cons_append, List.nil_append, List.getElem?_cons_zero, List.getElem?_cons_succ, List.set_cons_zero, List.set_cons_succ, Nat.reduceAdd, Nat.reduceSub, Nat.reduceLT, t_name, t_tup, t_nil, t_cons, t_asgC, t_Lname, t_LtupT, t_LtupL, if_true, Nat.zero_lt_succ, Nat.lt_add_left_iff_pos, wipeE, pow_20, d1, d2, d3, d4, d5, e, a1, a2, encP]
/-- a wall of the law: ends at whole numbers -/
def fenR (m : Int) : Wl :=
  let one : Pt := (Rat.divInt (m % 21 - 10) 1, Rat.divInt (m / 32 % 21 - 10) 1)
  if m / 1024 % 6 = 0 then (one, one)
  else (one, (Rat.divInt (m % 21 - 10 + m / 8192 % 17 - 8) 1, Rat.divInt (m / 32 % 21 - 10 + (if 0 < m / 8388608 % 4 then m / 262144 % 17 - 8 else 0)) 1))
theorem fen_sz (m : Int) : SzW 6 (fenR m) := by
  have h1 : SzP 6 (Rat.divInt (m % 21 - 10) 1, Rat.divInt (m / 32 % 21 - 10) 1) := ⟨Sz.i (by omega) (by decide), Sz.i (by omega) (by decide)⟩
  unfold fenR
  simp only []
  split
  · exact ⟨h1, h1⟩
  · refine ⟨h1, Sz.i (by omega) (by decide), Sz.i ?_ (by decide)⟩
    split <;> omega
theorem d__law_one_fence_eq (m : Int) : d__law_one_fence [.int m] = .ok (encW (fenR m)) := by
  have a1 := d__law_made_eq (n := m % 21 - 10) (d := 1) (b := 6) (by omega) (by omega) (by decide)
  have a2 := d__law_made_eq (n := m / 32 % 21 - 10) (d := 1) (b := 6) (by omega) (by omega) (by decide)
  have a3 := d__law_made_eq (n := m % 21 - 10 + m / 8192 % 17 - 8) (d := 1) (b := 6) (by omega) (by omega) (by decide)
  have a4 := d__law_made_eq (n := m / 32 % 21 - 10 + (if 0 < m / 8388608 % 4 then m / 262144 % 17 - 8 else 0)) (d := 1) (b := 6) (by omega) (by omega) (by decide)
  have d2 := dv (i := m) (j := 32) (b := 30) (by decide) (by decide) (by decide)
  have d3 := dv (i := m) (j := 1024) (b := 30) (by decide) (by decide) (by decide)
  have d4 := dv (i := m) (j := 8192) (b := 30) (by decide) (by decide) (by decide)
  have d5 := dv (i := m) (j := 262144) (b := 30) (by decide) (by decide) (by decide)
  have d6 := dv (i := m) (j := 8388608) (b := 30) (by decide) (by decide) (by decide)
  have r1 := binD_mod (i := m) (j := 21) (by decide)
  have r2 := binD_mod (i := m / 32) (j := 21) (by decide)
  have r3 := binD_mod (i := m / 1024) (j := 6) (by decide)
  have r4 := binD_mod (i := m / 8192) (j := 17) (by decide)
  have r5 := binD_mod (i := m / 262144) (j := 17) (by decide)
  have r6 := binD_mod (i := m / 8388608) (j := 4) (by decide)
  have e : (biR .int (.ok [.bool (decide (0 < m / 8388608 % 4))])) = .ok (.int (if 0 < m / 8388608 % 4 then 1 else 0)) := by
    show Rs.ok (PyData.int _) = _
    by_cases h : 0 < m / 8388608 % 4 <;> simp [h]
  have e2 : ixD (.list [.int 0, .int (m / 262144 % 17 - 8)]) (.int (if 0 < m / 8388608 % 4 then 1 else 0)) = .ok (.int (if 0 < m / 8388608 % 4 then m / 262144 % 17 - 8 else 0)) := by
    split
    · exact ix_l1
    · exact ix_l0
  have w0 : PyData.tuple [enc (Rat.divInt (m % 21 - 10) 1), enc (Rat.divInt (m / 32 % 21 - 10) 1)] = encP (Rat.divInt (m % 21 - 10) 1, Rat.divInt (m / 32 % 21 - 10) 1) := rfl
  unfold d__law_one_fence b__law_one_fence fenR
  simp only []
  by_cases h : m / 1024 % 6 = 0
  · rw [if_pos h]
    simp -implicitDefEqProofs only [x_var, x_int, x_str, x_bl, x_non, x_glob, x_tup, x_lst, x_bin, x_neg, x_cmp, x_chain, x_isN, x_notN, x_and, x_or, x_not, x_ite, x_ix, x_call, x_bi, x_isi, x_comp, x_enil, x_econs, x_cnil, x_ccons, x_iseq, x_irange, x_ienum, x_izip, x_irev, x_lzip, x_slc, x_onil, x_ocons, x_rev, y_sl, y_bin, y_cmp, y_cons, y_neg, y_isN, y_notN, y_and, y_or, y_andB, y_orB, y_not, y_iteT, y_iteF, y_ix, y_call0, y_call1, y_call2, y_call3, y_call4, y_call5, y_bi, y_isi, y_chain, y_chainT, y_chainF, y_tup0, y_tup1, y_tup2, y_tup3, y_tup4, y_lst0, y_lst1, y_lst2, y_lst3, y_lst4, y_lst5, y_lst6, y_lst7, y_seqT, y_seqL, y_enum, y_zip, y_zipT, y_lzip, y_rev, y_opt, y_slc, y_revL, z_comp0, z_comp1, z_comp2, z_comp3, z_lstC, z_compN, z_compC, z_stepA, z_stepCT, z_stepCF, z_stepE, x_snil, x_scons, x_asg, x_par, x_if, x_for, x_ret, x_raise, x_exp, x_brk, x_cont, x_pass, x_while, x_def, y_seqN, y_seqR, y_seqX, y_seqB, y_seqC, y_asg, y_asgX, y_asgO, y_ifT, y_ifF, y_for, y_ret, y_retX, y_exp, y_endR, y_endN, y_endX, z_forN, z_forC, z_forS, z_forBn, z_forBc, z_forBb, z_forBr, z_forBx, binD_add, binD_sub, cmpD_lt, cmpD_le, cmpD_gt, cmpD_ge, ix_t0, ix_t1, ix_t2, ix_l0, ix_l1, Rs.ofO_some, List.map, List.length_cons, List.length_nil, List.replicate, List.cons_append, List.nil_append, List.getElem?_cons_zero, List.getElem?_cons_succ, List.set_cons_zero, List.set_cons_succ, Nat.reduceAdd, Nat.reduceSub, Nat.reduceLT, t_name, t_tup, t_nil, t_cons, t_asgC, t_Lname, t_LtupT, t_LtupL, if_true, Nat.zero_lt_succ, Nat.lt_add_left_iff_pos, wipeE, pow_18, pow_23, d2, d3, r1, r2, r3, a1, a2, w0, eq_i, h, decide_true]
    rfl
  · rw [if_neg h]
    simp -implicitDefEqProofs only [x_var, x_int, x_str, x_bl, x_non, x_glob, x_tup, x_lst, x_bin, x_neg, x_cmp, x_chain, x_isN, x_notN, x_and, x_or, x_not, x_ite, x_ix, x_call, x_bi, x_isi, x_comp, x_enil, x_econs, x_cnil, x_ccons, x_iseq, x_irange, x_ienum, x_izip, x_irev, x_lzip, x_slc, x_onil, x_ocons, x_rev, y_sl, y_bin, y_cmp, y_cons, y_neg, y_isN, y_notN, y_and, y_or, y_andB, y_orB, y_not, y_iteT, y_iteF, y_ix, y_call0, y_call1, y_call2, y_call3, y_call4, y_call5, y_bi, y_isi, y_chain, y_chainT, y_chainF, y_tup0, y_tup1, y_tup2, y_tup3, y_tup4, y_lst0, y_lst1, y_lst2, y_lst3, y_lst4, y_lst5, y_lst6, y_lst7, y_seqT, y_seqL, y_enum, y_zip, y_zipT, y_lzip, y_rev, y_opt, y_slc, y_revL, z_comp0, z_comp1, z_comp2, z_comp3, z_lstC, z_compN, z_compC, z_stepA, z_stepCT, z_stepCF, z_stepE, x_snil, x_scons, x_asg, x_par, x_if, x_for, x_ret, x_raise, x_exp, x_brk, x_cont, x_pass, x_while, x_def, y_seqN, y_seqR, y_seqX, y_seqB, y_seqC, y_asg, y_asgX, y_asgO, y_ifT, y_ifF, y_for, y_ret, y_retX, y_exp, y_endR, y_endN, y_endX, z_forN, z_forC, z_forS, z_forBn, z_forBc, z_forBb, z_forBr, z_forBx, binD_add, binD_sub, cmpD_lt, cmpD_le, cmpD_gt, cmpD_ge, ix_t0, ix_t1, ix_t2, ix_l0, ix_l1, Rs.ofO_some, List.map, List.length_cons, List.length_nil, List.replicate, List.cons_append, List.nil_append, List.getElem?_cons_zero, List.getElem?_cons_succ, List.set_cons_zero, List.set_cons_succ, Nat.reduceAdd, Nat.reduceSub, Nat.reduceLT, t_name, t_tup, t_nil, t_cons, t_asgC, t_Lname, t_LtupT, t_LtupL, if_true, Nat.zero_lt_succ, Nat.lt_add_left_iff_pos, wipeE, pow_18, pow_23, d2, d3, d4, d5, d6, r1, r2, r3, r4, r5, r6, a1, a2, w0, eq_i, h, decide_false, P_ix0, P_ix1, q_ix0, num1, e, e2, a3, a4]
    rfl
end Mn
/-! two walls of the law, the walk -/
namespace Mn
open PySem PySem.Spec PyProof.Rows L2
theorem toF_sz {a b : Nat} {w : Wl} {p : Pt} (hw : SzW a w) (hp : SzP b p) : Sz (20 * a + 8 * b + 15) (toF w p) := by
  have hv := hw.1.vec hw.2
  have hq := hw.1.vec hp
  unfold toF
  split
  · exact (hw.1.far hp).mono (by omega)
  · split
    · exact (hw.2.far hp).mono (by omega)
    · exact (((hv.crs hq).mul (hv.crs hq)).div (hv.dot hv)).mono (by omega)
theorem sgn_small (q : Rat) : (sgn q).natAbs < 2 ^ 2 := by
  rcases tri q with h | h | h
  · rw [sgn_neg h]; decide
  · rw [h, sgn_zero]; decide
  · rw [sgn_pos h]; decide
theorem any_enc (l : List Rat) (q : Rat) : (l.map enc).any (fun z => PyData.eqv z (enc q)) = decide (q ∈ l) := by
  induction l with
  | nil => simp
  | cons x l ih =>
    rw [List.map_cons, List.any_cons, ih, eqv_enc]
    by_cases h : x = q
    · subst h; simp
    · have h' : ¬ q = x := fun z => h z.symm
      simp [h, h']
theorem shp_list_enc4 (p q r s : Rat) : shp (.list [enc p, enc q, enc r, enc s]) = true := rfl
theorem d__law_touch_eq {a : Nat} {u v : Wl} (hu : SzW a u) (hv : SzW a v) (h : 28 * a + 15 ≤ 9000) : d__law_touch [encW u, encW v] = .ok (.bool (touchR u v)) := by
  have n1 := d__law_to_fence_eq hu hv.1 (by omega)
  have n2 := d__law_to_fence_eq hu hv.2 (by omega)
  have n3 := d__law_to_fence_eq hv hu.1 (by omega)
  have n4 := d__law_to_fence_eq hv hu.2 (by omega)
  have s1 : d__law_sense [encP u.1, encP u.2, encP v.1] = .ok (.int (sense u.1 u.2 v.1)) := d__law_sense_eq hu.1 hu.2 hv.1 (by omega)
  have s2 : d__law_sense [encP u.1, encP u.2, encP v.2] = .ok (.int (sense u.1 u.2 v.2)) := d__law_sense_eq hu.1 hu.2 hv.2 (by omega)
  have s3 : d__law_sense [encP v.1, encP v.2, encP u.1] = .ok (.int (sense v.1 v.2 u.1)) := d__law_sense_eq hv.1 hv.2 hu.1 (by omega)
  have s4 : d__law_sense [encP v.1, encP v.2, encP u.2] = .ok (.int (sense v.1 v.2 u.2)) := d__law_sense_eq hv.1 hv.2 hu.2 (by omega)
  have m1 := binD_mul (i := sense u.1 u.2 v.1) (j := sense u.1 u.2 v.2) (mulOk_of (a := 2) (b := 2) (sgn_small _) (sgn_small _) (by decide))
  have m2 := binD_mul (i := sense v.1 v.2 u.1) (j := sense v.1 v.2 u.2) (mulOk_of (a := 2) (b := 2) (sgn_small _) (sgn_small _) (by decide))
  have ad : binD .Add (.list [enc (toF u v.1), enc (toF u v.2)]) (.list [enc (toF v u.1), enc (toF v u.2)]) = .ok (.list ((dists u v).map enc)) := rfl
  have inn : cmpD .In (enc 0) (.list ((dists u v).map enc)) = .ok (.bool (decide (0 ∈ dists u v))) := by
    have hh : shp (.list ((dists u v).map enc)) = true := rfl
    rw [cmp_in (shp_enc 0) hh, any_enc]
  unfold d__law_touch b__law_touch touchR
  simp -implicitDefEqProofs only [x_def, x_scons, x_asg, x_call, x_econs, x_enil, x_var, y_sl, y_cons, y_call2, List.map_cons, List.map_nil, List.length_cons, List.length_nil, List.replicate, List.cons_append, List.nil_append, List.getElem?_cons_zero, List.getElem?_cons_succ, List.set_cons_zero, List.set_cons_succ, Nat.reduceAdd, Nat.reduceSub, Nat.reduceLT, t_name, t_Lname, y_asg, y_asgO, y_seqN, if_true, Nat.zero_lt_succ, x_comp, x_iseq, W_seq, z_comp2, wipeE, z_compC, z_compN, z_stepA, x_cnil, z_stepCT, n1, n2, n3, n4, z_stepE, z_lstC, x_if, x_cmp, x_tup, x_int, y_tup2, enc0, x_bin, y_bin, ad, y_cmp, inn]
  by_cases h0 : (0 : Rat) ∈ dists u v
  · simp -implicitDefEqProofs only [h0, decide_true, Bool.true_or, y_ifT, x_scons, x_ret, x_bl, y_ret, y_seqR, y_endR]
  · simp -implicitDefEqProofs only [h0, decide_false, Bool.false_or, y_ifF, y_seqN, x_var, x_int, x_str, x_bl, x_non, x_glob, x_tup, x_lst, x_bin, x_neg, x_cmp, x_chain, x_isN, x_notN, x_and, x_or, x_not, x_ite, x_ix, x_call, x_bi, x_isi, x_comp, x_enil, x_econs, x_cnil, x_ccons, x_iseq, x_irange, x_ienum, x_izip, x_irev, x_lzip, x_slc, x_onil, x_ocons, x_rev, y_sl, y_bin, y_cmp, y_cons, y_neg, y_isN, y_notN, y_and, y_or, y_andB, y_orB, y_not, y_iteT, y_iteF, y_ix, y_call0, y_call1, y_call2, y_call3, y_call4, y_call5, y_bi, y_isi, y_chain, y_chainT, y_chainF, y_tup0, y_tup1, y_tup2, y_tup3, y_tup4, y_lst0, y_lst1, y_lst2, y_lst3, y_lst4, y_lst5, y_lst6, y_lst7, y_seqT, y_seqL, y_enum, y_zip, y_zipT, y_lzip, y_rev, y_opt, y_slc, y_revL, z_comp0, z_comp1, z_comp2, z_comp3, z_lstC, z_compN, z_compC, z_stepA, z_stepCT, z_stepCF, z_stepE, x_snil, x_scons, x_asg, x_par, x_if, x_for, x_ret, x_raise, x_exp, x_brk, x_cont, x_pass, x_while, x_def, y_seqN, y_seqR, y_seqX, y_seqB, y_seqC, y_asg, y_asgX, y_asgO, y_ifT, y_ifF, y_for, y_ret, y_retX, y_exp, y_endR, y_endN, y_endX, z_forN, z_forC, z_forS, z_forBn, z_forBc, z_forBb, z_forBr, z_forBx, binD_add, binD_sub, cmpD_lt, cmpD_le, cmpD_gt, cmpD_ge, ix_t0, ix_t1, ix_t2, ix_l0, ix_l1, Rs.ofO_some, List.map, List.length_cons, List.length_nil, List.replicate, List.cons_append, List.nil_append, List.getElem?_cons_zero, List.getElem?_cons_succ, List.set_cons_zero, List.set_cons_succ, Nat.reduceAdd, Nat.reduceSub, Nat.reduceLT, t_name, t_tup, t_nil, t_cons, t_asgC, t_Lname, t_LtupT, t_LtupL, if_true, Nat.zero_lt_succ, Nat.lt_add_left_iff_pos, wipeE, W_ix0, W_ix1, s1, s2, s3, s4, m1, m2]
theorem less_step {a : Nat} {A B C0 : Sl} {f h : Rat} (hf : Sz a f) (hh : Sz a h) (hl : a + a ≤ 9000) :
    ex ⟨[(2, d__law_touch), (2, d__law_to_fence), (2, d__law_less)], []⟩ (.cons (.asg (.name 3) (.ix (.lst (.cons (.var 3) (.cons (.var 4) .nil))) (.bi .int (.cons (.call 2 (.cons (.var 4) (.cons (.var 3) .nil))) .nil)))) S.nil) [A, B, C0, .dt (enc f), .dt (enc h), .un] = .next [A, B, C0, .dt (enc (minR f h)), .dt (enc h), .un] := by
  have m2 := d__law_less_eq hh hf (by omega)
  have e : biD .int [.bool (decide (h < f))] = .ok (.int (if h < f then 1 else 0)) := by
    show Rs.ok (PyData.int _) = _
    by_cases h : h < f <;> simp [h]
  have e2 : ixD (.list [enc f, enc h]) (.int (if h < f then 1 else 0)) = .ok (enc (minR f h)) := by
    unfold minR
    split
    · exact ix_l1
    · exact ix_l0
  simp -implicitDefEqProofs only [x_var, x_int, x_str, x_bl, x_non, x_glob, x_tup, x_lst, x_bin, x_neg, x_cmp, x_chain, x_isN, x_notN, x_and, x_or, x_not, x_ite, x_ix, x_call, x_bi, x_isi, x_comp, x_enil, x_econs, x_cnil, x_ccons, x_iseq, x_irange, x_ienum, x_izip, x_irev, x_lzip, x_slc, x_onil, x_ocons, x_rev, y_sl, y_bin, y_cmp, y_cons, y_neg, y_isN, y_notN, y_and, y_or, y_andB, y_orB, y_not, y_iteT, y_iteF, y_ix, y_call0, y_call1, y_call2, y_call3, y_call4, y_call5, y_bi, y_isi, y_chain, y_chainT, y_chainF, y_tup0, y_tup1, y_tup2, y_tup3, y_tup4, y_lst0, y_lst1, y_lst2, y_lst3, y_lst4, y_lst5, y_lst6, y_lst7, y_seqT, y_seqL, y_enum, y_zip, y_zipT, y_lzip, y_rev, y_opt, y_slc, y_revL, z_comp0, z_comp1, z_comp2, z_comp3, z_lstC, z_compN, z_compC, z_stepA, z_stepCT, z_stepCF, z_stepE, x_snil, x_scons, x_asg, x_par, x_if, x_for, x_ret, x_raise, x_exp, x_brk, x_cont, x_pass, x_while, x_def, y_seqN, y_seqR, y_seqX, y_seqB, y_seqC, y_asg, y_asgX, y_asgO, y_ifT, y_ifF, y_for, y_ret, y_retX, y_exp, y_endR, y_endN, y_endX, z_forN, z_forC, z_forS, z_forBn, z_forBc, z_forBb, z_forBr, z_forBx, binD_add, binD_sub, cmpD_lt, cmpD_le, cmpD_gt, cmpD_ge, ix_t0, ix_t1, ix_t2, ix_l0, ix_l1, Rs.ofO_some, List.map, List.length_cons, List.length_nil, List.replicate, List.cons_append, List.nil_append, List.getElem?_cons_zero, List.getElem?_cons_succ, List.set_cons_zero, List.set_cons_succ, Nat.reduceAdd, Nat.reduceSub, Nat.reduceLT, t_name, t_tup, t_nil, t_cons, t_asgC, t_Lname, t_LtupT, t_LtupL, if_true, Nat.zero_lt_succ, Nat.lt_add_left_iff_pos, wipeE, m2, e, e2]
theorem min_sz {a : Nat} {f h : Rat} (hf : Sz a f) (hh : Sz a h) : Sz a (minR f h) := by
  unfold minR; split
  · exact hh
  · exact hf
theorem d__law_apart_eq {a : Nat} {u v : Wl} (hu : SzW a u) (hv : SzW a v) (h : 2 * (28 * a + 15) ≤ 9000) : d__law_apart [encW u, encW v] = .ok (enc (apartR u v)) := by
  have m0 := d__law_touch_eq hu hv (by omega)
  have n1 := d__law_to_fence_eq hu hv.1 (by omega)
  have n2 := d__law_to_fence_eq hu hv.2 (by omega)
  have n3 := d__law_to_fence_eq hv hu.1 (by omega)
  have n4 := d__law_to_fence_eq hv hu.2 (by omega)
  have s1 := (toF_sz hu hv.1).mono (show 20 * a + 8 * a + 15 ≤ 28 * a + 15 by omega)
  have s2 := (toF_sz hu hv.2).mono (show 20 * a + 8 * a + 15 ≤ 28 * a + 15 by omega)
  have s3 := (toF_sz hv hu.1).mono (show 20 * a + 8 * a + 15 ≤ 28 * a + 15 by omega)
  have s4 := (toF_sz hv hu.2).mono (show 20 * a + 8 * a + 15 ≤ 28 * a + 15 by omega)
  have t1 := min_sz s1 s1
  have t2 := min_sz t1 s2
  have t3 := min_sz t2 s3
  unfold d__law_apart b__law_apart apartR
  cases ht : touchR u v with
  | true =>
    rw [ht] at m0
    simp -implicitDefEqProofs only [x_var, x_int, x_str, x_bl, x_non, x_glob, x_tup, x_lst, x_bin, x_neg, x_cmp, x_chain, x_isN, x_notN, x_and, x_or, x_not, x_ite, x_ix, x_call, x_bi, x_isi, x_comp, x_enil, x_econs, x_cnil, x_ccons, x_iseq, x_irange, x_ienum, x_izip, x_irev, x_lzip, x_slc, x_onil, x_ocons, x_rev, y_sl, y_bin, y_cmp, y_cons, y_neg, y_isN, y_notN, y_and, y_or, y_andB, y_orB, y_not, y_iteT, y_iteF, y_ix, y_call0, y_call1, y_call2, y_call3, y_call4, y_call5, y_bi, y_isi, y_chain, y_chainT, y_chainF, y_tup0, y_tup1, y_tup2, y_tup3, y_tup4, y_lst0, y_lst1, y_lst2, y_lst3, y_lst4, y_lst5, y_lst6, y_lst7, y_seqT, y_seqL, y_enum, y_zip, y_zipT, y_lzip, y_rev, y_opt, y_slc, y_revL, z_comp0, z_comp1, z_comp2, z_comp3, z_lstC, z_compN, z_compC, z_stepA, z_stepCT, z_stepCF, z_stepE, x_snil, x_scons, x_asg, x_par, x_if, x_for, x_ret, x_raise, x_exp, x_brk, x_cont, x_pass, x_while, x_def, y_seqN, y_seqR, y_seqX, y_seqB, y_seqC, y_asg, y_asgX, y_asgO, y_ifT, y_ifF, y_for, y_ret, y_retX, y_exp, y_endR, y_endN, y_endX, z_forN, z_forC, z_forS, z_forBn, z_forBc, z_forBb, z_forBr, z_forBx, binD_add, binD_sub, cmpD_lt, cmpD_le, cmpD_gt, cmpD_ge, ix_t0, ix_t1, ix_t2, ix_l0, ix_l1, Rs.ofO_some, List.map, List.length_cons, List.length_nil, List.replicate, List.cons_append, List.nil_append, List.getElem?_cons_zero, List.getElem?_cons_succ, List.set_cons_zero, List.set_cons_succ, Nat.reduceAdd, Nat.reduceSub, Nat.reduceLT, t_name, t_tup, t_nil, t_cons, t_asgC, t_Lname, t_LtupT, t_LtupL, if_true, Nat.zero_lt_succ, Nat.lt_add_left_iff_pos, wipeE, m0, enc0, if_true]
  | false =>
    rw [ht] at m0
    have ad : binD .Add (.list [enc (toF u v.1), enc (toF u v.2)]) (.list [enc (toF v u.1), enc (toF v u.2)]) = .ok (.list [enc (toF u v.1), enc (toF u v.2), enc (toF v u.1), enc (toF v u.2)]) := rfl
    have b1 := less_step (A := .dt (encW u)) (B := .dt (encW v)) (C0 := .dt (.list [enc (toF u v.1), enc (toF u v.2), enc (toF v u.1), enc (toF v u.2)])) s1 s1 (by omega)
    have b2 := less_step (A := .dt (encW u)) (B := .dt (encW v)) (C0 := .dt (.list [enc (toF u v.1), enc (toF u v.2), enc (toF v u.1), enc (toF v u.2)])) t1 s2 (by omega)
    have b3 := less_step (A := .dt (encW u)) (B := .dt (encW v)) (C0 := .dt (.list [enc (toF u v.1), enc (toF u v.2), enc (toF v u.1), enc (toF v u.2)])) t2 s3 (by omega)
    have b4 := less_step (A := .dt (encW u)) (B := .dt (encW v)) (C0 := .dt (.list [enc (toF u v.1), enc (toF u v.2), enc (toF v u.1), enc (toF v u.2)])) t3 s4 (by omega)
    simp -implicitDefEqProofs only [x_def, x_scons, x_asg, x_call, x_econs, x_enil, x_var, y_sl, y_cons, y_call2, List.map_cons, List.map_nil, List.length_cons, List.length_nil, List.replicate, List.cons_append, List.nil_append, List.getElem?_cons_zero, List.getElem?_cons_succ, List.set_cons_zero, List.set_cons_succ, Nat.reduceAdd, Nat.reduceSub, Nat.reduceLT, t_name, t_Lname, y_asg, y_asgO, y_seqN, if_true, Nat.zero_lt_succ, x_if, m0, y_ifF, x_snil, x_comp, x_iseq, W_seq, z_comp2, wipeE, z_compC, z_compN, z_stepA, x_cnil, z_stepCT, n1, n2, n3, n4, z_stepE, z_lstC, x_bin, y_bin, ad, x_ix, x_int, y_ix, ix_l0, x_for, y_seqL, y_for]
    simp -implicitDefEqProofs only [z_forC, z_forS, t_name, List.length_cons, List.length_nil, Nat.reduceAdd, Nat.reduceLT, if_true, List.set_cons_zero, List.set_cons_succ, b1, b2, b3, b4, z_forBn, z_forN, y_seqN, x_ret, x_var, List.getElem?_cons_zero, List.getElem?_cons_succ, y_sl, y_ret, y_seqR, y_endR]
    rfl
end Mn
/-! rooms, the walk -/
namespace Mn
open PySem PySem.Spec PyProof.Rows L2
/-- the places of the walls that pass a test -/
def numsR (t : Wl → Bool) (ws : List Wl) : List Nat := (ws.zipIdx.filter fun p => t p.1).map (·.2)
def encN (ns : List Nat) : D := .list (ns.map fun n : Nat => .int (n : Int))
def encWs (ws : List Wl) : D := .list (ws.map encW)
theorem enumD_zip : ∀ (ws : List Wl) (n : Nat), enumD n (ws.map encW) = (ws.zipIdx n).map fun p => PyData.tuple [.int (p.2 : Int), encW p.1]
  | [], _ => rfl
  | w :: ws, n => by rw [List.map_cons, enumD, enumD_zip ws (n + 1), List.zipIdx_cons, List.map_cons]
theorem shp_intsL (ns : List Int) : shp (.list (ns.map PyData.int)) = true := by
  have h1 : PyData.canLayAll0 (ns.map PyData.int) = true := by
    induction ns with
    | nil => rfl
    | cons b bs ih => rw [List.map_cons, PyData.canLayAll0, ih]; rfl
  have h2 : PyData.depthAll (ns.map PyData.int) ≤ 1 := by
    clear h1
    induction ns with
    | nil => exact Nat.zero_le _
    | cons b bs ih =>
      rw [List.map_cons, PyData.depthAll]
      exact Nat.max_le.mpr ⟨by unfold PyData.depth; decide, ih⟩
  unfold shp SeqAt.shaped
  rw [PyData.canLay0, h1, PyData.depth]
  simp
  omega
theorem encN_eq (ns : List Nat) : encN ns = .list ((ns.map fun n : Nat => (n : Int)).map PyData.int) := by
  unfold encN; rw [List.map_map]; rfl
theorem shp_encN (ns : List Nat) : shp (encN ns) = true := by rw [encN_eq]; exact shp_intsL _
theorem eqvAll_ints : ∀ ns ms : List Nat, PyData.eqvAll (ns.map fun n : Nat => PyData.int (n : Int)) (ms.map fun n : Nat => PyData.int (n : Int)) = decide (ns = ms)
  | [], [] => rfl
  | [], _ :: _ => rfl
  | _ :: _, [] => rfl
  | n :: ns, m :: ms => by
    rw [List.map_cons, List.map_cons, PyData.eqvAll, eqvAll_ints ns ms, PyData.eqv]
    by_cases h : n = m
    · subst h; simp
    · have h' : ¬ (n : Int) = (m : Int) := by omega
      simp [h, h']
theorem eq_N (ns ms : List Nat) : cmpD .Eq (encN ns) (encN ms) = .ok (.bool (decide (ns = ms))) := by
  rw [cmp_eq (shp_encN ns) (shp_encN ms) (fun k => by simp [encN])]
  congr 2
  exact eqvAll_ints ns ms
theorem ne_N (ns ms : List Nat) : cmpD .NotEq (encN ns) (encN ms) = .ok (.bool (!decide (ns = ms))) := by
  rw [cmp_ne (shp_encN ns) (shp_encN ms)]
  congr 2
  have : PyData.eqv (encN ns) (encN ms) = _ := eqvAll_ints ns ms
  rw [this]
theorem encN0 : PyData.list [] = encN [] := rfl
theorem eq_N0 (ns : List Nat) : cmpD .Eq (encN ns) (.list []) = .ok (.bool (decide (ns = []))) := eq_N ns []
theorem n2_sz {a : Nat} {u v : Wl} (hu : SzW a u) (hv : SzW a v) : SzW (23 * a + 12) (n2R u v) := by
  unfold n2R
  split
  · rename_i x hx
    have := crs_sz hu hv hx
    exact ⟨this.mono (by omega), this.mono (by omega)⟩
  · have s1 : SzW (23 * a + 12) (u.1, nearR v u.1) := ⟨hu.1.mono (by omega), (near_sz hv hu.1).mono (by omega)⟩
    have s2 : SzW (23 * a + 12) (u.2, nearR v u.2) := ⟨hu.2.mono (by omega), (near_sz hv hu.2).mono (by omega)⟩
    have s3 : SzW (23 * a + 12) (nearR u v.1, v.1) := ⟨(near_sz hu hv.1).mono (by omega), hv.1.mono (by omega)⟩
    have s4 : SzW (23 * a + 12) (nearR u v.2, v.2) := ⟨(near_sz hu hv.2).mono (by omega), hv.2.mono (by omega)⟩
    simp only [pairs, List.foldl]
    exact pick_sz (pick_sz (pick_sz (pick_sz s1 s1) s2) s3) s4
/-! ### the defs -/
theorem d_apart_eq {a : Nat} {u v : Wl} (hu : SzW a u) (hv : SzW a v) (h : 16 * (23 * a + 12) + 10 ≤ 9000) : d_apart [encW u, encW v] = .ok (enc (apartR u v)) := by
  have m0 := d_nearest_two_eq hu hv h
  have hs : SzW (23 * a + 12) (n2R u v) := n2_sz hu hv
  have m1 := d_square_far_eq hs.1 hs.2 (by omega)
  rw [(n2_ok u v).2.2] at m1
  unfold d_apart b_apart
  simp -implicitDefEqProofs only [x_var, x_int, x_str, x_bl, x_non, x_glob, x_tup, x_lst, x_bin, x_neg, x_cmp, x_chain, x_isN, x_notN, x_and, x_or, x_not, x_ite, x_ix, x_call, x_bi, x_isi, x_comp, x_enil, x_econs, x_cnil, x_ccons, x_iseq, x_irange, x_ienum, x_izip, x_irev, x_lzip, x_slc, x_onil, x_ocons, x_rev, y_sl, y_bin, y_cmp, y_cons, y_neg, y_isN, y_notN, y_and, y_or, y_andB, y_orB, y_not, y_iteT, y_iteF, y_ix, y_call0, y_call1, y_call2, y_call3, y_call4, y_call5, y_bi, y_isi, y_chain, y_chainT, y_chainF, y_tup0, y_tup1, y_tup2, y_tup3, y_tup4, y_lst0, y_lst1, y_lst2, y_lst3, y_lst4, y_lst5, y_lst6, y_lst7, y_seqT, y_seqL, y_enum, y_zip, y_zipT, y_lzip, y_rev, y_opt, y_slc, y_revL, z_comp0, z_comp1, z_comp2, z_comp3, z_lstC, z_compN, z_compC, z_stepA, z_stepCT, z_stepCF, z_stepE, x_snil, x_scons, x_asg, x_par, x_if, x_for, x_ret, x_raise, x_exp, x_brk, x_cont, x_pass, x_while, x_def, y_seqN, y_seqR, y_seqX, y_seqB, y_seqC, y_asg, y_asgX, y_asgO, y_ifT, y_ifF, y_for, y_ret, y_retX, y_exp, y_endR, y_endN, y_endX, z_forN, z_forC, z_forS, z_forBn, z_forBc, z_forBb, z_forBr, z_forBx, binD_add, binD_sub, cmpD_lt, cmpD_le, cmpD_gt, cmpD_ge, ix_t0, ix_t1, ix_t2, ix_l0, ix_l1, Rs.ofO_some, List.map, List.length_cons, List.length_nil, List.replicate, List.cons_append, List.nil_append, List.getElem?_cons_zero, List.getElem?_cons_succ, List.set_cons_zero, List.set_cons_succ, Nat.reduceAdd, Nat.reduceSub, Nat.reduceLT, t_name, t_tup, t_nil, t_cons, t_asgC, t_Lname, t_LtupT, t_LtupL, if_true, Nat.zero_lt_succ, Nat.lt_add_left_iff_pos, wipeE, m0, W_ix0, W_ix1, m1]
theorem apart_sz {a : Nat} {u v : Wl} (hu : SzW a u) (hv : SzW a v) : Sz (16 * (23 * a + 12) + 10) (apartR u v) := by
  have hs : SzW (23 * a + 12) (n2R u v) := n2_sz hu hv
  rw [← (n2_ok u v).2.2]
  exact (hs.1.far hs.2).mono (by omega)
theorem d_need_reach_ok {b : Nat} {r : Rat} (hr : Sz b r) (hb : b + 1 ≤ 9000) (h : 0 < r) : d_need_reach [enc r] = .ok .none := by
  have m0 := d_is_less_eq sz0 hr (by omega)
  unfold d_need_reach b_need_reach
  simp -implicitDefEqProofs only [x_var, x_int, x_str, x_bl, x_non, x_glob, x_tup, x_lst, x_bin, x_neg, x_cmp, x_chain, x_isN, x_notN, x_and, x_or, x_not, x_ite, x_ix, x_call, x_bi, x_isi, x_comp, x_enil, x_econs, x_cnil, x_ccons, x_iseq, x_irange, x_ienum, x_izip, x_irev, x_lzip, x_slc, x_onil, x_ocons, x_rev, y_sl, y_bin, y_cmp, y_cons, y_neg, y_isN, y_notN, y_and, y_or, y_andB, y_orB, y_not, y_iteT, y_iteF, y_ix, y_call0, y_call1, y_call2, y_call3, y_call4, y_call5, y_bi, y_isi, y_chain, y_chainT, y_chainF, y_tup0, y_tup1, y_tup2, y_tup3, y_tup4, y_lst0, y_lst1, y_lst2, y_lst3, y_lst4, y_lst5, y_lst6, y_lst7, y_seqT, y_seqL, y_enum, y_zip, y_zipT, y_lzip, y_rev, y_opt, y_slc, y_revL, z_comp0, z_comp1, z_comp2, z_comp3, z_lstC, z_compN, z_compC, z_stepA, z_stepCT, z_stepCF, z_stepE, x_snil, x_scons, x_asg, x_par, x_if, x_for, x_ret, x_raise, x_exp, x_brk, x_cont, x_pass, x_while, x_def, y_seqN, y_seqR, y_seqX, y_seqB, y_seqC, y_asg, y_asgX, y_asgO, y_ifT, y_ifF, y_for, y_ret, y_retX, y_exp, y_endR, y_endN, y_endX, z_forN, z_forC, z_forS, z_forBn, z_forBc, z_forBb, z_forBr, z_forBx, binD_add, binD_sub, cmpD_lt, cmpD_le, cmpD_gt, cmpD_ge, ix_t0, ix_t1, ix_t2, ix_l0, ix_l1, Rs.ofO_some, List.map, List.length_cons, List.length_nil, List.replicate, List.cons_append, List.nil_append, List.getElem?_cons_zero, List.getElem?_cons_succ, List.set_cons_zero, List.set_cons_succ, Nat.reduceAdd, Nat.reduceSub, Nat.reduceLT, t_name, t_tup, t_nil, t_cons, t_asgC, t_Lname, t_LtupT, t_LtupL, if_true, Nat.zero_lt_succ, Nat.lt_add_left_iff_pos, wipeE, enc0, m0, h, decide_true, Bool.not_true]
theorem d_need_reach_bad {b : Nat} {r : Rat} (hr : Sz b r) (hb : b + 1 ≤ 9000) (h : ¬ 0 < r) : d_need_reach [enc r] = .exn 0 := by
  have m0 := d_is_less_eq sz0 hr (by omega)
  unfold d_need_reach b_need_reach
  simp -implicitDefEqProofs only [x_var, x_int, x_str, x_bl, x_non, x_glob, x_tup, x_lst, x_bin, x_neg, x_cmp, x_chain, x_isN, x_notN, x_and, x_or, x_not, x_ite, x_ix, x_call, x_bi, x_isi, x_comp, x_enil, x_econs, x_cnil, x_ccons, x_iseq, x_irange, x_ienum, x_izip, x_irev, x_lzip, x_slc, x_onil, x_ocons, x_rev, y_sl, y_bin, y_cmp, y_cons, y_neg, y_isN, y_notN, y_and, y_or, y_andB, y_orB, y_not, y_iteT, y_iteF, y_ix, y_call0, y_call1, y_call2, y_call3, y_call4, y_call5, y_bi, y_isi, y_chain, y_chainT, y_chainF, y_tup0, y_tup1, y_tup2, y_tup3, y_tup4, y_lst0, y_lst1, y_lst2, y_lst3, y_lst4, y_lst5, y_lst6, y_lst7, y_seqT, y_seqL, y_enum, y_zip, y_zipT, y_lzip, y_rev, y_opt, y_slc, y_revL, z_comp0, z_comp1, z_comp2, z_comp3, z_lstC, z_compN, z_compC, z_stepA, z_stepCT, z_stepCF, z_stepE, x_snil, x_scons, x_asg, x_par, x_if, x_for, x_ret, x_raise, x_exp, x_brk, x_cont, x_pass, x_while, x_def, y_seqN, y_seqR, y_seqX, y_seqB, y_seqC, y_asg, y_asgX, y_asgO, y_ifT, y_ifF, y_for, y_ret, y_retX, y_exp, y_endR, y_endN, y_endX, z_forN, z_forC, z_forS, z_forBn, z_forBc, z_forBb, z_forBr, z_forBx, binD_add, binD_sub, cmpD_lt, cmpD_le, cmpD_gt, cmpD_ge, ix_t0, ix_t1, ix_t2, ix_l0, ix_l1, Rs.ofO_some, List.map, List.length_cons, List.length_nil, List.replicate, List.cons_append, List.nil_append, List.getElem?_cons_zero, List.getElem?_cons_succ, List.set_cons_zero, List.set_cons_succ, Nat.reduceAdd, Nat.reduceSub, Nat.reduceLT, t_name, t_tup, t_nil, t_cons, t_asgC, t_Lname, t_LtupT, t_LtupL, if_true, Nat.zero_lt_succ, Nat.lt_add_left_iff_pos, wipeE, enc0, m0, h, decide_false, Bool.not_false]
theorem y_expX {ρ : En} {k : Nat} : expR ρ (.exn k) = .exn k := rfl
theorem y_cmpX {op : CmpOp} {k : Nat} {y : Rs D} : cmpR op (.exn k) y = .exn k := rfl
theorem x_told {Γ : G} {ρ : En} {n : Nat} {a : E} : ev Γ (.told n a) ρ = toldD n (ev Γ a ρ) := rfl
theorem len_L (l : List D) : biD .len [.list l] = .ok (.int l.length) := rfl
theorem d_need_walls_ok {b : Nat} {r : Rat} {l : List D} (hr : Sz b r) (hb : b + 1 ≤ 9000) (h : 0 < r) (hl : l.length ≤ 40) : d_need_walls [.list l, enc r] = .ok .none := by
  have m0 := d_need_reach_ok hr hb h
  have hl' : ¬ (40 : Int) < (l.length : Int) := by omega
  unfold d_need_walls b_need_walls
  simp -implicitDefEqProofs only [x_var, x_int, x_str, x_bl, x_non, x_glob, x_tup, x_lst, x_bin, x_neg, x_cmp, x_chain, x_isN, x_notN, x_and, x_or, x_not, x_ite, x_ix, x_call, x_bi, x_isi, x_comp, x_enil, x_econs, x_cnil, x_ccons, x_iseq, x_irange, x_ienum, x_izip, x_irev, x_lzip, x_slc, x_onil, x_ocons, x_rev, y_sl, y_bin, y_cmp, y_cons, y_neg, y_isN, y_notN, y_and, y_or, y_andB, y_orB, y_not, y_iteT, y_iteF, y_ix, y_call0, y_call1, y_call2, y_call3, y_call4, y_call5, y_bi, y_isi, y_chain, y_chainT, y_chainF, y_tup0, y_tup1, y_tup2, y_tup3, y_tup4, y_lst0, y_lst1, y_lst2, y_lst3, y_lst4, y_lst5, y_lst6, y_lst7, y_seqT, y_seqL, y_enum, y_zip, y_zipT, y_lzip, y_rev, y_opt, y_slc, y_revL, z_comp0, z_comp1, z_comp2, z_comp3, z_lstC, z_compN, z_compC, z_stepA, z_stepCT, z_stepCF, z_stepE, x_snil, x_scons, x_asg, x_par, x_if, x_for, x_ret, x_raise, x_exp, x_brk, x_cont, x_pass, x_while, x_def, y_seqN, y_seqR, y_seqX, y_seqB, y_seqC, y_asg, y_asgX, y_asgO, y_ifT, y_ifF, y_for, y_ret, y_retX, y_exp, y_endR, y_endN, y_endX, z_forN, z_forC, z_forS, z_forBn, z_forBc, z_forBb, z_forBr, z_forBx, binD_add, binD_sub, cmpD_lt, cmpD_le, cmpD_gt, cmpD_ge, ix_t0, ix_t1, ix_t2, ix_l0, ix_l1, Rs.ofO_some, List.map, List.length_cons, List.length_nil, List.replicate, List.cons_append, List.nil_append, List.getElem?_cons_zero, List.getElem?_cons_succ, List.set_cons_zero, List.set_cons_succ, Nat.reduceAdd, Nat.reduceSub, Nat.reduceLT, t_name, t_tup, t_nil, t_cons, t_asgC, t_Lname, t_LtupT, t_LtupL, if_true, Nat.zero_lt_succ, Nat.lt_add_left_iff_pos, wipeE, m0, len_L, hl', decide_false]
theorem d_need_walls_bad {b : Nat} {r : Rat} {l : List D} (hr : Sz b r) (hb : b + 1 ≤ 9000) (h : ¬ 0 < r) : d_need_walls [.list l, enc r] = .exn 0 := by
  have m0 := d_need_reach_bad hr hb h
  unfold d_need_walls b_need_walls
  simp -implicitDefEqProofs only [x_var, x_int, x_str, x_bl, x_non, x_glob, x_tup, x_lst, x_bin, x_neg, x_cmp, x_chain, x_isN, x_notN, x_and, x_or, x_not, x_ite, x_ix, x_call, x_bi, x_isi, x_comp, x_enil, x_econs, x_cnil, x_ccons, x_iseq, x_irange, x_ienum, x_izip, x_irev, x_lzip, x_slc, x_onil, x_ocons, x_rev, y_sl, y_bin, y_cmp, y_cons, y_neg, y_isN, y_notN, y_and, y_or, y_andB, y_orB, y_not, y_iteT, y_iteF, y_ix, y_call0, y_call1, y_call2, y_call3, y_call4, y_call5, y_bi, y_isi, y_chain, y_chainT, y_chainF, y_tup0, y_tup1, y_tup2, y_tup3, y_tup4, y_lst0, y_lst1, y_lst2, y_lst3, y_lst4, y_lst5, y_lst6, y_lst7, y_seqT, y_seqL, y_enum, y_zip, y_zipT, y_lzip, y_rev, y_opt, y_slc, y_revL, z_comp0, z_comp1, z_comp2, z_comp3, z_lstC, z_compN, z_compC, z_stepA, z_stepCT, z_stepCF, z_stepE, x_snil, x_scons, x_asg, x_par, x_if, x_for, x_ret, x_raise, x_exp, x_brk, x_cont, x_pass, x_while, x_def, y_seqN, y_seqR, y_seqX, y_seqB, y_seqC, y_asg, y_asgX, y_asgO, y_ifT, y_ifF, y_for, y_ret, y_retX, y_exp, y_endR, y_endN, y_endX, z_forN, z_forC, z_forS, z_forBn, z_forBc, z_forBb, z_forBr, z_forBx, binD_add, binD_sub, cmpD_lt, cmpD_le, cmpD_gt, cmpD_ge, ix_t0, ix_t1, ix_t2, ix_l0, ix_l1, Rs.ofO_some, List.map, List.length_cons, List.length_nil, List.replicate, List.cons_append, List.nil_append, List.getElem?_cons_zero, List.getElem?_cons_succ, List.set_cons_zero, List.set_cons_succ, Nat.reduceAdd, Nat.reduceSub, Nat.reduceLT, t_name, t_tup, t_nil, t_cons, t_asgC, t_Lname, t_LtupT, t_LtupL, if_true, Nat.zero_lt_succ, Nat.lt_add_left_iff_pos, wipeE, m0, y_expX]
theorem d_need_walls_many {b : Nat} {r : Rat} {l : List D} (hr : Sz b r) (hb : b + 1 ≤ 9000) (h : 0 < r) (hl : 40 < l.length) : d_need_walls [.list l, enc r] = .exn 3 := by
  have m0 := d_need_reach_ok hr hb h
  have hl' : (40 : Int) < (l.length : Int) := by omega
  unfold d_need_walls b_need_walls
  simp -implicitDefEqProofs only [x_var, x_int, x_str, x_bl, x_non, x_glob, x_tup, x_lst, x_bin, x_neg, x_cmp, x_chain, x_isN, x_notN, x_and, x_or, x_not, x_ite, x_ix, x_call, x_bi, x_isi, x_comp, x_enil, x_econs, x_cnil, x_ccons, x_iseq, x_irange, x_ienum, x_izip, x_irev, x_lzip, x_slc, x_onil, x_ocons, x_rev, y_sl, y_bin, y_cmp, y_cons, y_neg, y_isN, y_notN, y_and, y_or, y_andB, y_orB, y_not, y_iteT, y_iteF, y_ix, y_call0, y_call1, y_call2, y_call3, y_call4, y_call5, y_bi, y_isi, y_chain, y_chainT, y_chainF, y_tup0, y_tup1, y_tup2, y_tup3, y_tup4, y_lst0, y_lst1, y_lst2, y_lst3, y_lst4, y_lst5, y_lst6, y_lst7, y_seqT, y_seqL, y_enum, y_zip, y_zipT, y_lzip, y_rev, y_opt, y_slc, y_revL, z_comp0, z_comp1, z_comp2, z_comp3, z_lstC, z_compN, z_compC, z_stepA, z_stepCT, z_stepCF, z_stepE, x_snil, x_scons, x_asg, x_par, x_if, x_for, x_ret, x_raise, x_exp, x_brk, x_cont, x_pass, x_while, x_def, y_seqN, y_seqR, y_seqX, y_seqB, y_seqC, y_asg, y_asgX, y_asgO, y_ifT, y_ifF, y_for, y_ret, y_retX, y_exp, y_endR, y_endN, y_endX, z_forN, z_forC, z_forS, z_forBn, z_forBc, z_forBb, z_forBr, z_forBx, binD_add, binD_sub, cmpD_lt, cmpD_le, cmpD_gt, cmpD_ge, ix_t0, ix_t1, ix_t2, ix_l0, ix_l1, Rs.ofO_some, List.map, List.length_cons, List.length_nil, List.replicate, List.cons_append, List.nil_append, List.getElem?_cons_zero, List.getElem?_cons_succ, List.set_cons_zero, List.set_cons_succ, Nat.reduceAdd, Nat.reduceSub, Nat.reduceLT, t_name, t_tup, t_nil, t_cons, t_asgC, t_Lname, t_LtupT, t_LtupL, if_true, Nat.zero_lt_succ, Nat.lt_add_left_iff_pos, wipeE, m0, len_L, hl', decide_true]
theorem d_in_way_eq {a b : Nat} {r : Rat} {v : Wl} {ws : List Wl} (hw : ∀ w ∈ ws, SzW a w) (hv : SzW a v) (hr : Sz b r) (h : 16 * (23 * a + 12) + 10 + b ≤ 9000) (hl : ws.length ≤ 1000) : d_in_way [encWs ws, enc r, encW v] = .ok (encN (numsR (fun w => decide (apartR w v < r)) ws)) := by
  have hc : compR ⟨[(2, d_is_less), (2, d_apart)], []⟩ [3, 4] (.tup (.cons (.name 3) (.cons (.name 4) Mn.T.nil))) (.cons (.call 0 (.cons (.call 1 (.cons (.var 4) (.cons (.var 2) .nil))) (.cons (.var 1) .nil))) .nil) (.var 3) [.dt (encWs ws), .dt (enc r), .dt (encW v), .un, .un] (.ok (enumD 0 (ws.map encW))) = .ok (encN (numsR (fun w => decide (apartR w v < r)) ws)) := by
    refine y_comp (by rw [enumD_zip, List.length_map, List.length_zipIdx]; unfold lim; omega) ?_
    rw [enumD_zip]
    unfold numsR
    rw [List.map_map]
    refine compRun_filter (t := fun p : Wl × Nat => decide (apartR p.1 v < r)) ws.zipIdx fun p hp => ?_
    have hpw : p.1 ∈ ws := by
      obtain ⟨w, i⟩ := p
      exact (List.mem_zipIdx' hp).2 ▸ List.getElem_mem _
    have m0 := d_apart_eq (hw p.1 hpw) hv (by omega)
    have m1 := d_is_less_eq (apart_sz (hw p.1 hpw) hv) hr (by omega)
    refine ⟨[.dt (encWs ws), .dt (enc r), .dt (encW v), .dt (.int (p.2 : Int)), .dt (encW p.1)], ?_, ?_, fun _ => ?_⟩
    · simp -implicitDefEqProofs only [x_var, x_int, x_str, x_bl, x_non, x_glob, x_tup, x_lst, x_bin, x_neg, x_cmp, x_chain, x_isN, x_notN, x_and, x_or, x_not, x_ite, x_ix, x_call, x_bi, x_isi, x_comp, x_enil, x_econs, x_cnil, x_ccons, x_iseq, x_irange, x_ienum, x_izip, x_irev, x_lzip, x_slc, x_onil, x_ocons, x_rev, y_sl, y_bin, y_cmp, y_cons, y_neg, y_isN, y_notN, y_and, y_or, y_andB, y_orB, y_not, y_iteT, y_iteF, y_ix, y_call0, y_call1, y_call2, y_call3, y_call4, y_call5, y_bi, y_isi, y_chain, y_chainT, y_chainF, y_tup0, y_tup1, y_tup2, y_tup3, y_tup4, y_lst0, y_lst1, y_lst2, y_lst3, y_lst4, y_lst5, y_lst6, y_lst7, y_seqT, y_seqL, y_enum, y_zip, y_zipT, y_lzip, y_rev, y_opt, y_slc, y_revL, z_comp0, z_comp1, z_comp2, z_comp3, z_lstC, z_compN, z_compC, z_stepA, z_stepCT, z_stepCF, z_stepE, x_snil, x_scons, x_asg, x_par, x_if, x_for, x_ret, x_raise, x_exp, x_brk, x_cont, x_pass, x_while, x_def, y_seqN, y_seqR, y_seqX, y_seqB, y_seqC, y_asg, y_asgX, y_asgO, y_ifT, y_ifF, y_for, y_ret, y_retX, y_exp, y_endR, y_endN, y_endX, z_forN, z_forC, z_forS, z_forBn, z_forBc, z_forBb, z_forBr, z_forBx, binD_add, binD_sub, cmpD_lt, cmpD_le, cmpD_gt, cmpD_ge, ix_t0, ix_t1, ix_t2, ix_l0, ix_l1, Rs.ofO_some, List.map, List.length_cons, List.length_nil, List.replicate, List.cons_append, List.nil_append, List.getElem?_cons_zero, List.getElem?_cons_succ, List.set_cons_zero, List.set_cons_succ, Nat.reduceAdd, Nat.reduceSub, Nat.reduceLT, t_name, t_tup, t_nil, t_cons, t_asgC, t_Lname, t_LtupT, t_LtupL, if_true, Nat.zero_lt_succ, Nat.lt_add_left_iff_pos, wipeE]
    · simp -implicitDefEqProofs only [x_var, x_int, x_str, x_bl, x_non, x_glob, x_tup, x_lst, x_bin, x_neg, x_cmp, x_chain, x_isN, x_notN, x_and, x_or, x_not, x_ite, x_ix, x_call, x_bi, x_isi, x_comp, x_enil, x_econs, x_cnil, x_ccons, x_iseq, x_irange, x_ienum, x_izip, x_irev, x_lzip, x_slc, x_onil, x_ocons, x_rev, y_sl, y_bin, y_cmp, y_cons, y_neg, y_isN, y_notN, y_and, y_or, y_andB, y_orB, y_not, y_iteT, y_iteF, y_ix, y_call0, y_call1, y_call2, y_call3, y_call4, y_call5, y_bi, y_isi, y_chain, y_chainT, y_chainF, y_tup0, y_tup1, y_tup2, y_tup3, y_tup4, y_lst0, y_lst1, y_lst2, y_lst3, y_lst4, y_lst5, y_lst6, y_lst7, y_seqT, y_seqL, y_enum, y_zip, y_zipT, y_lzip, y_rev, y_opt, y_slc, y_revL, z_comp0, z_comp1, z_comp2, z_comp3, z_lstC, z_compN, z_compC, z_stepA, z_stepCT, z_stepCF, z_stepE, x_snil, x_scons, x_asg, x_par, x_if, x_for, x_ret, x_raise, x_exp, x_brk, x_cont, x_pass, x_while, x_def, y_seqN, y_seqR, y_seqX, y_seqB, y_seqC, y_asg, y_asgX, y_asgO, y_ifT, y_ifF, y_for, y_ret, y_retX, y_exp, y_endR, y_endN, y_endX, z_forN, z_forC, z_forS, z_forBn, z_forBc, z_forBb, z_forBr, z_forBx, binD_add, binD_sub, cmpD_lt, cmpD_le, cmpD_gt, cmpD_ge, ix_t0, ix_t1, ix_t2, ix_l0, ix_l1, Rs.ofO_some, List.map, List.length_cons, List.length_nil, List.replicate, List.cons_append, List.nil_append, List.getElem?_cons_zero, List.getElem?_cons_succ, List.set_cons_zero, List.set_cons_succ, Nat.reduceAdd, Nat.reduceSub, Nat.reduceLT, t_name, t_tup, t_nil, t_cons, t_asgC, t_Lname, t_LtupT, t_LtupL, if_true, Nat.zero_lt_succ, Nat.lt_add_left_iff_pos, wipeE, m0, m1]
    · simp -implicitDefEqProofs only [x_var, x_int, x_str, x_bl, x_non, x_glob, x_tup, x_lst, x_bin, x_neg, x_cmp, x_chain, x_isN, x_notN, x_and, x_or, x_not, x_ite, x_ix, x_call, x_bi, x_isi, x_comp, x_enil, x_econs, x_cnil, x_ccons, x_iseq, x_irange, x_ienum, x_izip, x_irev, x_lzip, x_slc, x_onil, x_ocons, x_rev, y_sl, y_bin, y_cmp, y_cons, y_neg, y_isN, y_notN, y_and, y_or, y_andB, y_orB, y_not, y_iteT, y_iteF, y_ix, y_call0, y_call1, y_call2, y_call3, y_call4, y_call5, y_bi, y_isi, y_chain, y_chainT, y_chainF, y_tup0, y_tup1, y_tup2, y_tup3, y_tup4, y_lst0, y_lst1, y_lst2, y_lst3, y_lst4, y_lst5, y_lst6, y_lst7, y_seqT, y_seqL, y_enum, y_zip, y_zipT, y_lzip, y_rev, y_opt, y_slc, y_revL, z_comp0, z_comp1, z_comp2, z_comp3, z_lstC, z_compN, z_compC, z_stepA, z_stepCT, z_stepCF, z_stepE, x_snil, x_scons, x_asg, x_par, x_if, x_for, x_ret, x_raise, x_exp, x_brk, x_cont, x_pass, x_while, x_def, y_seqN, y_seqR, y_seqX, y_seqB, y_seqC, y_asg, y_asgX, y_asgO, y_ifT, y_ifF, y_for, y_ret, y_retX, y_exp, y_endR, y_endN, y_endX, z_forN, z_forC, z_forS, z_forBn, z_forBc, z_forBb, z_forBr, z_forBx, binD_add, binD_sub, cmpD_lt, cmpD_le, cmpD_gt, cmpD_ge, ix_t0, ix_t1, ix_t2, ix_l0, ix_l1, Rs.ofO_some, List.map, List.length_cons, List.length_nil, List.replicate, List.cons_append, List.nil_append, List.getElem?_cons_zero, List.getElem?_cons_succ, List.set_cons_zero, List.set_cons_succ, Nat.reduceAdd, Nat.reduceSub, Nat.reduceLT, t_name, t_tup, t_nil, t_cons, t_asgC, t_Lname, t_LtupT, t_LtupL, if_true, Nat.zero_lt_succ, Nat.lt_add_left_iff_pos, wipeE]
      rfl
  have he : ienumR (.ok (encWs ws)) = .ok (enumD 0 (ws.map encW)) := rfl
  unfold d_in_way b_in_way
  simp -implicitDefEqProofs only [x_var, x_int, x_str, x_bl, x_non, x_glob, x_tup, x_lst, x_bin, x_neg, x_cmp, x_chain, x_isN, x_notN, x_and, x_or, x_not, x_ite, x_ix, x_call, x_bi, x_isi, x_comp, x_enil, x_econs, x_cnil, x_ccons, x_iseq, x_irange, x_ienum, x_izip, x_irev, x_lzip, x_slc, x_onil, x_ocons, x_rev, y_sl, y_bin, y_cmp, y_cons, y_neg, y_isN, y_notN, y_and, y_or, y_andB, y_orB, y_not, y_iteT, y_iteF, y_ix, y_call0, y_call1, y_call2, y_call3, y_call4, y_call5, y_bi, y_isi, y_chain, y_chainT, y_chainF, y_tup0, y_tup1, y_tup2, y_tup3, y_tup4, y_lst0, y_lst1, y_lst2, y_lst3, y_lst4, y_lst5, y_lst6, y_lst7, y_seqT, y_seqL, y_enum, y_zip, y_zipT, y_lzip, y_rev, y_opt, y_slc, y_revL, z_comp0, z_comp1, z_comp2, z_comp3, z_lstC, z_compN, z_compC, z_stepA, z_stepCT, z_stepCF, z_stepE, x_snil, x_scons, x_asg, x_par, x_if, x_for, x_ret, x_raise, x_exp, x_brk, x_cont, x_pass, x_while, x_def, y_seqN, y_seqR, y_seqX, y_seqB, y_seqC, y_asg, y_asgX, y_asgO, y_ifT, y_ifF, y_for, y_ret, y_retX, y_exp, y_endR, y_endN, y_endX, z_forN, z_forC, z_forS, z_forBn, z_forBc, z_forBb, z_forBr, z_forBx, binD_add, binD_sub, cmpD_lt, cmpD_le, cmpD_gt, cmpD_ge, ix_t0, ix_t1, ix_t2, ix_l0, ix_l1, Rs.ofO_some, List.map, List.length_cons, List.length_nil, List.replicate, List.cons_append, List.nil_append, List.getElem?_cons_zero, List.getElem?_cons_succ, List.set_cons_zero, List.set_cons_succ, Nat.reduceAdd, Nat.reduceSub, Nat.reduceLT, t_name, t_tup, t_nil, t_cons, t_asgC, t_Lname, t_LtupT, t_LtupL, if_true, Nat.zero_lt_succ, Nat.lt_add_left_iff_pos, wipeE, he, hc]
end Mn
/-! the law k20, its parts -/
namespace Mn
open PySem PySem.Spec PyProof.Rows L2
theorem enum_comp {Γ : G} {ρ : En} {ρ' : Nat → Wl → En} {i j : Nat} {c : E} {ws : List Wl} {t : Wl → Bool} (hl : ws.length ≤ 1000) (ha : ∀ (n : Nat) (w : Wl), asgT (.tup (.cons (.name i) (.cons (.name j) Mn.T.nil))) (.tuple [.int (n : Int), encW w]) (wipeE ρ [i, j]) = some (ρ' n w))
    (hc : ∀ w ∈ ws, ∀ n, ev Γ c (ρ' n w) = .ok (.bool (t w))) (hv : ∀ n w, ev Γ (.var i) (ρ' n w) = .ok (.int (n : Int))) : compR Γ [i, j] (.tup (.cons (.name i) (.cons (.name j) Mn.T.nil))) (.cons c .nil) (.var i) ρ (.ok (enumD 0 (ws.map encW))) = .ok (encN (numsR t ws)) := by
  refine y_comp (by rw [enumD_zip, List.length_map, List.length_zipIdx]; unfold lim; omega) ?_
  rw [enumD_zip]
  unfold numsR
  rw [List.map_map]
  refine compRun_filter (t := fun p : Wl × Nat => t p.1) ws.zipIdx fun p hp => ?_
  have hpw : p.1 ∈ ws := by
    obtain ⟨w, i⟩ := p
    exact (List.mem_zipIdx' hp).2 ▸ List.getElem_mem _
  exact ⟨ρ' p.2 p.1, ha p.2 p.1, hc p.1 hpw p.2, fun _ => hv p.2 p.1⟩
theorem nums_sub {t1 t2 : Wl → Bool} {ws : List Wl} (h : ∀ w ∈ ws, t1 w = true → t2 w = true) {n : Nat} (hn : n ∈ numsR t1 ws) : n ∈ numsR t2 ws := by
  unfold numsR at *
  obtain ⟨p, hp, rfl⟩ := List.mem_map.mp hn
  obtain ⟨h1, h2⟩ := List.mem_filter.mp hp
  refine List.mem_map.mpr ⟨p, List.mem_filter.mpr ⟨h1, ?_⟩, rfl⟩
  obtain ⟨w, i⟩ := p
  exact h w ((List.mem_zipIdx' h1).2 ▸ List.getElem_mem _) h2
theorem d__law_fences_eq (m : Int) (k : Nat) (hk : k ≤ 100) : ∃ ws : List Wl, (∀ w ∈ ws, SzW 6 w) ∧ ws.length ≤ k ∧ d__law_fences [.int m, .int (k : Int)] = .ok (encWs ws) := by
  have r1 := binD_mod (i := m) (j := (k : Int) + 1) (by omega)
  obtain ⟨n, hn, hn2⟩ : ∃ n : Nat, m % ((k : Int) + 1) = (n : Int) ∧ n ≤ k := by
    have h1 := Int.emod_nonneg m (show ((k : Int) + 1) ≠ 0 by omega)
    have h2 := Int.emod_lt_of_pos m (show 0 < (k : Int) + 1 by omega)
    exact ⟨(m % ((k : Int) + 1)).toNat, by omega, by omega⟩
  rw [hn] at r1
  refine ⟨(List.range n).map fun j : Nat => fenR (drw m (j : Int)), fun w hw => ?_, by simpa using hn2, ?_⟩
  · obtain ⟨j, _, rfl⟩ := List.mem_map.mp hw
    exact fen_sz _
  · have hr : irangeR (.ok [.int (n : Int)]) = .ok ((List.range n).map fun j : Nat => PyData.int (j : Int)) := by
      rw [y_range1 (by omega) (by omega), rangeD_eq]
      simp
    have hc : compR ⟨[(1, d__law_one_fence), (2, d__law_drawn)], []⟩ [2] (.name 2) .nil (.call 0 (.cons (.call 1 (.cons (.var 0) (.cons (.var 2) .nil))) .nil)) [.dt (.int m), .dt (.int (k : Int)), .un] (.ok ((List.range n).map fun j : Nat => PyData.int (j : Int))) = .ok (encWs ((List.range n).map fun j : Nat => fenR (drw m (j : Int)))) := by
      refine y_comp (by rw [List.length_map, List.length_range]; unfold lim; omega) ?_
      rw [List.map_map]
      refine compRun_map (List.range n) fun j _ => ⟨[.dt (.int m), .dt (.int (k : Int)), .dt (.int (j : Int))], ?_, x_cnil, ?_⟩
      · simp -implicitDefEqProofs only [x_var, x_int, x_str, x_bl, x_non, x_glob, x_tup, x_lst, x_bin, x_neg, x_cmp, x_chain, x_isN, x_notN, x_and, x_or, x_not, x_ite, x_ix, x_call, x_bi, x_isi, x_comp, x_enil, x_econs, x_cnil, x_ccons, x_iseq, x_irange, x_ienum, x_izip, x_irev, x_lzip, x_slc, x_onil, x_ocons, x_rev, y_sl, y_bin, y_cmp, y_cons, y_neg, y_isN, y_notN, y_and, y_or, y_andB, y_orB, y_not, y_iteT, y_iteF, y_ix, y_call0, y_call1, y_call2, y_call3, y_call4, y_call5, y_bi, y_isi, y_chain, y_chainT, y_chainF, y_tup0, y_tup1, y_tup2, y_tup3, y_tup4, y_lst0, y_lst1, y_lst2, y_lst3, y_lst4, y_lst5, y_lst6, y_lst7, y_seqT, y_seqL, y_enum, y_zip, y_zipT, y_lzip, y_rev, y_opt, y_slc, y_revL, z_comp0, z_comp1, z_comp2, z_comp3, z_lstC, z_compN, z_compC, z_stepA, z_stepCT, z_stepCF, z_stepE, x_snil, x_scons, x_asg, x_par, x_if, x_for, x_ret, x_raise, x_exp, x_brk, x_cont, x_pass, x_while, x_def, y_seqN, y_seqR, y_seqX, y_seqB, y_seqC, y_asg, y_asgX, y_asgO, y_ifT, y_ifF, y_for, y_ret, y_retX, y_exp, y_endR, y_endN, y_endX, z_forN, z_forC, z_forS, z_forBn, z_forBc, z_forBb, z_forBr, z_forBx, binD_add, binD_sub, cmpD_lt, cmpD_le, cmpD_gt, cmpD_ge, ix_t0, ix_t1, ix_t2, ix_l0, ix_l1, Rs.ofO_some, List.map, List.length_cons, List.length_nil, List.replicate, List.cons_append, List.nil_append, List.getElem?_cons_zero, List.getElem?_cons_succ, List.set_cons_zero, List.set_cons_succ, Nat.reduceAdd, Nat.reduceSub, Nat.reduceLT, t_name, t_tup, t_nil, t_cons, t_asgC, t_Lname, t_LtupT, t_LtupL, if_true, Nat.zero_lt_succ, Nat.lt_add_left_iff_pos, wipeE]
      · have f1 := d__law_drawn_eq m (j : Int)
        have f2 := d__law_one_fence_eq (drw m (j : Int))
        simp -implicitDefEqProofs only [x_var, x_int, x_str, x_bl, x_non, x_glob, x_tup, x_lst, x_bin, x_neg, x_cmp, x_chain, x_isN, x_notN, x_and, x_or, x_not, x_ite, x_ix, x_call, x_bi, x_isi, x_comp, x_enil, x_econs, x_cnil, x_ccons, x_iseq, x_irange, x_ienum, x_izip, x_irev, x_lzip, x_slc, x_onil, x_ocons, x_rev, y_sl, y_bin, y_cmp, y_cons, y_neg, y_isN, y_notN, y_and, y_or, y_andB, y_orB, y_not, y_iteT, y_iteF, y_ix, y_call0, y_call1, y_call2, y_call3, y_call4, y_call5, y_bi, y_isi, y_chain, y_chainT, y_chainF, y_tup0, y_tup1, y_tup2, y_tup3, y_tup4, y_lst0, y_lst1, y_lst2, y_lst3, y_lst4, y_lst5, y_lst6, y_lst7, y_seqT, y_seqL, y_enum, y_zip, y_zipT, y_lzip, y_rev, y_opt, y_slc, y_revL, z_comp0, z_comp1, z_comp2, z_comp3, z_lstC, z_compN, z_compC, z_stepA, z_stepCT, z_stepCF, z_stepE, x_snil, x_scons, x_asg, x_par, x_if, x_for, x_ret, x_raise, x_exp, x_brk, x_cont, x_pass, x_while, x_def, y_seqN, y_seqR, y_seqX, y_seqB, y_seqC, y_asg, y_asgX, y_asgO, y_ifT, y_ifF, y_for, y_ret, y_retX, y_exp, y_endR, y_endN, y_endX, z_forN, z_forC, z_forS, z_forBn, z_forBc, z_forBb, z_forBr, z_forBx, binD_add, binD_sub, cmpD_lt, cmpD_le, cmpD_gt, cmpD_ge, ix_t0, ix_t1, ix_t2, ix_l0, ix_l1, Rs.ofO_some, List.map, List.length_cons, List.length_nil, List.replicate, List.cons_append, List.nil_append, List.getElem?_cons_zero, List.getElem?_cons_succ, List.set_cons_zero, List.set_cons_succ, Nat.reduceAdd, Nat.reduceSub, Nat.reduceLT, t_name, t_tup, t_nil, t_cons, t_asgC, t_Lname, t_LtupT, t_LtupL, if_true, Nat.zero_lt_succ, Nat.lt_add_left_iff_pos, wipeE, f1, f2]
        rfl
    unfold d__law_fences b__law_fences
    simp -implicitDefEqProofs only [x_var, x_int, x_str, x_bl, x_non, x_glob, x_tup, x_lst, x_bin, x_neg, x_cmp, x_chain, x_isN, x_notN, x_and, x_or, x_not, x_ite, x_ix, x_call, x_bi, x_isi, x_comp, x_enil, x_econs, x_cnil, x_ccons, x_iseq, x_irange, x_ienum, x_izip, x_irev, x_lzip, x_slc, x_onil, x_ocons, x_rev, y_sl, y_bin, y_cmp, y_cons, y_neg, y_isN, y_notN, y_and, y_or, y_andB, y_orB, y_not, y_iteT, y_iteF, y_ix, y_call0, y_call1, y_call2, y_call3, y_call4, y_call5, y_bi, y_isi, y_chain, y_chainT, y_chainF, y_tup0, y_tup1, y_tup2, y_tup3, y_tup4, y_lst0, y_lst1, y_lst2, y_lst3, y_lst4, y_lst5, y_lst6, y_lst7, y_seqT, y_seqL, y_enum, y_zip, y_zipT, y_lzip, y_rev, y_opt, y_slc, y_revL, z_comp0, z_comp1, z_comp2, z_comp3, z_lstC, z_compN, z_compC, z_stepA, z_stepCT, z_stepCF, z_stepE, x_snil, x_scons, x_asg, x_par, x_if, x_for, x_ret, x_raise, x_exp, x_brk, x_cont, x_pass, x_while, x_def, y_seqN, y_seqR, y_seqX, y_seqB, y_seqC, y_asg, y_asgX, y_asgO, y_ifT, y_ifF, y_for, y_ret, y_retX, y_exp, y_endR, y_endN, y_endX, z_forN, z_forC, z_forS, z_forBn, z_forBc, z_forBb, z_forBr, z_forBx, binD_add, binD_sub, cmpD_lt, cmpD_le, cmpD_gt, cmpD_ge, ix_t0, ix_t1, ix_t2, ix_l0, ix_l1, Rs.ofO_some, List.map, List.length_cons, List.length_nil, List.replicate, List.cons_append, List.nil_append, List.getElem?_cons_zero, List.getElem?_cons_succ, List.set_cons_zero, List.set_cons_succ, Nat.reduceAdd, Nat.reduceSub, Nat.reduceLT, t_name, t_tup, t_nil, t_cons, t_asgC, t_Lname, t_LtupT, t_LtupL, if_true, Nat.zero_lt_succ, Nat.lt_add_left_iff_pos, wipeE, r1, hr, hc]
theorem d__law_reach_eq (m : Int) : ∃ r : Rat, 0 < r ∧ Sz 7 r ∧ d__law_reach [.int m] = .ok (enc r) := by
  obtain ⟨u, hu, e⟩ : ∃ u : Int, (1 ≤ u ∧ u ≤ 40) ∧ ixD (.list [.int 1, .int 2, .int 3, .int 4, .int 9, .int 25, .int (1 + m / 64 % 40)]) (.int (m / 8 % 7)) = .ok (.int u) := by
    obtain ⟨x, hx, e⟩ := ix_some (l := [.int 1, .int 2, .int 3, .int 4, .int 9, .int 25, .int (1 + m / 64 % 40)]) (i := m / 8 % 7) (by omega) (by simp; omega)
    simp only [List.mem_cons, List.not_mem_nil, or_false] at hx
    rcases hx with rfl | rfl | rfl | rfl | rfl | rfl | rfl <;> exact ⟨_, by omega, e⟩
  obtain ⟨d, hd, e2⟩ : ∃ d : Int, (1 ≤ d ∧ d ≤ 4) ∧ ixD (.list [.int 1, .int 1, .int 4, .int 2]) (.int (m / 4096 % 4)) = .ok (.int d) := by
    obtain ⟨x, hx, e⟩ := ix_some (l := [.int 1, .int 1, .int 4, .int 2]) (i := m / 4096 % 4) (by omega) (by simp; omega)
    simp only [List.mem_cons, List.not_mem_nil, or_false] at hx
    rcases hx with rfl | rfl | rfl | rfl <;> exact ⟨_, by decide, e⟩
  have a1 := d__law_made_eq (n := u) (d := d) (b := 6) (by omega) (by omega) (by decide)
  have d1 := dv (i := m) (j := 64) (b := 30) (by decide) (by decide) (by decide)
  have d2 := dv (i := m) (j := 8) (b := 30) (by decide) (by decide) (by decide)
  have d3 := dv (i := m) (j := 4096) (b := 30) (by decide) (by decide) (by decide)
  have r1 := binD_mod (i := m / 64) (j := 40) (by decide)
  have r2 := binD_mod (i := m / 8) (j := 7) (by decide)
  have r3 := binD_mod (i := m / 4096) (j := 4) (by decide)
  refine ⟨Rat.divInt u d, ?_, sz_divInt (by omega) (by omega) (by omega), ?_⟩
  · rw [← num_pos, (divInt_parts (n := u) (d := d) (by omega)).1]
    have g1 : (Nat.gcd u.natAbs d.natAbs : Int) ∣ u := by rw [Int.ofNat_dvd_left]; exact Nat.gcd_dvd_left _ _
    have g2 : 0 < (Nat.gcd u.natAbs d.natAbs : Int) := by have := Nat.gcd_pos_of_pos_right u.natAbs (show 0 < d.natAbs by omega); omega
    exact Int.ediv_pos_of_pos_of_dvd (by omega) (by omega) g1
  · unfold d__law_reach b__law_reach
    simp -implicitDefEqProofs only [x_var, x_int, x_str, x_bl, x_non, x_glob, x_tup, x_lst, x_bin, x_neg, x_cmp, x_chain, x_isN, x_notN, x_and, x_or, x_not, x_ite, x_ix, x_call, x_bi, x_isi, x_comp, x_enil, x_econs, x_cnil, x_ccons, x_iseq, x_irange, x_ienum, x_izip, x_irev, x_lzip, x_slc, x_onil, x_ocons, x_rev, y_sl, y_bin, y_cmp, y_cons, y_neg, y_isN, y_notN, y_and, y_or, y_andB, y_orB, y_not, y_iteT, y_iteF, y_ix, y_call0, y_call1, y_call2, y_call3, y_call4, y_call5, y_bi, y_isi, y_chain, y_chainT, y_chainF, y_tup0, y_tup1, y_tup2, y_tup3, y_tup4, y_lst0, y_lst1, y_lst2, y_lst3, y_lst4, y_lst5, y_lst6, y_lst7, y_seqT, y_seqL, y_enum, y_zip, y_zipT, y_lzip, y_rev, y_opt, y_slc, y_revL, z_comp0, z_comp1, z_comp2, z_comp3, z_lstC, z_compN, z_compC, z_stepA, z_stepCT, z_stepCF, z_stepE, x_snil, x_scons, x_asg, x_par, x_if, x_for, x_ret, x_raise, x_exp, x_brk, x_cont, x_pass, x_while, x_def, y_seqN, y_seqR, y_seqX, y_seqB, y_seqC, y_asg, y_asgX, y_asgO, y_ifT, y_ifF, y_for, y_ret, y_retX, y_exp, y_endR, y_endN, y_endX, z_forN, z_forC, z_forS, z_forBn, z_forBc, z_forBb, z_forBr, z_forBx, binD_add, binD_sub, cmpD_lt, cmpD_le, cmpD_gt, cmpD_ge, ix_t0, ix_t1, ix_t2, ix_l0, ix_l1, Rs.ofO_some, List.map, List.length_cons, List.length_nil, List.replicate, List.cons_append, List.nil_append, List.getElem?_cons_zero, List.getElem?_cons_succ, List.set_cons_zero, List.set_cons_succ, Nat.reduceAdd, Nat.reduceSub, Nat.reduceLT, t_name, t_tup, t_nil, t_cons, t_asgC, t_Lname, t_LtupT, t_LtupL, if_true, Nat.zero_lt_succ, Nat.lt_add_left_iff_pos, wipeE, pow_12, d1, d2, d3, r1, r2, r3, e, e2, a1]
end Mn
/-! small things that the laws share -/
namespace Mn
open PySem PySem.Spec PyProof.Rows L2
theorem boolsOf_map : ∀ bs : List Bool, boolsOf (bs.map PyData.bool) = some bs
  | [] => rfl
  | b :: bs => by rw [List.map_cons, boolsOf, boolsOf_map bs]; rfl
theorem all_L (bs : List Bool) : biD .all [.list (bs.map PyData.bool)] = .ok (.bool (bs.all id)) := by
  show (match boolsOf (bs.map PyData.bool) with | some bs => Rs.ok (PyData.bool (bs.all id)) | none => .no) = _
  rw [boolsOf_map]
theorem any_L (bs : List Bool) : biD .any [.list (bs.map PyData.bool)] = .ok (.bool (bs.any id)) := by
  show (match boolsOf (bs.map PyData.bool) with | some bs => Rs.ok (PyData.bool (bs.any id)) | none => .no) = _
  rw [boolsOf_map]
theorem any_nat (l : List Nat) (n : Nat) : (l.map fun n : Nat => PyData.int (n : Int)).any (fun z => PyData.eqv z (.int (n : Int))) = decide (n ∈ l) := by
  induction l with
  | nil => simp
  | cons x l ih =>
    rw [List.map_cons, List.any_cons, ih, PyData.eqv]
    by_cases h : x = n
    · subst h; simp
    · have h' : ¬ n = x := fun z => h z.symm
      have h2 : ¬ (x : Int) = (n : Int) := by omega
      simp [h', h2]
theorem in_N (n : Nat) (l : List Nat) : cmpD .In (.int (n : Int)) (encN l) = .ok (.bool (decide (n ∈ l))) := by
  unfold encN
  rw [cmp_in (shp_int _) (shp_encN l), any_nat]
theorem ne_bb (a b : Bool) : cmpD .NotEq (.bool a) (.bool b) = .ok (.bool (!decide (a = b))) := by
  rw [cmp_ne rfl rfl]
  cases a <;> cases b <;> rfl
theorem eq_bb (a b : Bool) : cmpD .Eq (.bool a) (.bool b) = .ok (.bool (decide (a = b))) := by
  rw [cmp_eq rfl rfl (by intro k h; cases h)]
  cases a <;> cases b <;> rfl
def loopOf : S → S
  | .for_ _ _ b => b
  | .while_ _ b => b
  | s => s
def nthS : Nat → S → S
  | 0, .cons s _ => s
  | n + 1, .cons _ s => nthS n s
  | _, s => s
def bodyOf : S → S
  | .cons (.for_ _ _ b) _ => b
  | s => s
theorem list_L (l : List D) : biD .list [.list l] = .ok (.list l) := rfl
theorem list_T (l : List D) : biD .list [.tuple l] = .ok (.list l) := rfl
theorem tw (p q : Pt) : PyData.tuple [encP p, encP q] = encW (p, q) := rfl
theorem tp (p q : Rat) : PyData.tuple [enc p, enc q] = encP (p, q) := rfl
theorem rep41 (x : D) : binD .Mult (.list [x]) (.int 41) = .ok (.list (List.replicate 41 x)) := by
  show (if [x].length * (41 : Int).toNat ≤ lim ∧ -(2 ^ 63) ≤ (41 : Int) ∧ (41 : Int) < 2 ^ 63 then Rs.ok (PyData.list (List.replicate (41 : Int).toNat [x]).flatten) else .no) = _
  rw [if_pos ⟨by show 1 * 41 ≤ 1000000; decide, by decide, by decide⟩]
  rfl
theorem told_ok (n : Nat) (d : D) : toldD n (.ok d) = .ok d := rfl
theorem told0 : toldD 4 (.exn 0) = .ok (.str "BadReach") := rfl
theorem told1 : toldD 4 (.exn 1) = .ok (.str "NoRoom") := rfl
theorem told2 : toldD 4 (.exn 2) = .ok (.str "NoWall") := rfl
theorem told3 : toldD 4 (.exn 3) = .ok (.str "TooMany") := rfl
theorem ne_bad : cmpD .NotEq (.str "BadReach") (.str "BadReach") = .ok (.bool false) := by
  rw [cmp_ne (by decide +kernel) (by decide +kernel)]
  simp [PyData.eqv]
theorem ne_many : cmpD .NotEq (.str "TooMany") (.str "TooMany") = .ok (.bool false) := by
  rw [cmp_ne (by decide +kernel) (by decide +kernel)]
  simp [PyData.eqv]
theorem ne_room : cmpD .NotEq (.str "NoRoom") (.str "NoRoom") = .ok (.bool false) := by
  rw [cmp_ne (by decide +kernel) (by decide +kernel)]
  simp [PyData.eqv]
theorem len_succ {n : Nat} {ρ : En} (h : ρ.length = n + 1) : ∃ s ρ', ρ = s :: ρ' ∧ ρ'.length = n := by
  cases ρ with
  | nil => simp at h
  | cons s ρ => exact ⟨s, ρ, rfl, by simpa using h⟩
theorem len_dict (ns : List Int) : biD .len [.dict (ns.map fun n => (.int n, .none))] = .ok (.int ns.length) := by
  show Rs.ok (PyData.int _) = _
  rw [List.length_map]
theorem pow_30 : binD .Pow (.int 2) (.int 30) = .ok (.int 1073741824) := rfl
/-! ### points in lists -/
def encPs (ps : List Pt) : D := .list (ps.map encP)
theorem canLay_map {α : Type} (f : α → D) (h : ∀ x, (f x).canLay0 = true) : ∀ l : List α, PyData.canLayAll0 (l.map f) = true
  | [] => rfl
  | x :: l => by rw [List.map_cons, PyData.canLayAll0, h x, canLay_map f h l]; rfl
theorem depth_map {α : Type} (f : α → D) (n : Nat) (h : ∀ x, (f x).depth ≤ n) : ∀ l : List α, PyData.depthAll (l.map f) ≤ n
  | [] => Nat.zero_le _
  | x :: l => by rw [List.map_cons, PyData.depthAll]; exact Nat.max_le.mpr ⟨h x, depth_map f n h l⟩
theorem shp_map {α : Type} (f : α → D) (n : Nat) (h1 : ∀ x, (f x).canLay0 = true) (h2 : ∀ x, (f x).depth ≤ n) (hn : n ≤ 6) (l : List α) : shp (.list (l.map f)) = true := by
  have a := canLay_map f h1 l
  have b := depth_map f n h2 l
  unfold shp SeqAt.shaped
  rw [PyData.canLay0, a, PyData.depth]
  simp
  omega
theorem shp_encPs (ps : List Pt) : shp (encPs ps) = true := shp_map encP 3 (fun _ => rfl) (fun p => by unfold encP enc; simp [PyData.depth, PyData.depthAll]) (by decide) ps
theorem eqvAll_map {α : Type} [DecidableEq α] (f : α → D) (h : ∀ x y, PyData.eqv (f x) (f y) = decide (x = y)) : ∀ l k : List α, PyData.eqvAll (l.map f) (k.map f) = decide (l = k)
  | [], [] => rfl
  | [], _ :: _ => rfl
  | _ :: _, [] => rfl
  | x :: l, y :: k => by
    rw [List.map_cons, List.map_cons, PyData.eqvAll, h, eqvAll_map f h l k]
    by_cases h1 : x = y <;> by_cases h2 : l = k <;> simp [h1, h2]
theorem eqv_encPs (ps qs : List Pt) : PyData.eqv (encPs ps) (encPs qs) = decide (ps = qs) := by
  unfold encPs
  rw [PyData.eqv, eqvAll_map encP eqv_encP]
theorem eq_ps (ps qs : List Pt) : cmpD .Eq (encPs ps) (encPs qs) = .ok (.bool (decide (ps = qs))) := by
  rw [cmp_eq (shp_encPs ps) (shp_encPs qs) (by intro k h; cases h), eqv_encPs]
theorem ne_ps (ps qs : List Pt) : cmpD .NotEq (encPs ps) (encPs qs) = .ok (.bool (!decide (ps = qs))) := by
  rw [cmp_ne (shp_encPs ps) (shp_encPs qs), eqv_encPs]
theorem eq_ps0 (ps : List Pt) : cmpD .Eq (encPs ps) (.list []) = .ok (.bool (decide (ps = []))) := eq_ps ps []
theorem ne_ps0 (ps : List Pt) : cmpD .NotEq (encPs ps) (.list []) = .ok (.bool (!decide (ps = []))) := ne_ps ps []
theorem nums_nil {t : Wl → Bool} {ws : List Wl} : numsR t ws = [] ↔ ∀ w ∈ ws, t w = false := by
  unfold numsR
  rw [List.map_eq_nil_iff, List.filter_eq_nil_iff]
  constructor
  · intro h w hw
    obtain ⟨i, hi, rfl⟩ := List.getElem_of_mem hw
    have := h (ws[i], i) (by rw [List.mem_zipIdx_iff_getElem?]; simp [hi])
    simpa using this
  · intro h p hp
    obtain ⟨w, i⟩ := p
    have := h w ((List.mem_zipIdx' hp).2 ▸ List.getElem_mem _)
    simp [this]
/-- the pieces of a way -/
def pcs (ps : List Pt) : List Wl := ps.zip (ps.drop 1)
theorem zipD_map : ∀ (ps qs : List Pt), zipD (ps.map encP) (qs.map encP) = (ps.zip qs).map encW
  | [], _ => rfl
  | _ :: _, [] => rfl
  | p :: ps, q :: qs => by rw [List.map_cons, List.map_cons, zipD, zipD_map ps qs, List.zip_cons_cons, List.map_cons]; rfl
theorem cut_1 {α : Type} (xs : List α) : cutD xs (some 1) none = xs.drop 1 := by
  unfold cutD HT.sIx
  cases xs with
  | nil => simp
  | cons x xs => simp
theorem sl_1 (ps : List Pt) : slD (encPs ps) (some 1) none = .ok (encPs (ps.drop 1)) := by
  unfold encPs
  rw [slD, cut_1, List.map_drop]
theorem zip_ps (ps : List Pt) : izipR (.ok (encPs ps)) (.ok (encPs (ps.drop 1))) = .ok ((pcs ps).map encW) := by
  unfold encPs pcs
  rw [y_zip, zipD_map]
theorem lzip_ps (ps : List Pt) : lzipR (.ok (encPs ps)) (.ok (encPs (ps.drop 1))) = .ok (encWs (pcs ps)) := by
  unfold encPs pcs encWs
  rw [y_lzip, zipD_map]
theorem cat_ws {us vs : List Wl} (h : us.length + vs.length ≤ 1000) : binD .Add (encWs us) (encWs vs) = .ok (encWs (us ++ vs)) := by
  unfold encWs
  rw [List.map_append]
  show (if _ then _ else _) = _
  rw [if_pos (by rw [List.length_map, List.length_map]; unfold lim; omega)]
theorem cat_ps {us vs : List Pt} (h : us.length + vs.length ≤ 1000) : binD .Add (encPs us) (encPs vs) = .ok (encPs (us ++ vs)) := by
  unfold encPs
  rw [List.map_append]
  show (if _ then _ else _) = _
  rw [if_pos (by rw [List.length_map, List.length_map]; unfold lim; omega)]
theorem ps_first {p : Pt} {ps : List Pt} : ixD (encPs (p :: ps)) (.int 0) = .ok (encP p) := ix_l0
theorem ps_last {p : Pt} {ps : List Pt} : ixD (encPs (p :: ps)) (.int (-1)) = .ok (encP ((p :: ps).getLast (by simp))) := by
  unfold encPs ixD atI
  have h : ixN ((p :: ps).map encP).length (-1) = some ps.length := by
    unfold ixN
    simp
    omega
  simp only [h, Option.bind_some]
  rw [List.getElem?_map, List.getLast_eq_getElem]
  simp
theorem orB_t {x : Rs D} : orB true x = .ok (.bool true) := rfl
theorem orB_f {x : Rs D} : orB false x = x := rfl
theorem andB_t {x : Rs D} : andB true x = x := rfl
theorem andB_f {x : Rs D} : andB false x = .ok (.bool false) := rfl
theorem neg1 : negR (.ok (.int 1)) = .ok (.int (-1)) := rfl
theorem pcs_sz {a : Nat} {ps : List Pt} (h : ∀ p ∈ ps, SzP a p) : ∀ v ∈ pcs ps, SzW a v := fun v hv => by
  unfold pcs at hv
  obtain ⟨v1, v2⟩ := v
  have h1 := (List.of_mem_zip hv).1
  have h2 := List.mem_of_mem_drop (List.of_mem_zip hv).2
  exact ⟨h v1 h1, h v2 h2⟩
theorem pcs_len (ps : List Pt) : (pcs ps).length ≤ ps.length := by
  unfold pcs
  rw [List.length_zip]
  omega
end Mn
/-! ways looked at -/
namespace Mn
open PySem PySem.Spec PyProof.Rows L2
/-- the middle may go a piece -/
def freeR (ws : List Wl) (r : Rat) (v : Wl) : Bool := decide (numsR (fun w => decide (apartR w v < r)) ws = [])
theorem freeR_iff {ws : List Wl} {r : Rat} {v : Wl} : freeR ws r v = true ↔ ∀ w ∈ ws, ¬ apartR w v < r := by
  unfold freeR
  rw [decide_eq_true_iff, nums_nil]
  simp
def lastP (p : Pt) (ps : List Pt) : Pt := (p :: ps).getLast (by simp)
def isWayR (ws : List Wl) (r : Rat) (s g : Pt) : List Pt → Bool
  | [] => false
  | p :: ps => decide (p = s) && decide (lastP p ps = g) && (pcs (p :: ps) ++ [(s, s)]).all (freeR ws r)
theorem d_is_way_eq {a b : Nat} {r : Rat} {s g : Pt} {ps : List Pt} {ws : List Wl} (hw : ∀ w ∈ ws, SzW a w) (hs : SzP a s) (hp : ∀ p ∈ ps, SzP a p) (hr : Sz b r) (h : 16 * (23 * a + 12) + 10 + b ≤ 9000) (hl : ws.length ≤ 40) (h0 : 0 < r) (hpl : ps.length ≤ 900) :
    d_is_way [encWs ws, enc r, encP s, encP g, encPs ps] = .ok (.bool (isWayR ws r s g ps)) := by
  have m0 : d_need_walls [encWs ws, enc r] = .ok .none := d_need_walls_ok hr (by omega) h0 (by rw [List.length_map]; exact hl)
  unfold d_is_way b_is_way
  cases ps with
  | nil =>
    simp -implicitDefEqProofs only [x_var, x_int, x_str, x_bl, x_non, x_glob, x_tup, x_lst, x_bin, x_neg, x_cmp, x_chain, x_isN, x_notN, x_and, x_or, x_not, x_ite, x_ix, x_call, x_bi, x_isi, x_comp, x_enil, x_econs, x_cnil, x_ccons, x_iseq, x_irange, x_ienum, x_izip, x_irev, x_lzip, x_slc, x_onil, x_ocons, x_rev, y_sl, y_bin, y_cmp, y_cons, y_neg, y_isN, y_notN, y_and, y_or, y_andB, y_orB, y_not, y_iteT, y_iteF, y_ix, y_call0, y_call1, y_call2, y_call3, y_call4, y_call5, y_bi, y_isi, y_chain, y_chainT, y_chainF, y_tup0, y_tup1, y_tup2, y_tup3, y_tup4, y_lst0, y_lst1, y_lst2, y_lst3, y_lst4, y_lst5, y_lst6, y_lst7, y_seqT, y_seqL, y_enum, y_zip, y_zipT, y_lzip, y_rev, y_opt, y_slc, y_revL, z_comp0, z_comp1, z_comp2, z_comp3, z_lstC, z_compN, z_compC, z_stepA, z_stepCT, z_stepCF, z_stepE, x_snil, x_scons, x_asg, x_par, x_if, x_for, x_ret, x_raise, x_exp, x_brk, x_cont, x_pass, x_while, x_def, y_seqN, y_seqR, y_seqX, y_seqB, y_seqC, y_asg, y_asgX, y_asgO, y_ifT, y_ifF, y_for, y_ret, y_retX, y_exp, y_endR, y_endN, y_endX, z_forN, z_forC, z_forS, z_forBn, z_forBc, z_forBb, z_forBr, z_forBx, binD_add, binD_sub, cmpD_lt, cmpD_le, cmpD_gt, cmpD_ge, ix_t0, ix_t1, ix_t2, ix_l0, ix_l1, Rs.ofO_some, List.map, List.length_cons, List.length_nil, List.replicate, List.cons_append, List.nil_append, List.getElem?_cons_zero, List.getElem?_cons_succ, List.set_cons_zero, List.set_cons_succ, Nat.reduceAdd, Nat.reduceSub, Nat.reduceLT, t_name, t_tup, t_nil, t_cons, t_asgC, t_Lname, t_LtupT, t_LtupL, if_true, Nat.zero_lt_succ, Nat.lt_add_left_iff_pos, wipeE, Bool.true_or, Bool.false_or, Bool.or_true, Bool.or_false, Bool.true_and, Bool.false_and, Bool.and_true, Bool.and_false, Bool.not_true, Bool.not_false, decide_true, decide_false, orB_t, orB_f, andB_t, andB_f, m0, eq_ps0, decide_true, isWayR, orB_t]
  | cons p t =>
    have n1 : (decide (p :: t = [])) = false := by simp
    by_cases e1 : p = s
    · subst e1
      by_cases e2 : lastP p t = g
      · have hc : compR ⟨[(2, d_need_walls), (3, d_in_way)], []⟩ [6] (.name 6) .nil (.cmp .Eq (.call 1 (.cons (.var 0) (.cons (.var 1) (.cons (.var 6) .nil)))) (.lst E.nil)) [.dt (encWs ws), .dt (enc r), .dt (encP p), .dt (encP g), .dt (encPs (p :: t)), .dt (encWs (pcs (p :: t) ++ [(p, p)])), .un] (.ok ((pcs (p :: t) ++ [(p, p)]).map encW)) = .ok (.list (((pcs (p :: t) ++ [(p, p)]).map (freeR ws r)).map PyData.bool)) := by
          have lp := pcs_len (p :: t)
          refine y_comp (by rw [List.length_map, List.length_append]; unfold lim; simp at *; omega) ?_
          rw [List.map_map]
          refine compRun_map _ fun v hv => ⟨[.dt (encWs ws), .dt (enc r), .dt (encP p), .dt (encP g), .dt (encPs (p :: t)), .dt (encWs (pcs (p :: t) ++ [(p, p)])), .dt (encW v)], ?_, x_cnil, ?_⟩
          · simp -implicitDefEqProofs only [x_var, x_int, x_str, x_bl, x_non, x_glob, x_tup, x_lst, x_bin, x_neg, x_cmp, x_chain, x_isN, x_notN, x_and, x_or, x_not, x_ite, x_ix, x_call, x_bi, x_isi, x_comp, x_enil, x_econs, x_cnil, x_ccons, x_iseq, x_irange, x_ienum, x_izip, x_irev, x_lzip, x_slc, x_onil, x_ocons, x_rev, y_sl, y_bin, y_cmp, y_cons, y_neg, y_isN, y_notN, y_and, y_or, y_andB, y_orB, y_not, y_iteT, y_iteF, y_ix, y_call0, y_call1, y_call2, y_call3, y_call4, y_call5, y_bi, y_isi, y_chain, y_chainT, y_chainF, y_tup0, y_tup1, y_tup2, y_tup3, y_tup4, y_lst0, y_lst1, y_lst2, y_lst3, y_lst4, y_lst5, y_lst6, y_lst7, y_seqT, y_seqL, y_enum, y_zip, y_zipT, y_lzip, y_rev, y_opt, y_slc, y_revL, z_comp0, z_comp1, z_comp2, z_comp3, z_lstC, z_compN, z_compC, z_stepA, z_stepCT, z_stepCF, z_stepE, x_snil, x_scons, x_asg, x_par, x_if, x_for, x_ret, x_raise, x_exp, x_brk, x_cont, x_pass, x_while, x_def, y_seqN, y_seqR, y_seqX, y_seqB, y_seqC, y_asg, y_asgX, y_asgO, y_ifT, y_ifF, y_for, y_ret, y_retX, y_exp, y_endR, y_endN, y_endX, z_forN, z_forC, z_forS, z_forBn, z_forBc, z_forBb, z_forBr, z_forBx, binD_add, binD_sub, cmpD_lt, cmpD_le, cmpD_gt, cmpD_ge, ix_t0, ix_t1, ix_t2, ix_l0, ix_l1, Rs.ofO_some, List.map, List.length_cons, List.length_nil, List.replicate, List.cons_append, List.nil_append, List.getElem?_cons_zero, List.getElem?_cons_succ, List.set_cons_zero, List.set_cons_succ, Nat.reduceAdd, Nat.reduceSub, Nat.reduceLT, t_name, t_tup, t_nil, t_cons, t_asgC, t_Lname, t_LtupT, t_LtupL, if_true, Nat.zero_lt_succ, Nat.lt_add_left_iff_pos, wipeE, Bool.true_or, Bool.false_or, Bool.or_true, Bool.or_false, Bool.true_and, Bool.false_and, Bool.and_true, Bool.and_false, Bool.not_true, Bool.not_false, decide_true, decide_false, orB_t, orB_f, andB_t, andB_f]
          · have sv : SzW a v := by
              rcases List.mem_append.mp hv with hv | hv
              · exact pcs_sz hp v hv
              · rw [List.mem_singleton.mp hv]; exact ⟨hs, hs⟩
            have m1 := d_in_way_eq hw sv hr h (by omega)
            simp -implicitDefEqProofs only [x_var, x_int, x_str, x_bl, x_non, x_glob, x_tup, x_lst, x_bin, x_neg, x_cmp, x_chain, x_isN, x_notN, x_and, x_or, x_not, x_ite, x_ix, x_call, x_bi, x_isi, x_comp, x_enil, x_econs, x_cnil, x_ccons, x_iseq, x_irange, x_ienum, x_izip, x_irev, x_lzip, x_slc, x_onil, x_ocons, x_rev, y_sl, y_bin, y_cmp, y_cons, y_neg, y_isN, y_notN, y_and, y_or, y_andB, y_orB, y_not, y_iteT, y_iteF, y_ix, y_call0, y_call1, y_call2, y_call3, y_call4, y_call5, y_bi, y_isi, y_chain, y_chainT, y_chainF, y_tup0, y_tup1, y_tup2, y_tup3, y_tup4, y_lst0, y_lst1, y_lst2, y_lst3, y_lst4, y_lst5, y_lst6, y_lst7, y_seqT, y_seqL, y_enum, y_zip, y_zipT, y_lzip, y_rev, y_opt, y_slc, y_revL, z_comp0, z_comp1, z_comp2, z_comp3, z_lstC, z_compN, z_compC, z_stepA, z_stepCT, z_stepCF, z_stepE, x_snil, x_scons, x_asg, x_par, x_if, x_for, x_ret, x_raise, x_exp, x_brk, x_cont, x_pass, x_while, x_def, y_seqN, y_seqR, y_seqX, y_seqB, y_seqC, y_asg, y_asgX, y_asgO, y_ifT, y_ifF, y_for, y_ret, y_retX, y_exp, y_endR, y_endN, y_endX, z_forN, z_forC, z_forS, z_forBn, z_forBc, z_forBb, z_forBr, z_forBx, binD_add, binD_sub, cmpD_lt, cmpD_le, cmpD_gt, cmpD_ge, ix_t0, ix_t1, ix_t2, ix_l0, ix_l1, Rs.ofO_some, List.map, List.length_cons, List.length_nil, List.replicate, List.cons_append, List.nil_append, List.getElem?_cons_zero, List.getElem?_cons_succ, List.set_cons_zero, List.set_cons_succ, Nat.reduceAdd, Nat.reduceSub, Nat.reduceLT, t_name, t_tup, t_nil, t_cons, t_asgC, t_Lname, t_LtupT, t_LtupL, if_true, Nat.zero_lt_succ, Nat.lt_add_left_iff_pos, wipeE, Bool.true_or, Bool.false_or, Bool.or_true, Bool.or_false, Bool.true_and, Bool.false_and, Bool.and_true, Bool.and_false, Bool.not_true, Bool.not_false, decide_true, decide_false, orB_t, orB_f, andB_t, andB_f, m1, eq_N0]
            rfl
        have k1 : PyData.list [encW (p, p)] = encWs [(p, p)] := rfl
        have k2 : iseqR (.ok (encWs (pcs (p :: t) ++ [(p, p)]))) = .ok ((pcs (p :: t) ++ [(p, p)]).map encW) := rfl
        have k3 := cat_ws (us := pcs (p :: t)) (vs := [(p, p)]) (by have := pcs_len (p :: t); simp at *; omega)
        have e2' : decide ((p :: t).getLast (by simp) = g) = true := by rw [decide_eq_true_iff]; exact e2
        simp -implicitDefEqProofs only [x_var, x_int, x_str, x_bl, x_non, x_glob, x_tup, x_lst, x_bin, x_neg, x_cmp, x_chain, x_isN, x_notN, x_and, x_or, x_not, x_ite, x_ix, x_call, x_bi, x_isi, x_comp, x_enil, x_econs, x_cnil, x_ccons, x_iseq, x_irange, x_ienum, x_izip, x_irev, x_lzip, x_slc, x_onil, x_ocons, x_rev, y_sl, y_bin, y_cmp, y_cons, y_neg, y_isN, y_notN, y_and, y_or, y_andB, y_orB, y_not, y_iteT, y_iteF, y_ix, y_call0, y_call1, y_call2, y_call3, y_call4, y_call5, y_bi, y_isi, y_chain, y_chainT, y_chainF, y_tup0, y_tup1, y_tup2, y_tup3, y_tup4, y_lst0, y_lst1, y_lst2, y_lst3, y_lst4, y_lst5, y_lst6, y_lst7, y_seqT, y_seqL, y_enum, y_zip, y_zipT, y_lzip, y_rev, y_opt, y_slc, y_revL, z_comp0, z_comp1, z_comp2, z_comp3, z_lstC, z_compN, z_compC, z_stepA, z_stepCT, z_stepCF, z_stepE, x_snil, x_scons, x_asg, x_par, x_if, x_for, x_ret, x_raise, x_exp, x_brk, x_cont, x_pass, x_while, x_def, y_seqN, y_seqR, y_seqX, y_seqB, y_seqC, y_asg, y_asgX, y_asgO, y_ifT, y_ifF, y_for, y_ret, y_retX, y_exp, y_endR, y_endN, y_endX, z_forN, z_forC, z_forS, z_forBn, z_forBc, z_forBb, z_forBr, z_forBx, binD_add, binD_sub, cmpD_lt, cmpD_le, cmpD_gt, cmpD_ge, ix_t0, ix_t1, ix_t2, ix_l0, ix_l1, Rs.ofO_some, List.map, List.length_cons, List.length_nil, List.replicate, List.cons_append, List.nil_append, List.getElem?_cons_zero, List.getElem?_cons_succ, List.set_cons_zero, List.set_cons_succ, Nat.reduceAdd, Nat.reduceSub, Nat.reduceLT, t_name, t_tup, t_nil, t_cons, t_asgC, t_Lname, t_LtupT, t_LtupL, if_true, Nat.zero_lt_succ, Nat.lt_add_left_iff_pos, wipeE, Bool.true_or, Bool.false_or, Bool.or_true, Bool.or_false, Bool.true_and, Bool.false_and, Bool.and_true, Bool.and_false, Bool.not_true, Bool.not_false, decide_true, decide_false, orB_t, orB_f, andB_t, andB_f, m0, eq_ps0, n1, ps_first, ps_last, neg1, ne_p, e2', Bool.or_false, Bool.or_true, orB_t, orB_f, decide_true, Bool.not_true, sl_1, lzip_ps, tw, k1, k3, k2, hc, all_L]
        rw [List.all_map]
        simp [isWayR, e2, Function.comp_def]
      · have e2' : decide ((p :: t).getLast (by simp) = g) = false := by rw [decide_eq_false_iff_not]; exact e2
        simp -implicitDefEqProofs only [x_var, x_int, x_str, x_bl, x_non, x_glob, x_tup, x_lst, x_bin, x_neg, x_cmp, x_chain, x_isN, x_notN, x_and, x_or, x_not, x_ite, x_ix, x_call, x_bi, x_isi, x_comp, x_enil, x_econs, x_cnil, x_ccons, x_iseq, x_irange, x_ienum, x_izip, x_irev, x_lzip, x_slc, x_onil, x_ocons, x_rev, y_sl, y_bin, y_cmp, y_cons, y_neg, y_isN, y_notN, y_and, y_or, y_andB, y_orB, y_not, y_iteT, y_iteF, y_ix, y_call0, y_call1, y_call2, y_call3, y_call4, y_call5, y_bi, y_isi, y_chain, y_chainT, y_chainF, y_tup0, y_tup1, y_tup2, y_tup3, y_tup4, y_lst0, y_lst1, y_lst2, y_lst3, y_lst4, y_lst5, y_lst6, y_lst7, y_seqT, y_seqL, y_enum, y_zip, y_zipT, y_lzip, y_rev, y_opt, y_slc, y_revL, z_comp0, z_comp1, z_comp2, z_comp3, z_lstC, z_compN, z_compC, z_stepA, z_stepCT, z_stepCF, z_stepE, x_snil, x_scons, x_asg, x_par, x_if, x_for, x_ret, x_raise, x_exp, x_brk, x_cont, x_pass, x_while, x_def, y_seqN, y_seqR, y_seqX, y_seqB, y_seqC, y_asg, y_asgX, y_asgO, y_ifT, y_ifF, y_for, y_ret, y_retX, y_exp, y_endR, y_endN, y_endX, z_forN, z_forC, z_forS, z_forBn, z_forBc, z_forBb, z_forBr, z_forBx, binD_add, binD_sub, cmpD_lt, cmpD_le, cmpD_gt, cmpD_ge, ix_t0, ix_t1, ix_t2, ix_l0, ix_l1, Rs.ofO_some, List.map, List.length_cons, List.length_nil, List.replicate, List.cons_append, List.nil_append, List.getElem?_cons_zero, List.getElem?_cons_succ, List.set_cons_zero, List.set_cons_succ, Nat.reduceAdd, Nat.reduceSub, Nat.reduceLT, t_name, t_tup, t_nil, t_cons, t_asgC, t_Lname, t_LtupT, t_LtupL, if_true, Nat.zero_lt_succ, Nat.lt_add_left_iff_pos, wipeE, Bool.true_or, Bool.false_or, Bool.or_true, Bool.or_false, Bool.true_and, Bool.false_and, Bool.and_true, Bool.and_false, Bool.not_true, Bool.not_false, decide_true, decide_false, orB_t, orB_f, andB_t, andB_f, m0, eq_ps0, n1, ps_first, ps_last, neg1, ne_p, e2', Bool.or_false, Bool.or_true, orB_t, orB_f, decide_true, Bool.not_true, Bool.not_false]
        simp [isWayR, e2]
    · have e1' : decide (p = s) = false := by simp [e1]
      simp -implicitDefEqProofs only [x_var, x_int, x_str, x_bl, x_non, x_glob, x_tup, x_lst, x_bin, x_neg, x_cmp, x_chain, x_isN, x_notN, x_and, x_or, x_not, x_ite, x_ix, x_call, x_bi, x_isi, x_comp, x_enil, x_econs, x_cnil, x_ccons, x_iseq, x_irange, x_ienum, x_izip, x_irev, x_lzip, x_slc, x_onil, x_ocons, x_rev, y_sl, y_bin, y_cmp, y_cons, y_neg, y_isN, y_notN, y_and, y_or, y_andB, y_orB, y_not, y_iteT, y_iteF, y_ix, y_call0, y_call1, y_call2, y_call3, y_call4, y_call5, y_bi, y_isi, y_chain, y_chainT, y_chainF, y_tup0, y_tup1, y_tup2, y_tup3, y_tup4, y_lst0, y_lst1, y_lst2, y_lst3, y_lst4, y_lst5, y_lst6, y_lst7, y_seqT, y_seqL, y_enum, y_zip, y_zipT, y_lzip, y_rev, y_opt, y_slc, y_revL, z_comp0, z_comp1, z_comp2, z_comp3, z_lstC, z_compN, z_compC, z_stepA, z_stepCT, z_stepCF, z_stepE, x_snil, x_scons, x_asg, x_par, x_if, x_for, x_ret, x_raise, x_exp, x_brk, x_cont, x_pass, x_while, x_def, y_seqN, y_seqR, y_seqX, y_seqB, y_seqC, y_asg, y_asgX, y_asgO, y_ifT, y_ifF, y_for, y_ret, y_retX, y_exp, y_endR, y_endN, y_endX, z_forN, z_forC, z_forS, z_forBn, z_forBc, z_forBb, z_forBr, z_forBx, binD_add, binD_sub, cmpD_lt, cmpD_le, cmpD_gt, cmpD_ge, ix_t0, ix_t1, ix_t2, ix_l0, ix_l1, Rs.ofO_some, List.map, List.length_cons, List.length_nil, List.replicate, List.cons_append, List.nil_append, List.getElem?_cons_zero, List.getElem?_cons_succ, List.set_cons_zero, List.set_cons_succ, Nat.reduceAdd, Nat.reduceSub, Nat.reduceLT, t_name, t_tup, t_nil, t_cons, t_asgC, t_Lname, t_LtupT, t_LtupL, if_true, Nat.zero_lt_succ, Nat.lt_add_left_iff_pos, wipeE, Bool.true_or, Bool.false_or, Bool.or_true, Bool.or_false, Bool.true_and, Bool.false_and, Bool.and_true, Bool.and_false, Bool.not_true, Bool.not_false, decide_true, decide_false, orB_t, orB_f, andB_t, andB_f, m0, eq_ps0, n1, ps_first, ps_last, neg1, ne_p, e1', Bool.not_false, orB_t, orB_f]
      simp [isWayR, e1]
theorem d_is_way_bad {b : Nat} {r : Rat} {l : List D} {s g p : D} (hr : Sz b r) (hb : b + 1 ≤ 9000) (h : ¬ 0 < r) : d_is_way [.list l, enc r, s, g, p] = .exn 0 := by
  have m0 := d_need_walls_bad (l := l) hr hb h
  unfold d_is_way b_is_way
  simp -implicitDefEqProofs only [x_var, x_int, x_str, x_bl, x_non, x_glob, x_tup, x_lst, x_bin, x_neg, x_cmp, x_chain, x_isN, x_notN, x_and, x_or, x_not, x_ite, x_ix, x_call, x_bi, x_isi, x_comp, x_enil, x_econs, x_cnil, x_ccons, x_iseq, x_irange, x_ienum, x_izip, x_irev, x_lzip, x_slc, x_onil, x_ocons, x_rev, y_sl, y_bin, y_cmp, y_cons, y_neg, y_isN, y_notN, y_and, y_or, y_andB, y_orB, y_not, y_iteT, y_iteF, y_ix, y_call0, y_call1, y_call2, y_call3, y_call4, y_call5, y_bi, y_isi, y_chain, y_chainT, y_chainF, y_tup0, y_tup1, y_tup2, y_tup3, y_tup4, y_lst0, y_lst1, y_lst2, y_lst3, y_lst4, y_lst5, y_lst6, y_lst7, y_seqT, y_seqL, y_enum, y_zip, y_zipT, y_lzip, y_rev, y_opt, y_slc, y_revL, z_comp0, z_comp1, z_comp2, z_comp3, z_lstC, z_compN, z_compC, z_stepA, z_stepCT, z_stepCF, z_stepE, x_snil, x_scons, x_asg, x_par, x_if, x_for, x_ret, x_raise, x_exp, x_brk, x_cont, x_pass, x_while, x_def, y_seqN, y_seqR, y_seqX, y_seqB, y_seqC, y_asg, y_asgX, y_asgO, y_ifT, y_ifF, y_for, y_ret, y_retX, y_exp, y_endR, y_endN, y_endX, z_forN, z_forC, z_forS, z_forBn, z_forBc, z_forBb, z_forBr, z_forBx, binD_add, binD_sub, cmpD_lt, cmpD_le, cmpD_gt, cmpD_ge, ix_t0, ix_t1, ix_t2, ix_l0, ix_l1, Rs.ofO_some, List.map, List.length_cons, List.length_nil, List.replicate, List.cons_append, List.nil_append, List.getElem?_cons_zero, List.getElem?_cons_succ, List.set_cons_zero, List.set_cons_succ, Nat.reduceAdd, Nat.reduceSub, Nat.reduceLT, t_name, t_tup, t_nil, t_cons, t_asgC, t_Lname, t_LtupT, t_LtupL, if_true, Nat.zero_lt_succ, Nat.lt_add_left_iff_pos, wipeE, Bool.true_or, Bool.false_or, Bool.or_true, Bool.or_false, Bool.true_and, Bool.false_and, Bool.and_true, Bool.and_false, Bool.not_true, Bool.not_false, decide_true, decide_false, orB_t, orB_f, andB_t, andB_f, m0, y_expX]
theorem d_is_way_many {b : Nat} {r : Rat} {l : List D} {s g p : D} (hr : Sz b r) (hb : b + 1 ≤ 9000) (h : 0 < r) (hl : 40 < l.length) : d_is_way [.list l, enc r, s, g, p] = .exn 3 := by
  have m0 := d_need_walls_many (l := l) hr hb h hl
  unfold d_is_way b_is_way
  simp -implicitDefEqProofs only [x_var, x_int, x_str, x_bl, x_non, x_glob, x_tup, x_lst, x_bin, x_neg, x_cmp, x_chain, x_isN, x_notN, x_and, x_or, x_not, x_ite, x_ix, x_call, x_bi, x_isi, x_comp, x_enil, x_econs, x_cnil, x_ccons, x_iseq, x_irange, x_ienum, x_izip, x_irev, x_lzip, x_slc, x_onil, x_ocons, x_rev, y_sl, y_bin, y_cmp, y_cons, y_neg, y_isN, y_notN, y_and, y_or, y_andB, y_orB, y_not, y_iteT, y_iteF, y_ix, y_call0, y_call1, y_call2, y_call3, y_call4, y_call5, y_bi, y_isi, y_chain, y_chainT, y_chainF, y_tup0, y_tup1, y_tup2, y_tup3, y_tup4, y_lst0, y_lst1, y_lst2, y_lst3, y_lst4, y_lst5, y_lst6, y_lst7, y_seqT, y_seqL, y_enum, y_zip, y_zipT, y_lzip, y_rev, y_opt, y_slc, y_revL, z_comp0, z_comp1, z_comp2, z_comp3, z_lstC, z_compN, z_compC, z_stepA, z_stepCT, z_stepCF, z_stepE, x_snil, x_scons, x_asg, x_par, x_if, x_for, x_ret, x_raise, x_exp, x_brk, x_cont, x_pass, x_while, x_def, y_seqN, y_seqR, y_seqX, y_seqB, y_seqC, y_asg, y_asgX, y_asgO, y_ifT, y_ifF, y_for, y_ret, y_retX, y_exp, y_endR, y_endN, y_endX, z_forN, z_forC, z_forS, z_forBn, z_forBc, z_forBb, z_forBr, z_forBx, binD_add, binD_sub, cmpD_lt, cmpD_le, cmpD_gt, cmpD_ge, ix_t0, ix_t1, ix_t2, ix_l0, ix_l1, Rs.ofO_some, List.map, List.length_cons, List.length_nil, List.replicate, List.cons_append, List.nil_append, List.getElem?_cons_zero, List.getElem?_cons_succ, List.set_cons_zero, List.set_cons_succ, Nat.reduceAdd, Nat.reduceSub, Nat.reduceLT, t_name, t_tup, t_nil, t_cons, t_asgC, t_Lname, t_LtupT, t_LtupL, if_true, Nat.zero_lt_succ, Nat.lt_add_left_iff_pos, wipeE, Bool.true_or, Bool.false_or, Bool.or_true, Bool.or_false, Bool.true_and, Bool.false_and, Bool.and_true, Bool.and_false, Bool.not_true, Bool.not_false, decide_true, decide_false, orB_t, orB_f, andB_t, andB_f, m0, y_expX]
end Mn
/-! the law's own ways -/
namespace Mn
open PySem PySem.Spec PyProof.Rows L2
/-- a loop that goes on while a test holds, and leaves with d at the first that fails -/
theorem forRun_all {α : Type} {as : D → En → Option En} {b : En → Fl} (I : En → Prop) {f : α → D} {t : α → Bool} {d : D} : ∀ (l : List α) (ρ : En),
    (∀ x ∈ l, ∀ ρ, I ρ → ∃ ρ1, as (f x) ρ = some ρ1 ∧ ((t x = true ∧ ∃ ρ2, (b ρ1 = .next ρ2 ∨ b ρ1 = .cont ρ2) ∧ I ρ2) ∨ (t x = false ∧ b ρ1 = .ret d))) → I ρ →
    (l.all t = true ∧ ∃ ρ', forRun as b (l.map f) ρ = .next ρ' ∧ I ρ') ∨ (l.all t = false ∧ forRun as b (l.map f) ρ = .ret d)
  | [], ρ, _, h => .inl ⟨rfl, ρ, rfl, h⟩
  | x :: l, ρ, h, hI => by
    obtain ⟨ρ1, h1, h2⟩ := h x List.mem_cons_self ρ hI
    rcases h2 with ⟨ht, ρ2, h3, h4⟩ | ⟨ht, h3⟩
    · have ih := forRun_all I l ρ2 (fun y hy => h y (List.mem_cons_of_mem _ hy)) h4
      rw [List.all_cons, ht, Bool.true_and, List.map_cons]
      have e : forRun as b (f x :: l.map f) ρ = forRun as b (l.map f) ρ2 := by
        rcases h3 with h3 | h3
        · exact forRun_next h1 h3
        · exact forRun_cont h1 h3
      rw [e]
      exact ih
    · refine .inr ⟨by rw [List.all_cons, ht, Bool.false_and], ?_⟩
      rw [List.map_cons, forRun, h1]
      simp only
      rw [h3]
def lwB : S := loopOf (nthS 1 b__law_is_way)
noncomputable def Γw : G := ⟨[(2, d__law_less), (2, d__law_to_fence), (2, d__law_apart)], []⟩
def okF (r : Rat) (ps : List Pt) (w : Wl) : Bool := !(ps.any fun p => decide (toF w p < r)) && !((pcs ps).any fun v => decide (apartR w v < r))
def lawWayR (ws : List Wl) (r : Rat) (s g : Pt) : List Pt → Bool
  | [] => false
  | p :: ps => decide (p = s) && decide (lastP p ps = g) && ws.all (okF r (p :: ps))
theorem lw_turn {a b : Nat} {r : Rat} {s g : D} {ps : List Pt} {W : D} {w : Wl} (hw : SzW a w) (hp : ∀ p ∈ ps, SzP a p) (hr : Sz b r) (h : 16 * (23 * a + 12) + 10 + b ≤ 9000) (hpl : ps.length ≤ 900) (s5 : Sl) :
    (okF r ps w = true ∧ ex Γw lwB [.dt W, .dt (enc r), .dt s, .dt g, .dt (encPs ps), .dt (encW w), .un, .un] = .next [.dt W, .dt (enc r), .dt s, .dt g, .dt (encPs ps), .dt (encW w), .un, .un]) ∨ (okF r ps w = false ∧ ex Γw lwB [.dt W, .dt (enc r), .dt s, .dt g, .dt (encPs ps), .dt (encW w), .un, .un] = .ret (.bool false)) := by
  have c1 : compR Γw [6] (.name 6) .nil (.call 0 (.cons (.call 1 (.cons (.var 5) (.cons (.var 6) .nil))) (.cons (.var 1) .nil))) [.dt W, .dt (enc r), .dt s, .dt g, .dt (encPs ps), .dt (encW w), .un, .un] (.ok (ps.map encP)) = .ok (.list ((ps.map fun p => decide (toF w p < r)).map PyData.bool)) := by
    refine y_comp (by rw [List.length_map]; unfold lim; omega) ?_
    rw [List.map_map]
    refine compRun_map _ fun p hp2 => ⟨[.dt W, .dt (enc r), .dt s, .dt g, .dt (encPs ps), .dt (encW w), .dt (encP p), .un], ?_, x_cnil, ?_⟩
    · simp -implicitDefEqProofs only [x_var, x_int, x_str, x_bl, x_non, x_glob, x_tup, x_lst, x_bin, x_neg, x_cmp, x_chain, x_isN, x_notN, x_and, x_or, x_not, x_ite, x_ix, x_call, x_bi, x_isi, x_comp, x_enil, x_econs, x_cnil, x_ccons, x_iseq, x_irange, x_ienum, x_izip, x_irev, x_lzip, x_slc, x_onil, x_ocons, x_rev, y_sl, y_bin, y_cmp, y_cons, y_neg, y_isN, y_notN, y_and, y_or, y_andB, y_orB, y_not, y_iteT, y_iteF, y_ix, y_call0, y_call1, y_call2, y_call3, y_call4, y_call5, y_bi, y_isi, y_chain, y_chainT, y_chainF, y_tup0, y_tup1, y_tup2, y_tup3, y_tup4, y_lst0, y_lst1, y_lst2, y_lst3, y_lst4, y_lst5, y_lst6, y_lst7, y_seqT, y_seqL, y_enum, y_zip, y_zipT, y_lzip, y_rev, y_opt, y_slc, y_revL, z_comp0, z_comp1, z_comp2, z_comp3, z_lstC, z_compN, z_compC, z_stepA, z_stepCT, z_stepCF, z_stepE, x_snil, x_scons, x_asg, x_par, x_if, x_for, x_ret, x_raise, x_exp, x_brk, x_cont, x_pass, x_while, x_def, y_seqN, y_seqR, y_seqX, y_seqB, y_seqC, y_asg, y_asgX, y_asgO, y_ifT, y_ifF, y_for, y_ret, y_retX, y_exp, y_endR, y_endN, y_endX, z_forN, z_forC, z_forS, z_forBn, z_forBc, z_forBb, z_forBr, z_forBx, binD_add, binD_sub, cmpD_lt, cmpD_le, cmpD_gt, cmpD_ge, ix_t0, ix_t1, ix_t2, ix_l0, ix_l1, Rs.ofO_some, List.map, List.length_cons, List.length_nil, List.replicate, List.cons_append, List.nil_append, List.getElem?_cons_zero, List.getElem?_cons_succ, List.set_cons_zero, List.set_cons_succ, Nat.reduceAdd, Nat.reduceSub, Nat.reduceLT, t_name, t_tup, t_nil, t_cons, t_asgC, t_Lname, t_LtupT, t_LtupL, if_true, Nat.zero_lt_succ, Nat.lt_add_left_iff_pos, wipeE, Bool.true_or, Bool.false_or, Bool.or_true, Bool.or_false, Bool.true_and, Bool.false_and, Bool.and_true, Bool.and_false, Bool.not_true, Bool.not_false, decide_true, decide_false, orB_t, orB_f, andB_t, andB_f]
    · have m1 := d__law_to_fence_eq hw (hp p hp2) (by omega)
      have m2 := d__law_less_eq (toF_sz hw (hp p hp2)) hr (by omega)
      simp -implicitDefEqProofs only [Γw, x_var, x_int, x_str, x_bl, x_non, x_glob, x_tup, x_lst, x_bin, x_neg, x_cmp, x_chain, x_isN, x_notN, x_and, x_or, x_not, x_ite, x_ix, x_call, x_bi, x_isi, x_comp, x_enil, x_econs, x_cnil, x_ccons, x_iseq, x_irange, x_ienum, x_izip, x_irev, x_lzip, x_slc, x_onil, x_ocons, x_rev, y_sl, y_bin, y_cmp, y_cons, y_neg, y_isN, y_notN, y_and, y_or, y_andB, y_orB, y_not, y_iteT, y_iteF, y_ix, y_call0, y_call1, y_call2, y_call3, y_call4, y_call5, y_bi, y_isi, y_chain, y_chainT, y_chainF, y_tup0, y_tup1, y_tup2, y_tup3, y_tup4, y_lst0, y_lst1, y_lst2, y_lst3, y_lst4, y_lst5, y_lst6, y_lst7, y_seqT, y_seqL, y_enum, y_zip, y_zipT, y_lzip, y_rev, y_opt, y_slc, y_revL, z_comp0, z_comp1, z_comp2, z_comp3, z_lstC, z_compN, z_compC, z_stepA, z_stepCT, z_stepCF, z_stepE, x_snil, x_scons, x_asg, x_par, x_if, x_for, x_ret, x_raise, x_exp, x_brk, x_cont, x_pass, x_while, x_def, y_seqN, y_seqR, y_seqX, y_seqB, y_seqC, y_asg, y_asgX, y_asgO, y_ifT, y_ifF, y_for, y_ret, y_retX, y_exp, y_endR, y_endN, y_endX, z_forN, z_forC, z_forS, z_forBn, z_forBc, z_forBb, z_forBr, z_forBx, binD_add, binD_sub, cmpD_lt, cmpD_le, cmpD_gt, cmpD_ge, ix_t0, ix_t1, ix_t2, ix_l0, ix_l1, Rs.ofO_some, List.map, List.length_cons, List.length_nil, List.replicate, List.cons_append, List.nil_append, List.getElem?_cons_zero, List.getElem?_cons_succ, List.set_cons_zero, List.set_cons_succ, Nat.reduceAdd, Nat.reduceSub, Nat.reduceLT, t_name, t_tup, t_nil, t_cons, t_asgC, t_Lname, t_LtupT, t_LtupL, if_true, Nat.zero_lt_succ, Nat.lt_add_left_iff_pos, wipeE, Bool.true_or, Bool.false_or, Bool.or_true, Bool.or_false, Bool.true_and, Bool.false_and, Bool.and_true, Bool.and_false, Bool.not_true, Bool.not_false, decide_true, decide_false, orB_t, orB_f, andB_t, andB_f, m1, m2]
      rfl
  have c2 : compR Γw [7] (.name 7) .nil (.call 0 (.cons (.call 2 (.cons (.var 5) (.cons (.var 7) .nil))) (.cons (.var 1) .nil))) [.dt W, .dt (enc r), .dt s, .dt g, .dt (encPs ps), .dt (encW w), .un, .un] (.ok ((pcs ps).map encW)) = .ok (.list (((pcs ps).map fun v => decide (apartR w v < r)).map PyData.bool)) := by
    have lp := pcs_len ps
    refine y_comp (by rw [List.length_map]; unfold lim; omega) ?_
    rw [List.map_map]
    refine compRun_map _ fun v hv => ⟨[.dt W, .dt (enc r), .dt s, .dt g, .dt (encPs ps), .dt (encW w), .un, .dt (encW v)], ?_, x_cnil, ?_⟩
    · simp -implicitDefEqProofs only [x_var, x_int, x_str, x_bl, x_non, x_glob, x_tup, x_lst, x_bin, x_neg, x_cmp, x_chain, x_isN, x_notN, x_and, x_or, x_not, x_ite, x_ix, x_call, x_bi, x_isi, x_comp, x_enil, x_econs, x_cnil, x_ccons, x_iseq, x_irange, x_ienum, x_izip, x_irev, x_lzip, x_slc, x_onil, x_ocons, x_rev, y_sl, y_bin, y_cmp, y_cons, y_neg, y_isN, y_notN, y_and, y_or, y_andB, y_orB, y_not, y_iteT, y_iteF, y_ix, y_call0, y_call1, y_call2, y_call3, y_call4, y_call5, y_bi, y_isi, y_chain, y_chainT, y_chainF, y_tup0, y_tup1, y_tup2, y_tup3, y_tup4, y_lst0, y_lst1, y_lst2, y_lst3, y_lst4, y_lst5, y_lst6, y_lst7, y_seqT, y_seqL, y_enum, y_zip, y_zipT, y_lzip, y_rev, y_opt, y_slc, y_revL, z_comp0, z_comp1, z_comp2, z_comp3, z_lstC, z_compN, z_compC, z_stepA, z_stepCT, z_stepCF, z_stepE, x_snil, x_scons, x_asg, x_par, x_if, x_for, x_ret, x_raise, x_exp, x_brk, x_cont, x_pass, x_while, x_def, y_seqN, y_seqR, y_seqX, y_seqB, y_seqC, y_asg, y_asgX, y_asgO, y_ifT, y_ifF, y_for, y_ret, y_retX, y_exp, y_endR, y_endN, y_endX, z_forN, z_forC, z_forS, z_forBn, z_forBc, z_forBb, z_forBr, z_forBx, binD_add, binD_sub, cmpD_lt, cmpD_le, cmpD_gt, cmpD_ge, ix_t0, ix_t1, ix_t2, ix_l0, ix_l1, Rs.ofO_some, List.map, List.length_cons, List.length_nil, List.replicate, List.cons_append, List.nil_append, List.getElem?_cons_zero, List.getElem?_cons_succ, List.set_cons_zero, List.set_cons_succ, Nat.reduceAdd, Nat.reduceSub, Nat.reduceLT, t_name, t_tup, t_nil, t_cons, t_asgC, t_Lname, t_LtupT, t_LtupL, if_true, Nat.zero_lt_succ, Nat.lt_add_left_iff_pos, wipeE, Bool.true_or, Bool.false_or, Bool.or_true, Bool.or_false, Bool.true_and, Bool.false_and, Bool.and_true, Bool.and_false, Bool.not_true, Bool.not_false, decide_true, decide_false, orB_t, orB_f, andB_t, andB_f]
    · have m1 := d__law_apart_eq hw (pcs_sz hp v hv) (by omega)
      have m2 := d__law_less_eq (apart_sz hw (pcs_sz hp v hv)) hr (by omega)
      simp -implicitDefEqProofs only [Γw, x_var, x_int, x_str, x_bl, x_non, x_glob, x_tup, x_lst, x_bin, x_neg, x_cmp, x_chain, x_isN, x_notN, x_and, x_or, x_not, x_ite, x_ix, x_call, x_bi, x_isi, x_comp, x_enil, x_econs, x_cnil, x_ccons, x_iseq, x_irange, x_ienum, x_izip, x_irev, x_lzip, x_slc, x_onil, x_ocons, x_rev, y_sl, y_bin, y_cmp, y_cons, y_neg, y_isN, y_notN, y_and, y_or, y_andB, y_orB, y_not, y_iteT, y_iteF, y_ix, y_call0, y_call1, y_call2, y_call3, y_call4, y_call5, y_bi, y_isi, y_chain, y_chainT, y_chainF, y_tup0, y_tup1, y_tup2, y_tup3, y_tup4, y_lst0, y_lst1, y_lst2, y_lst3, y_lst4, y_lst5, y_lst6, y_lst7, y_seqT, y_seqL, y_enum, y_zip, y_zipT, y_lzip, y_rev, y_opt, y_slc, y_revL, z_comp0, z_comp1, z_comp2, z_comp3, z_lstC, z_compN, z_compC, z_stepA, z_stepCT, z_stepCF, z_stepE, x_snil, x_scons, x_asg, x_par, x_if, x_for, x_ret, x_raise, x_exp, x_brk, x_cont, x_pass, x_while, x_def, y_seqN, y_seqR, y_seqX, y_seqB, y_seqC, y_asg, y_asgX, y_asgO, y_ifT, y_ifF, y_for, y_ret, y_retX, y_exp, y_endR, y_endN, y_endX, z_forN, z_forC, z_forS, z_forBn, z_forBc, z_forBb, z_forBr, z_forBx, binD_add, binD_sub, cmpD_lt, cmpD_le, cmpD_gt, cmpD_ge, ix_t0, ix_t1, ix_t2, ix_l0, ix_l1, Rs.ofO_some, List.map, List.length_cons, List.length_nil, List.replicate, List.cons_append, List.nil_append, List.getElem?_cons_zero, List.getElem?_cons_succ, List.set_cons_zero, List.set_cons_succ, Nat.reduceAdd, Nat.reduceSub, Nat.reduceLT, t_name, t_tup, t_nil, t_cons, t_asgC, t_Lname, t_LtupT, t_LtupL, if_true, Nat.zero_lt_succ, Nat.lt_add_left_iff_pos, wipeE, Bool.true_or, Bool.false_or, Bool.or_true, Bool.or_false, Bool.true_and, Bool.false_and, Bool.and_true, Bool.and_false, Bool.not_true, Bool.not_false, decide_true, decide_false, orB_t, orB_f, andB_t, andB_f, m1, m2]
      rfl
  have k2 : iseqR (.ok (encPs ps)) = .ok (ps.map encP) := rfl
  have any1 : ((ps.map fun p => decide (toF w p < r)).any id) = ps.any fun p => decide (toF w p < r) := by rw [List.any_map]; rfl
  have any2 : (((pcs ps).map fun v => decide (apartR w v < r)).any id) = (pcs ps).any fun v => decide (apartR w v < r) := by rw [List.any_map]; rfl
  simp only [Γw] at c1 c2
  unfold okF
  cases t1 : ps.any fun p => decide (toF w p < r) with
  | true =>
    refine .inr ⟨rfl, ?_⟩
    simp -implicitDefEqProofs only [Γw, lwB, loopOf, nthS, b__law_is_way, x_var, x_int, x_str, x_bl, x_non, x_glob, x_tup, x_lst, x_bin, x_neg, x_cmp, x_chain, x_isN, x_notN, x_and, x_or, x_not, x_ite, x_ix, x_call, x_bi, x_isi, x_comp, x_enil, x_econs, x_cnil, x_ccons, x_iseq, x_irange, x_ienum, x_izip, x_irev, x_lzip, x_slc, x_onil, x_ocons, x_rev, y_sl, y_bin, y_cmp, y_cons, y_neg, y_isN, y_notN, y_and, y_or, y_andB, y_orB, y_not, y_iteT, y_iteF, y_ix, y_call0, y_call1, y_call2, y_call3, y_call4, y_call5, y_bi, y_isi, y_chain, y_chainT, y_chainF, y_tup0, y_tup1, y_tup2, y_tup3, y_tup4, y_lst0, y_lst1, y_lst2, y_lst3, y_lst4, y_lst5, y_lst6, y_lst7, y_seqT, y_seqL, y_enum, y_zip, y_zipT, y_lzip, y_rev, y_opt, y_slc, y_revL, z_comp0, z_comp1, z_comp2, z_comp3, z_lstC, z_compN, z_compC, z_stepA, z_stepCT, z_stepCF, z_stepE, x_snil, x_scons, x_asg, x_par, x_if, x_for, x_ret, x_raise, x_exp, x_brk, x_cont, x_pass, x_while, x_def, y_seqN, y_seqR, y_seqX, y_seqB, y_seqC, y_asg, y_asgX, y_asgO, y_ifT, y_ifF, y_for, y_ret, y_retX, y_exp, y_endR, y_endN, y_endX, z_forN, z_forC, z_forS, z_forBn, z_forBc, z_forBb, z_forBr, z_forBx, binD_add, binD_sub, cmpD_lt, cmpD_le, cmpD_gt, cmpD_ge, ix_t0, ix_t1, ix_t2, ix_l0, ix_l1, Rs.ofO_some, List.map, List.length_cons, List.length_nil, List.replicate, List.cons_append, List.nil_append, List.getElem?_cons_zero, List.getElem?_cons_succ, List.set_cons_zero, List.set_cons_succ, Nat.reduceAdd, Nat.reduceSub, Nat.reduceLT, t_name, t_tup, t_nil, t_cons, t_asgC, t_Lname, t_LtupT, t_LtupL, if_true, Nat.zero_lt_succ, Nat.lt_add_left_iff_pos, wipeE, Bool.true_or, Bool.false_or, Bool.or_true, Bool.or_false, Bool.true_and, Bool.false_and, Bool.and_true, Bool.and_false, Bool.not_true, Bool.not_false, decide_true, decide_false, orB_t, orB_f, andB_t, andB_f, k2, c1, any_L, any1, t1]
  | false =>
    cases t2 : (pcs ps).any fun v => decide (apartR w v < r) with
    | true =>
      refine .inr ⟨rfl, ?_⟩
      simp -implicitDefEqProofs only [Γw, lwB, loopOf, nthS, b__law_is_way, x_var, x_int, x_str, x_bl, x_non, x_glob, x_tup, x_lst, x_bin, x_neg, x_cmp, x_chain, x_isN, x_notN, x_and, x_or, x_not, x_ite, x_ix, x_call, x_bi, x_isi, x_comp, x_enil, x_econs, x_cnil, x_ccons, x_iseq, x_irange, x_ienum, x_izip, x_irev, x_lzip, x_slc, x_onil, x_ocons, x_rev, y_sl, y_bin, y_cmp, y_cons, y_neg, y_isN, y_notN, y_and, y_or, y_andB, y_orB, y_not, y_iteT, y_iteF, y_ix, y_call0, y_call1, y_call2, y_call3, y_call4, y_call5, y_bi, y_isi, y_chain, y_chainT, y_chainF, y_tup0, y_tup1, y_tup2, y_tup3, y_tup4, y_lst0, y_lst1, y_lst2, y_lst3, y_lst4, y_lst5, y_lst6, y_lst7, y_seqT, y_seqL, y_enum, y_zip, y_zipT, y_lzip, y_rev, y_opt, y_slc, y_revL, z_comp0, z_comp1, z_comp2, z_comp3, z_lstC, z_compN, z_compC, z_stepA, z_stepCT, z_stepCF, z_stepE, x_snil, x_scons, x_asg, x_par, x_if, x_for, x_ret, x_raise, x_exp, x_brk, x_cont, x_pass, x_while, x_def, y_seqN, y_seqR, y_seqX, y_seqB, y_seqC, y_asg, y_asgX, y_asgO, y_ifT, y_ifF, y_for, y_ret, y_retX, y_exp, y_endR, y_endN, y_endX, z_forN, z_forC, z_forS, z_forBn, z_forBc, z_forBb, z_forBr, z_forBx, binD_add, binD_sub, cmpD_lt, cmpD_le, cmpD_gt, cmpD_ge, ix_t0, ix_t1, ix_t2, ix_l0, ix_l1, Rs.ofO_some, List.map, List.length_cons, List.length_nil, List.replicate, List.cons_append, List.nil_append, List.getElem?_cons_zero, List.getElem?_cons_succ, List.set_cons_zero, List.set_cons_succ, Nat.reduceAdd, Nat.reduceSub, Nat.reduceLT, t_name, t_tup, t_nil, t_cons, t_asgC, t_Lname, t_LtupT, t_LtupL, if_true, Nat.zero_lt_succ, Nat.lt_add_left_iff_pos, wipeE, Bool.true_or, Bool.false_or, Bool.or_true, Bool.or_false, Bool.true_and, Bool.false_and, Bool.and_true, Bool.and_false, Bool.not_true, Bool.not_false, decide_true, decide_false, orB_t, orB_f, andB_t, andB_f, k2, c1, any_L, any1, t1, sl_1, zip_ps, c2, any2, t2]
    | false =>
      refine .inl ⟨rfl, ?_⟩
      simp -implicitDefEqProofs only [Γw, lwB, loopOf, nthS, b__law_is_way, x_var, x_int, x_str, x_bl, x_non, x_glob, x_tup, x_lst, x_bin, x_neg, x_cmp, x_chain, x_isN, x_notN, x_and, x_or, x_not, x_ite, x_ix, x_call, x_bi, x_isi, x_comp, x_enil, x_econs, x_cnil, x_ccons, x_iseq, x_irange, x_ienum, x_izip, x_irev, x_lzip, x_slc, x_onil, x_ocons, x_rev, y_sl, y_bin, y_cmp, y_cons, y_neg, y_isN, y_notN, y_and, y_or, y_andB, y_orB, y_not, y_iteT, y_iteF, y_ix, y_call0, y_call1, y_call2, y_call3, y_call4, y_call5, y_bi, y_isi, y_chain, y_chainT, y_chainF, y_tup0, y_tup1, y_tup2, y_tup3, y_tup4, y_lst0, y_lst1, y_lst2, y_lst3, y_lst4, y_lst5, y_lst6, y_lst7, y_seqT, y_seqL, y_enum, y_zip, y_zipT, y_lzip, y_rev, y_opt, y_slc, y_revL, z_comp0, z_comp1, z_comp2, z_comp3, z_lstC, z_compN, z_compC, z_stepA, z_stepCT, z_stepCF, z_stepE, x_snil, x_scons, x_asg, x_par, x_if, x_for, x_ret, x_raise, x_exp, x_brk, x_cont, x_pass, x_while, x_def, y_seqN, y_seqR, y_seqX, y_seqB, y_seqC, y_asg, y_asgX, y_asgO, y_ifT, y_ifF, y_for, y_ret, y_retX, y_exp, y_endR, y_endN, y_endX, z_forN, z_forC, z_forS, z_forBn, z_forBc, z_forBb, z_forBr, z_forBx, binD_add, binD_sub, cmpD_lt, cmpD_le, cmpD_gt, cmpD_ge, ix_t0, ix_t1, ix_t2, ix_l0, ix_l1, Rs.ofO_some, List.map, List.length_cons, List.length_nil, List.replicate, List.cons_append, List.nil_append, List.getElem?_cons_zero, List.getElem?_cons_succ, List.set_cons_zero, List.set_cons_succ, Nat.reduceAdd, Nat.reduceSub, Nat.reduceLT, t_name, t_tup, t_nil, t_cons, t_asgC, t_Lname, t_LtupT, t_LtupL, if_true, Nat.zero_lt_succ, Nat.lt_add_left_iff_pos, wipeE, Bool.true_or, Bool.false_or, Bool.or_true, Bool.or_false, Bool.true_and, Bool.false_and, Bool.and_true, Bool.and_false, Bool.not_true, Bool.not_false, decide_true, decide_false, orB_t, orB_f, andB_t, andB_f, k2, c1, any_L, any1, t1, sl_1, zip_ps, c2, any2, t2]
theorem d__law_is_way_eq {a b : Nat} {r : Rat} {s g : Pt} {ps : List Pt} {ws : List Wl} (hw : ∀ w ∈ ws, SzW a w) (hp : ∀ p ∈ ps, SzP a p) (hr : Sz b r) (h : 16 * (23 * a + 12) + 10 + b ≤ 9000) (hpl : ps.length ≤ 900) :
    d__law_is_way [encWs ws, enc r, encP s, encP g, encPs ps] = .ok (.bool (lawWayR ws r s g ps)) := by
  have e : b__law_is_way = .cons (nthS 0 b__law_is_way) (.cons (.for_ (.name 5) (.iseq (.var 0)) lwB) (.cons (.ret (.bl true)) .nil)) := rfl
  show runDef Γw 8 b__law_is_way _ = _
  rw [x_def, e]
  cases ps with
  | nil =>
    simp -implicitDefEqProofs only [Γw, nthS, b__law_is_way, x_var, x_int, x_str, x_bl, x_non, x_glob, x_tup, x_lst, x_bin, x_neg, x_cmp, x_chain, x_isN, x_notN, x_and, x_or, x_not, x_ite, x_ix, x_call, x_bi, x_isi, x_comp, x_enil, x_econs, x_cnil, x_ccons, x_iseq, x_irange, x_ienum, x_izip, x_irev, x_lzip, x_slc, x_onil, x_ocons, x_rev, y_sl, y_bin, y_cmp, y_cons, y_neg, y_isN, y_notN, y_and, y_or, y_andB, y_orB, y_not, y_iteT, y_iteF, y_ix, y_call0, y_call1, y_call2, y_call3, y_call4, y_call5, y_bi, y_isi, y_chain, y_chainT, y_chainF, y_tup0, y_tup1, y_tup2, y_tup3, y_tup4, y_lst0, y_lst1, y_lst2, y_lst3, y_lst4, y_lst5, y_lst6, y_lst7, y_seqT, y_seqL, y_enum, y_zip, y_zipT, y_lzip, y_rev, y_opt, y_slc, y_revL, z_comp0, z_comp1, z_comp2, z_comp3, z_lstC, z_compN, z_compC, z_stepA, z_stepCT, z_stepCF, z_stepE, x_snil, x_scons, x_asg, x_par, x_if, x_for, x_ret, x_raise, x_exp, x_brk, x_cont, x_pass, x_while, x_def, y_seqN, y_seqR, y_seqX, y_seqB, y_seqC, y_asg, y_asgX, y_asgO, y_ifT, y_ifF, y_for, y_ret, y_retX, y_exp, y_endR, y_endN, y_endX, binD_add, binD_sub, cmpD_lt, cmpD_le, cmpD_gt, cmpD_ge, ix_t0, ix_t1, ix_t2, ix_l0, ix_l1, Rs.ofO_some, List.map, List.length_cons, List.length_nil, List.replicate, List.cons_append, List.nil_append, List.getElem?_cons_zero, List.getElem?_cons_succ, List.set_cons_zero, List.set_cons_succ, Nat.reduceAdd, Nat.reduceSub, Nat.reduceLT, t_name, t_tup, t_nil, t_cons, t_asgC, t_Lname, t_LtupT, t_LtupL, if_true, Nat.zero_lt_succ, Nat.lt_add_left_iff_pos, wipeE, Bool.true_or, Bool.false_or, Bool.or_true, Bool.or_false, Bool.true_and, Bool.false_and, Bool.and_true, Bool.and_false, Bool.not_true, Bool.not_false, decide_true, decide_false, orB_t, orB_f, andB_t, andB_f, eq_ps0, lawWayR]
  | cons p t =>
    have n1 : (decide (p :: t = [])) = false := by simp
    by_cases e1 : p = s
    · subst e1
      by_cases e2 : lastP p t = g
      · have e2' : decide ((p :: t).getLast (by simp) = g) = true := by rw [decide_eq_true_iff]; exact e2
        have k2 : iseqR (.ok (encWs ws)) = .ok (ws.map encW) := rfl
        have F := forRun_all (as := asgT (.name 5)) (b := ex Γw lwB) (fun ρ => ∃ s5, ρ = [.dt (encWs ws), .dt (enc r), .dt (encP p), .dt (encP g), .dt (encPs (p :: t)), s5, .un, .un]) (f := encW) (t := okF r (p :: t)) (d := .bool false) ws [.dt (encWs ws), .dt (enc r), .dt (encP p), .dt (encP g), .dt (encPs (p :: t)), .un, .un, .un]
          (fun w hw2 ρ hI => by
            obtain ⟨s5, rfl⟩ := hI
            refine ⟨[.dt (encWs ws), .dt (enc r), .dt (encP p), .dt (encP g), .dt (encPs (p :: t)), .dt (encW w), .un, .un], rfl, ?_⟩
            rcases lw_turn (hw w hw2) hp hr h hpl s5 with ⟨h1, h2⟩ | ⟨h1, h2⟩
            · exact .inl ⟨h1, _, .inl h2, _, rfl⟩
            · exact .inr ⟨h1, h2⟩) ⟨_, rfl⟩
        generalize lwB = bd at *
        simp -implicitDefEqProofs only [Γw, nthS, b__law_is_way, x_var, x_int, x_str, x_bl, x_non, x_glob, x_tup, x_lst, x_bin, x_neg, x_cmp, x_chain, x_isN, x_notN, x_and, x_or, x_not, x_ite, x_ix, x_call, x_bi, x_isi, x_comp, x_enil, x_econs, x_cnil, x_ccons, x_iseq, x_irange, x_ienum, x_izip, x_irev, x_lzip, x_slc, x_onil, x_ocons, x_rev, y_sl, y_bin, y_cmp, y_cons, y_neg, y_isN, y_notN, y_and, y_or, y_andB, y_orB, y_not, y_iteT, y_iteF, y_ix, y_call0, y_call1, y_call2, y_call3, y_call4, y_call5, y_bi, y_isi, y_chain, y_chainT, y_chainF, y_tup0, y_tup1, y_tup2, y_tup3, y_tup4, y_lst0, y_lst1, y_lst2, y_lst3, y_lst4, y_lst5, y_lst6, y_lst7, y_seqT, y_seqL, y_enum, y_zip, y_zipT, y_lzip, y_rev, y_opt, y_slc, y_revL, z_comp0, z_comp1, z_comp2, z_comp3, z_lstC, z_compN, z_compC, z_stepA, z_stepCT, z_stepCF, z_stepE, x_snil, x_scons, x_asg, x_par, x_if, x_for, x_ret, x_raise, x_exp, x_brk, x_cont, x_pass, x_while, x_def, y_seqN, y_seqR, y_seqX, y_seqB, y_seqC, y_asg, y_asgX, y_asgO, y_ifT, y_ifF, y_for, y_ret, y_retX, y_exp, y_endR, y_endN, y_endX, binD_add, binD_sub, cmpD_lt, cmpD_le, cmpD_gt, cmpD_ge, ix_t0, ix_t1, ix_t2, ix_l0, ix_l1, Rs.ofO_some, List.map, List.length_cons, List.length_nil, List.replicate, List.cons_append, List.nil_append, List.getElem?_cons_zero, List.getElem?_cons_succ, List.set_cons_zero, List.set_cons_succ, Nat.reduceAdd, Nat.reduceSub, Nat.reduceLT, t_name, t_tup, t_nil, t_cons, t_asgC, t_Lname, t_LtupT, t_LtupL, if_true, Nat.zero_lt_succ, Nat.lt_add_left_iff_pos, wipeE, Bool.true_or, Bool.false_or, Bool.or_true, Bool.or_false, Bool.true_and, Bool.false_and, Bool.and_true, Bool.and_false, Bool.not_true, Bool.not_false, decide_true, decide_false, orB_t, orB_f, andB_t, andB_f, eq_ps0, n1, ps_first, ps_last, neg1, ne_p, e2', k2] at F ⊢
        rcases F with ⟨h1, ρ', h2, _⟩ | ⟨h1, h2⟩
        · rw [h2]
          simp -implicitDefEqProofs only [x_var, x_int, x_str, x_bl, x_non, x_glob, x_tup, x_lst, x_bin, x_neg, x_cmp, x_chain, x_isN, x_notN, x_and, x_or, x_not, x_ite, x_ix, x_call, x_bi, x_isi, x_comp, x_enil, x_econs, x_cnil, x_ccons, x_iseq, x_irange, x_ienum, x_izip, x_irev, x_lzip, x_slc, x_onil, x_ocons, x_rev, y_sl, y_bin, y_cmp, y_cons, y_neg, y_isN, y_notN, y_and, y_or, y_andB, y_orB, y_not, y_iteT, y_iteF, y_ix, y_call0, y_call1, y_call2, y_call3, y_call4, y_call5, y_bi, y_isi, y_chain, y_chainT, y_chainF, y_tup0, y_tup1, y_tup2, y_tup3, y_tup4, y_lst0, y_lst1, y_lst2, y_lst3, y_lst4, y_lst5, y_lst6, y_lst7, y_seqT, y_seqL, y_enum, y_zip, y_zipT, y_lzip, y_rev, y_opt, y_slc, y_revL, z_comp0, z_comp1, z_comp2, z_comp3, z_lstC, z_compN, z_compC, z_stepA, z_stepCT, z_stepCF, z_stepE, x_snil, x_scons, x_asg, x_par, x_if, x_for, x_ret, x_raise, x_exp, x_brk, x_cont, x_pass, x_while, x_def, y_seqN, y_seqR, y_seqX, y_seqB, y_seqC, y_asg, y_asgX, y_asgO, y_ifT, y_ifF, y_for, y_ret, y_retX, y_exp, y_endR, y_endN, y_endX, binD_add, binD_sub, cmpD_lt, cmpD_le, cmpD_gt, cmpD_ge, ix_t0, ix_t1, ix_t2, ix_l0, ix_l1, Rs.ofO_some, List.map, List.length_cons, List.length_nil, List.replicate, List.cons_append, List.nil_append, List.getElem?_cons_zero, List.getElem?_cons_succ, List.set_cons_zero, List.set_cons_succ, Nat.reduceAdd, Nat.reduceSub, Nat.reduceLT, t_name, t_tup, t_nil, t_cons, t_asgC, t_Lname, t_LtupT, t_LtupL, if_true, Nat.zero_lt_succ, Nat.lt_add_left_iff_pos, wipeE, Bool.true_or, Bool.false_or, Bool.or_true, Bool.or_false, Bool.true_and, Bool.false_and, Bool.and_true, Bool.and_false, Bool.not_true, Bool.not_false, decide_true, decide_false, orB_t, orB_f, andB_t, andB_f, lawWayR, e2, h1]
        · rw [h2]
          simp -implicitDefEqProofs only [x_var, x_int, x_str, x_bl, x_non, x_glob, x_tup, x_lst, x_bin, x_neg, x_cmp, x_chain, x_isN, x_notN, x_and, x_or, x_not, x_ite, x_ix, x_call, x_bi, x_isi, x_comp, x_enil, x_econs, x_cnil, x_ccons, x_iseq, x_irange, x_ienum, x_izip, x_irev, x_lzip, x_slc, x_onil, x_ocons, x_rev, y_sl, y_bin, y_cmp, y_cons, y_neg, y_isN, y_notN, y_and, y_or, y_andB, y_orB, y_not, y_iteT, y_iteF, y_ix, y_call0, y_call1, y_call2, y_call3, y_call4, y_call5, y_bi, y_isi, y_chain, y_chainT, y_chainF, y_tup0, y_tup1, y_tup2, y_tup3, y_tup4, y_lst0, y_lst1, y_lst2, y_lst3, y_lst4, y_lst5, y_lst6, y_lst7, y_seqT, y_seqL, y_enum, y_zip, y_zipT, y_lzip, y_rev, y_opt, y_slc, y_revL, z_comp0, z_comp1, z_comp2, z_comp3, z_lstC, z_compN, z_compC, z_stepA, z_stepCT, z_stepCF, z_stepE, x_snil, x_scons, x_asg, x_par, x_if, x_for, x_ret, x_raise, x_exp, x_brk, x_cont, x_pass, x_while, x_def, y_seqN, y_seqR, y_seqX, y_seqB, y_seqC, y_asg, y_asgX, y_asgO, y_ifT, y_ifF, y_for, y_ret, y_retX, y_exp, y_endR, y_endN, y_endX, binD_add, binD_sub, cmpD_lt, cmpD_le, cmpD_gt, cmpD_ge, ix_t0, ix_t1, ix_t2, ix_l0, ix_l1, Rs.ofO_some, List.map, List.length_cons, List.length_nil, List.replicate, List.cons_append, List.nil_append, List.getElem?_cons_zero, List.getElem?_cons_succ, List.set_cons_zero, List.set_cons_succ, Nat.reduceAdd, Nat.reduceSub, Nat.reduceLT, t_name, t_tup, t_nil, t_cons, t_asgC, t_Lname, t_LtupT, t_LtupL, if_true, Nat.zero_lt_succ, Nat.lt_add_left_iff_pos, wipeE, Bool.true_or, Bool.false_or, Bool.or_true, Bool.or_false, Bool.true_and, Bool.false_and, Bool.and_true, Bool.and_false, Bool.not_true, Bool.not_false, decide_true, decide_false, orB_t, orB_f, andB_t, andB_f, lawWayR, e2, h1]
      · have e2' : decide ((p :: t).getLast (by simp) = g) = false := by rw [decide_eq_false_iff_not]; exact e2
        generalize lwB = bd at *
        simp -implicitDefEqProofs only [Γw, nthS, b__law_is_way, x_var, x_int, x_str, x_bl, x_non, x_glob, x_tup, x_lst, x_bin, x_neg, x_cmp, x_chain, x_isN, x_notN, x_and, x_or, x_not, x_ite, x_ix, x_call, x_bi, x_isi, x_comp, x_enil, x_econs, x_cnil, x_ccons, x_iseq, x_irange, x_ienum, x_izip, x_irev, x_lzip, x_slc, x_onil, x_ocons, x_rev, y_sl, y_bin, y_cmp, y_cons, y_neg, y_isN, y_notN, y_and, y_or, y_andB, y_orB, y_not, y_iteT, y_iteF, y_ix, y_call0, y_call1, y_call2, y_call3, y_call4, y_call5, y_bi, y_isi, y_chain, y_chainT, y_chainF, y_tup0, y_tup1, y_tup2, y_tup3, y_tup4, y_lst0, y_lst1, y_lst2, y_lst3, y_lst4, y_lst5, y_lst6, y_lst7, y_seqT, y_seqL, y_enum, y_zip, y_zipT, y_lzip, y_rev, y_opt, y_slc, y_revL, z_comp0, z_comp1, z_comp2, z_comp3, z_lstC, z_compN, z_compC, z_stepA, z_stepCT, z_stepCF, z_stepE, x_snil, x_scons, x_asg, x_par, x_if, x_for, x_ret, x_raise, x_exp, x_brk, x_cont, x_pass, x_while, x_def, y_seqN, y_seqR, y_seqX, y_seqB, y_seqC, y_asg, y_asgX, y_asgO, y_ifT, y_ifF, y_for, y_ret, y_retX, y_exp, y_endR, y_endN, y_endX, binD_add, binD_sub, cmpD_lt, cmpD_le, cmpD_gt, cmpD_ge, ix_t0, ix_t1, ix_t2, ix_l0, ix_l1, Rs.ofO_some, List.map, List.length_cons, List.length_nil, List.replicate, List.cons_append, List.nil_append, List.getElem?_cons_zero, List.getElem?_cons_succ, List.set_cons_zero, List.set_cons_succ, Nat.reduceAdd, Nat.reduceSub, Nat.reduceLT, t_name, t_tup, t_nil, t_cons, t_asgC, t_Lname, t_LtupT, t_LtupL, if_true, Nat.zero_lt_succ, Nat.lt_add_left_iff_pos, wipeE, Bool.true_or, Bool.false_or, Bool.or_true, Bool.or_false, Bool.true_and, Bool.false_and, Bool.and_true, Bool.and_false, Bool.not_true, Bool.not_false, decide_true, decide_false, orB_t, orB_f, andB_t, andB_f, eq_ps0, n1, ps_first, ps_last, neg1, ne_p, e2']
        simp [lawWayR, e2]
    · have e1' : decide (p = s) = false := by simp [e1]
      generalize lwB = bd at *
      simp -implicitDefEqProofs only [Γw, nthS, b__law_is_way, x_var, x_int, x_str, x_bl, x_non, x_glob, x_tup, x_lst, x_bin, x_neg, x_cmp, x_chain, x_isN, x_notN, x_and, x_or, x_not, x_ite, x_ix, x_call, x_bi, x_isi, x_comp, x_enil, x_econs, x_cnil, x_ccons, x_iseq, x_irange, x_ienum, x_izip, x_irev, x_lzip, x_slc, x_onil, x_ocons, x_rev, y_sl, y_bin, y_cmp, y_cons, y_neg, y_isN, y_notN, y_and, y_or, y_andB, y_orB, y_not, y_iteT, y_iteF, y_ix, y_call0, y_call1, y_call2, y_call3, y_call4, y_call5, y_bi, y_isi, y_chain, y_chainT, y_chainF, y_tup0, y_tup1, y_tup2, y_tup3, y_tup4, y_lst0, y_lst1, y_lst2, y_lst3, y_lst4, y_lst5, y_lst6, y_lst7, y_seqT, y_seqL, y_enum, y_zip, y_zipT, y_lzip, y_rev, y_opt, y_slc, y_revL, z_comp0, z_comp1, z_comp2, z_comp3, z_lstC, z_compN, z_compC, z_stepA, z_stepCT, z_stepCF, z_stepE, x_snil, x_scons, x_asg, x_par, x_if, x_for, x_ret, x_raise, x_exp, x_brk, x_cont, x_pass, x_while, x_def, y_seqN, y_seqR, y_seqX, y_seqB, y_seqC, y_asg, y_asgX, y_asgO, y_ifT, y_ifF, y_for, y_ret, y_retX, y_exp, y_endR, y_endN, y_endX, binD_add, binD_sub, cmpD_lt, cmpD_le, cmpD_gt, cmpD_ge, ix_t0, ix_t1, ix_t2, ix_l0, ix_l1, Rs.ofO_some, List.map, List.length_cons, List.length_nil, List.replicate, List.cons_append, List.nil_append, List.getElem?_cons_zero, List.getElem?_cons_succ, List.set_cons_zero, List.set_cons_succ, Nat.reduceAdd, Nat.reduceSub, Nat.reduceLT, t_name, t_tup, t_nil, t_cons, t_asgC, t_Lname, t_LtupT, t_LtupL, if_true, Nat.zero_lt_succ, Nat.lt_add_left_iff_pos, wipeE, Bool.true_or, Bool.false_or, Bool.or_true, Bool.or_false, Bool.true_and, Bool.false_and, Bool.and_true, Bool.and_false, Bool.not_true, Bool.not_false, decide_true, decide_false, orB_t, orB_f, andB_t, andB_f, eq_ps0, n1, ps_first, ps_last, neg1, ne_p, e1']
      simp [lawWayR, e1]
/-! ### both tell the same -/
theorem pcs_cons (p q : Pt) (ps : List Pt) : pcs (p :: q :: ps) = (p, q) :: pcs (q :: ps) := rfl
theorem ends_in {w : Wl} {v : Wl} {r : Rat} (h : ¬ apartR w v < r) : ¬ toF w v.1 < r ∧ ¬ toF w v.2 < r := by
  have h0 := apart_piece w v (t := 0) ⟨by grind, by grind⟩
  have h1 := apart_piece w v (t := 1) ⟨by grind, by grind⟩
  rw [at_0] at h0
  rw [at_1] at h1
  exact ⟨by grind, by grind⟩
theorem pts_free {w : Wl} {r : Rat} : ∀ (p : Pt) (ps : List Pt), ¬ toF w p < r → (∀ v ∈ pcs (p :: ps), ¬ apartR w v < r) → ∀ q ∈ p :: ps, ¬ toF w q < r
  | p, [], h, _, q, hq => by rw [List.mem_singleton.mp hq]; exact h
  | p, p2 :: ps, h, hv, q, hq => by
    rw [pcs_cons] at hv
    have h2 := ends_in (hv (p, p2) List.mem_cons_self)
    rcases List.mem_cons.mp hq with rfl | hq
    · exact h
    · exact pts_free p2 ps h2.2 (fun v h => hv v (List.mem_cons_of_mem _ h)) q hq
theorem way_same (ws : List Wl) (r : Rat) (s g : Pt) (ps : List Pt) : lawWayR ws r s g ps = isWayR ws r s g ps := by
  cases ps with
  | nil => rfl
  | cons p t =>
    show (decide (p = s) && decide (lastP p t = g) && ws.all (okF r (p :: t))) = (decide (p = s) && decide (lastP p t = g) && (pcs (p :: t) ++ [(s, s)]).all (freeR ws r))
    by_cases e1 : p = s
    · subst e1
      congr 1
      rw [Bool.eq_iff_iff, List.all_eq_true, List.all_eq_true]
      constructor
      · intro h v hv
        rw [freeR_iff]
        intro w hw
        have hk := h w hw
        unfold okF at hk
        simp only [Bool.and_eq_true, Bool.not_eq_true', List.any_eq_false, decide_eq_true_eq] at hk
        rcases List.mem_append.mp hv with hv | hv
        · exact hk.2 v hv
        · rw [List.mem_singleton.mp hv, apart_pt]
          exact hk.1 p List.mem_cons_self
      · intro h w hw
        unfold okF
        simp only [Bool.and_eq_true, Bool.not_eq_true', List.any_eq_false, decide_eq_true_eq]
        have h1 : ∀ v ∈ pcs (p :: t), ¬ apartR w v < r := fun v hv => freeR_iff.mp (h v (List.mem_append_left _ hv)) w hw
        have h2 : ¬ toF w p < r := by
          have := freeR_iff.mp (h (p, p) (List.mem_append_right _ (List.mem_singleton_self _))) w hw
          rw [apart_pt] at this
          exact this
        exact ⟨pts_free p t h2 h1, h1⟩
    · have e1' : decide (p = s) = false := by simp [e1]
      rw [e1']
      rfl
end Mn
/-! the law k30 -/
namespace Mn
open PySem PySem.Spec PyProof.Rows L2
noncomputable def Γl : G := ⟨[(2, d__law_drawn), (2, d__law_cell), (2, d__law_fences), (1, d__law_reach), (1, d__law_point), (5, d_is_way), (5, d__law_is_way)], []⟩
def lB : S := bodyOf b_law
def rB : S := loopOf (nthS 9 lB)
/-- a way of the row is told right -/
theorem r_turn {r : Rat} {s g : Pt} {ps : List Pt} {ws : List Wl} (hw : ∀ w ∈ ws, SzW 6 w) (hs : SzP 6 s) (hp : ∀ p ∈ ps, SzP 6 p) (hr : Sz 7 r) (hl : ws.length ≤ 40) (h0 : 0 < r) (hpl : ps.length ≤ 900) (s0 s1 s2 s5 s8 s9 s11 s12 s13 s14 : Sl) :
    ∃ t12 t13, ex Γl rB [s0, s1, s2, .dt (encWs ws), .dt (enc r), s5, .dt (encP s), .dt (encP g), s8, s9, .dt (encPs ps), s11, s12, s13, s14] = .next [s0, s1, s2, .dt (encWs ws), .dt (enc r), s5, .dt (encP s), .dt (encP g), s8, s9, .dt (encPs ps), s11, t12, t13, s14] := by
  have m1 := d_is_way_eq (g := g) hw hs hp hr (by decide) hl h0 hpl
  have m2 := d__law_is_way_eq (s := s) (g := g) hw hp hr (by decide) hpl
  rw [way_same] at m2
  have k : isiD 0 (.bool (isWayR ws r s g ps)) = true := rfl
  refine ⟨.dt (.bool (isWayR ws r s g ps)), .dt (.bool (isWayR ws r s g ps)), ?_⟩
  simp -implicitDefEqProofs only [Γl, rB, lB, bodyOf, loopOf, nthS, b_law, x_var, x_int, x_str, x_bl, x_non, x_glob, x_tup, x_lst, x_bin, x_neg, x_cmp, x_chain, x_isN, x_notN, x_and, x_or, x_not, x_ite, x_ix, x_call, x_bi, x_isi, x_comp, x_enil, x_econs, x_cnil, x_ccons, x_iseq, x_irange, x_ienum, x_izip, x_irev, x_lzip, x_slc, x_onil, x_ocons, x_rev, y_sl, y_bin, y_cmp, y_cons, y_neg, y_isN, y_notN, y_and, y_or, y_andB, y_orB, y_not, y_iteT, y_iteF, y_ix, y_call0, y_call1, y_call2, y_call3, y_call4, y_call5, y_bi, y_isi, y_chain, y_chainT, y_chainF, y_tup0, y_tup1, y_tup2, y_tup3, y_tup4, y_lst0, y_lst1, y_lst2, y_lst3, y_lst4, y_lst5, y_lst6, y_lst7, y_seqT, y_seqL, y_enum, y_zip, y_zipT, y_lzip, y_rev, y_opt, y_slc, y_revL, z_comp0, z_comp1, z_comp2, z_comp3, z_lstC, z_compN, z_compC, z_stepA, z_stepCT, z_stepCF, z_stepE, x_snil, x_scons, x_asg, x_par, x_if, x_for, x_ret, x_raise, x_exp, x_brk, x_cont, x_pass, x_while, x_def, y_seqN, y_seqR, y_seqX, y_seqB, y_seqC, y_asg, y_asgX, y_asgO, y_ifT, y_ifF, y_for, y_ret, y_retX, y_exp, y_endR, y_endN, y_endX, z_forN, z_forC, z_forS, z_forBn, z_forBc, z_forBb, z_forBr, z_forBx, binD_add, binD_sub, cmpD_lt, cmpD_le, cmpD_gt, cmpD_ge, ix_t0, ix_t1, ix_t2, ix_l0, ix_l1, Rs.ofO_some, List.map, List.length_cons, List.length_nil, List.replicate, List.cons_append, List.nil_append, List.getElem?_cons_zero, List.getElem?_cons_succ, List.set_cons_zero, List.set_cons_succ, Nat.reduceAdd, Nat.reduceSub, Nat.reduceLT, t_name, t_tup, t_nil, t_cons, t_asgC, t_Lname, t_LtupT, t_LtupL, if_true, Nat.zero_lt_succ, Nat.lt_add_left_iff_pos, wipeE, Bool.true_or, Bool.false_or, Bool.or_true, Bool.or_false, Bool.true_and, Bool.false_and, Bool.and_true, Bool.and_false, Bool.not_true, Bool.not_false, decide_true, decide_false, orB_t, orB_f, andB_t, andB_f, m1, m2, k, ne_bb]
theorem pts_sz {p : Pt} (h : SzP 4 p) : SzP 6 p := h.mono (by decide)
theorem pow2 (x : D) : True := True.intro
theorem rep2 (ps : List Pt) (h : ps.length ≤ 100) : binD .Mult (encPs ps) (.int 2) = .ok (encPs (ps ++ ps)) := by
  unfold encPs
  show (if (ps.map encP).length * (2 : Int).toNat ≤ lim ∧ -(2 ^ 63) ≤ (2 : Int) ∧ (2 : Int) < 2 ^ 63 then Rs.ok (PyData.list (List.replicate (2 : Int).toNat (ps.map encP)).flatten) else .no) = _
  rw [if_pos ⟨by rw [List.length_map]; show _ * 2 ≤ 1000000; omega, by decide, by decide⟩, List.map_append]
  show Rs.ok (PyData.list (List.replicate 2 (ps.map encP)).flatten) = _
  simp [List.replicate]
theorem rev_ps (ps : List Pt) : revR (.ok (encPs ps)) = .ok (encPs ps.reverse) := by
  unfold encPs
  rw [y_revL, List.map_reverse]
theorem drawn_pts {m : Int} {n : Nat} (hn : n ≤ 900) {ρ : Sl → En} {Γ : G} {f : E} {i : Nat} (ha : ∀ j : Nat, asgT (.name i) (.int (j : Int)) (wipeE (ρ .un) [i]) = some (ρ (.dt (.int (j : Int))))) (hf : ∀ j : Nat, ∃ p, SzP 4 p ∧ ev Γ f (ρ (.dt (.int (j : Int)))) = .ok (encP p)) :
    ∃ ps : List Pt, (∀ p ∈ ps, SzP 4 p) ∧ ps.length = n ∧ compR Γ [i] (.name i) .nil f (ρ .un) (.ok (rangeD 0 n)) = .ok (encPs ps) := by
  let pt : Nat → Pt := fun j => Classical.choose (hf j)
  have hpt : ∀ j, SzP 4 (pt j) ∧ ev Γ f (ρ (.dt (.int (j : Int)))) = .ok (encP (pt j)) := fun j => Classical.choose_spec (hf j)
  refine ⟨(List.range n).map pt, fun p hp => ?_, by simp, ?_⟩
  · obtain ⟨j, _, rfl⟩ := List.mem_map.mp hp
    exact (hpt j).1
  · refine y_comp (by rw [rangeD_len]; unfold lim; omega) ?_
    rw [rangeD_eq, List.map_map]
    refine compRun_map _ fun j _ => ⟨ρ (.dt (.int (j : Int))), ?_, x_cnil, ?_⟩
    · rw [Int.zero_add]
      exact ha j
    · exact (hpt j).2
theorem last_mem (p : Pt) (ps : List Pt) : lastP p ps ∈ p :: ps := List.getLast_mem _
/-- a turn of the law -/
theorem turn {ns : List Int} (hl : ns.length ≤ 63) (k : Nat) (ρ : En) (h15 : ρ.length = 15) (h14 : ρ[14]? = some .un) (hsc : ρ[0]? = some (.dt (.dict (ns.map fun n => (.int n, .none))))) :
    ∃ ρ1 ρ2, asgT (.name 1) (.int (k : Int)) ρ = some ρ1 ∧ ex Γl lB ρ1 = .next ρ2 ∧ ρ2.length = 15 ∧ ρ2[14]? = some .un ∧ ρ2[0]? = some (.dt (.dict (ns.map fun n => (.int n, .none)))) := by
  obtain ⟨s0, ρ0, e0, l0⟩ := len_succ h15
  obtain ⟨s1, ρ1, e1, l1⟩ := len_succ l0
  obtain ⟨s2, ρ2, e2, l2⟩ := len_succ l1
  obtain ⟨s3, ρ3, e3, l3⟩ := len_succ l2
  obtain ⟨s4, ρ4, e4, l4⟩ := len_succ l3
  obtain ⟨s5, ρ5, e5, l5⟩ := len_succ l4
  obtain ⟨s6, ρ6, e6, l6⟩ := len_succ l5
  obtain ⟨s7, ρ7, e7, l7⟩ := len_succ l6
  obtain ⟨s8, ρ8, e8, l8⟩ := len_succ l7
  obtain ⟨s9, ρ9, e9, l9⟩ := len_succ l8
  obtain ⟨s10, ρ10, e10, l10⟩ := len_succ l9
  obtain ⟨s11, ρ11, e11, l11⟩ := len_succ l10
  obtain ⟨s12, ρ12, e12, l12⟩ := len_succ l11
  obtain ⟨s13, ρ13, e13, l13⟩ := len_succ l12
  obtain ⟨s14, ρ14, e14, l14⟩ := len_succ l13
  have e15 := List.length_eq_zero_iff.mp l14
  subst e15 e14 e13 e12 e11 e10 e9 e8 e7 e6 e5 e4 e3 e2 e1 e0
  simp only [List.getElem?_cons_zero, List.getElem?_cons_succ, Option.some.injEq] at hsc h14
  subst hsc h14
  obtain ⟨c, hc⟩ := d__law_cell_eq ns k hl
  have f1 := d__law_drawn_eq c k
  generalize drw c k = m at *
  obtain ⟨ws, hw, hwl, ef0⟩ := d__law_fences_eq m 5 (by decide)
  have ef : d__law_fences [.int m, .int 5] = .ok (encWs ws) := ef0
  have d1 := dv (i := m) (j := 64) (b := 30) (by decide) (by decide) (by decide)
  have d2 := dv (i := m) (j := 512) (b := 30) (by decide) (by decide) (by decide)
  have r2 := binD_mod (i := m / 512) (j := 4) (by decide)
  obtain ⟨r, r0, hr, er⟩ := d__law_reach_eq (m / 64)
  obtain ⟨n, hn⟩ : ∃ n : Nat, 1 + m / 512 % 4 = (n : Int) ∧ 1 ≤ n ∧ n ≤ 4 := by
    have a1 := Int.emod_nonneg (m / 512) (show (4 : Int) ≠ 0 by decide)
    have a2 := Int.emod_lt_of_pos (m / 512) (show (0 : Int) < 4 by decide)
    exact ⟨(1 + m / 512 % 4).toNat, by omega, by omega, by omega⟩
  obtain ⟨hn, hn1, hn4⟩ := hn
  have hrg : irangeR (.ok [.int (n : Int)]) = .ok (rangeD 0 n) := by
    have := y_range1 (j := (n : Int)) (by omega) (by omega)
    simpa using this
  obtain ⟨ps, hps, hpl, hcp⟩ := drawn_pts (m := m) (n := n) (by omega) (Γ := Γl) (i := 14) (f := .call 4 (.cons (.call 0 (.cons (.var 2) (.cons (.bin .Add (.int 30) (.var 14)) .nil))) .nil))
    (ρ := fun x => [.dt (.dict (ns.map fun n => (.int n, .none))), .dt (.int k), .dt (.int m), .dt (encWs ws), .dt (enc r), s5, s6, s7, s8, s9, s10, s11, s12, s13, x]) (fun j => rfl) (fun j => by
      have g1 := d__law_drawn_eq m (30 + j)
      obtain ⟨p, h1, h2⟩ := d__law_point_eq (drw m (30 + j)) (drw_nn _ _)
      refine ⟨p, h1, ?_⟩
      simp -implicitDefEqProofs only [Γl, x_var, x_int, x_str, x_bl, x_non, x_glob, x_tup, x_lst, x_bin, x_neg, x_cmp, x_chain, x_isN, x_notN, x_and, x_or, x_not, x_ite, x_ix, x_call, x_bi, x_isi, x_comp, x_enil, x_econs, x_cnil, x_ccons, x_iseq, x_irange, x_ienum, x_izip, x_irev, x_lzip, x_slc, x_onil, x_ocons, x_rev, y_sl, y_bin, y_cmp, y_cons, y_neg, y_isN, y_notN, y_and, y_or, y_andB, y_orB, y_not, y_iteT, y_iteF, y_ix, y_call0, y_call1, y_call2, y_call3, y_call4, y_call5, y_bi, y_isi, y_chain, y_chainT, y_chainF, y_tup0, y_tup1, y_tup2, y_tup3, y_tup4, y_lst0, y_lst1, y_lst2, y_lst3, y_lst4, y_lst5, y_lst6, y_lst7, y_seqT, y_seqL, y_enum, y_zip, y_zipT, y_lzip, y_rev, y_opt, y_slc, y_revL, z_comp0, z_comp1, z_comp2, z_comp3, z_lstC, z_compN, z_compC, z_stepA, z_stepCT, z_stepCF, z_stepE, x_snil, x_scons, x_asg, x_par, x_if, x_for, x_ret, x_raise, x_exp, x_brk, x_cont, x_pass, x_while, x_def, y_seqN, y_seqR, y_seqX, y_seqB, y_seqC, y_asg, y_asgX, y_asgO, y_ifT, y_ifF, y_for, y_ret, y_retX, y_exp, y_endR, y_endN, y_endX, z_forN, z_forC, z_forS, z_forBn, z_forBc, z_forBb, z_forBr, z_forBx, binD_add, binD_sub, cmpD_lt, cmpD_le, cmpD_gt, cmpD_ge, ix_t0, ix_t1, ix_t2, ix_l0, ix_l1, Rs.ofO_some, List.map, List.length_cons, List.length_nil, List.replicate, List.cons_append, List.nil_append, List.getElem?_cons_zero, List.getElem?_cons_succ, List.set_cons_zero, List.set_cons_succ, Nat.reduceAdd, Nat.reduceSub, Nat.reduceLT, t_name, t_tup, t_nil, t_cons, t_asgC, t_Lname, t_LtupT, t_LtupL, if_true, Nat.zero_lt_succ, Nat.lt_add_left_iff_pos, wipeE, Bool.true_or, Bool.false_or, Bool.or_true, Bool.or_false, Bool.true_and, Bool.false_and, Bool.and_true, Bool.and_false, Bool.not_true, Bool.not_false, decide_true, decide_false, orB_t, orB_f, andB_t, andB_f, g1, h2])
  obtain ⟨p0, pt, rfl⟩ : ∃ p0 pt, ps = p0 :: pt := by
    cases ps with
    | nil => simp at hpl; omega
    | cons p0 pt => exact ⟨p0, pt, rfl⟩
  have g4 := d__law_drawn_eq m 40
  obtain ⟨o, ho, eo⟩ := d__law_point_eq (drw m 40) (drw_nn _ _)
  have lst : (p0 :: pt).getLast (by simp) = lastP p0 pt := rfl
  obtain ⟨q, hq⟩ : ∃ q, q = lastP p0 pt := ⟨_, rfl⟩
  have sq : SzP 4 q := by rw [hq]; exact hps _ (last_mem p0 pt)
  have s0' : SzP 4 p0 := hps p0 List.mem_cons_self
  have hpl' : pt.length + 1 = n := by simpa using hpl
  have k1 : PyData.list [encP o] = encPs [o] := rfl
  have k2 : PyData.list [encP p0] = encPs [p0] := rfl
  have k3 : PyData.list [encP p0, encP q] = encPs [p0, q] := rfl
  have k4 : PyData.list [encP p0, encP o, encP q] = encPs [p0, o, q] := rfl
  have k5 : PyData.list [encP p0, encP p0] = encPs [p0, p0] := rfl
  have k6 : PyData.list [] = encPs [] := rfl
  obtain ⟨l1, hl1⟩ : ∃ l, l = (p0 :: pt).reverse := ⟨_, rfl⟩
  obtain ⟨l2, hl2⟩ : ∃ l, l = (p0 :: pt) ++ [o] := ⟨_, rfl⟩
  obtain ⟨l3, hl3⟩ : ∃ l, l = [o] ++ (p0 :: pt) := ⟨_, rfl⟩
  obtain ⟨l4, hl4⟩ : ∃ l, l = (p0 :: pt) ++ (p0 :: pt) := ⟨_, rfl⟩
  have rv : revR (.ok (encPs (p0 :: pt))) = .ok (encPs l1) := by rw [hl1]; exact rev_ps _
  have c1 : binD .Add (encPs (p0 :: pt)) (encPs [o]) = .ok (encPs l2) := by rw [hl2]; exact cat_ps (us := p0 :: pt) (vs := [o]) (by simp; omega)
  have c2 : binD .Add (encPs [o]) (encPs (p0 :: pt)) = .ok (encPs l3) := by rw [hl3]; exact cat_ps (us := [o]) (vs := p0 :: pt) (by simp; omega)
  have rp : binD .Mult (encPs (p0 :: pt)) (.int 2) = .ok (encPs l4) := by rw [hl4]; exact rep2 (p0 :: pt) (by simp; omega)
  let rows : List (List Pt) := [p0 :: pt, l1, l2, l3, [], [p0], [p0, q], [p0, o, q], [p0, p0], l4]
  have hrows : ∀ l ∈ rows, (∀ p ∈ l, SzP 6 p) ∧ l.length ≤ 900 := by
    have all : ∀ p ∈ p0 :: pt, SzP 6 p := fun p hp => pts_sz (hps p hp)
    have so := pts_sz ho
    have sp := pts_sz s0'
    have sq' := pts_sz sq
    intro l hl
    simp only [rows, List.mem_cons, List.not_mem_nil, or_false] at hl
    rcases hl with rfl | rfl | rfl | rfl | rfl | rfl | rfl | rfl | rfl | rfl
    · exact ⟨all, by simp; omega⟩
    · subst hl1; exact ⟨fun p hp => all p (List.mem_reverse.mp hp), by simp; omega⟩
    · subst hl2; exact ⟨fun p hp => by rcases List.mem_append.mp hp with h | h; exact all p h; rw [List.mem_singleton.mp h]; exact so, by simp; omega⟩
    · subst hl3; exact ⟨fun p hp => by rcases List.mem_append.mp hp with h | h; rw [List.mem_singleton.mp h]; exact so; exact all p h, by simp; omega⟩
    · exact ⟨fun p hp => by simp at hp, by simp⟩
    · exact ⟨fun p hp => by rw [List.mem_singleton.mp hp]; exact sp, by simp⟩
    · exact ⟨fun p hp => by simp at hp; rcases hp with rfl | rfl; exact sp; exact sq', by simp⟩
    · exact ⟨fun p hp => by simp at hp; rcases hp with rfl | rfl | rfl; exact sp; exact so; exact sq', by simp⟩
    · exact ⟨fun p hp => by simp at hp; rw [hp]; exact sp, by simp⟩
    · subst hl4; exact ⟨fun p hp => by rcases List.mem_append.mp hp with h | h <;> exact all p h, by simp; omega⟩
  obtain ⟨ρ', h1, h2⟩ := forRun_inv (as := asgT (.name 10)) (b := ex Γl rB) (fun ρ => ∃ t10 t12 t13, ρ = [.dt (.dict (ns.map fun n => (.int n, .none))), .dt (.int k), .dt (.int m), .dt (encWs ws), .dt (enc r), .dt (encPs (p0 :: pt)), .dt (encP p0), .dt (encP q), .dt (encP o), .dt (.list ((rows.take 8).map encPs)), t10, s11, t12, t13, .un]) (rows.map encPs)
    [.dt (.dict (ns.map fun n => (.int n, .none))), .dt (.int k), .dt (.int m), .dt (encWs ws), .dt (enc r), .dt (encPs (p0 :: pt)), .dt (encP p0), .dt (encP q), .dt (encP o), .dt (.list ((rows.take 8).map encPs)), s10, s11, s12, s13, .un] (fun d hd ρ I => by
    obtain ⟨l, hl, rfl⟩ := List.mem_map.mp hd
    obtain ⟨t10, t12, t13, rfl⟩ := I
    obtain ⟨u12, u13, e⟩ := r_turn (g := q) hw (pts_sz s0') (hrows l hl).1 hr (by omega) r0 (hrows l hl).2 (.dt (.dict (ns.map fun n => (.int n, .none)))) (.dt (.int k)) (.dt (.int m)) (.dt (encPs (p0 :: pt))) (.dt (encP o)) (.dt (.list ((rows.take 8).map encPs))) s11 t12 t13 .un
    exact ⟨_, _, rfl, Or.inl e, _, _, _, rfl⟩) ⟨_, _, _, rfl⟩
  obtain ⟨t10, t12, t13, rfl⟩ := h2
  have e : lB = .cons (nthS 0 lB) (.cons (nthS 1 lB) (.cons (nthS 2 lB) (.cons (nthS 3 lB) (.cons (nthS 4 lB) (.cons (nthS 5 lB) (.cons (nthS 6 lB) (.cons (nthS 7 lB) (.cons (nthS 8 lB) (.cons (.for_ (.name 10) (.iseq (.bin .Add (.var 9) (.lst (.cons (.lst (.cons (.var 6) (.cons (.var 6) .nil))) (.cons (.bin .Mult (.var 5) (.int 2)) .nil))))) rB) (.cons (nthS 10 lB) (.cons (nthS 11 lB) (.cons (nthS 12 lB) .nil)))))))))))) := rfl
  obtain ⟨L, hL⟩ : ∃ L, L = List.replicate 41 (encW (p0, p0)) := ⟨_, rfl⟩
  have rp41 : binD .Mult (.list [encW (p0, p0)]) (.int 41) = .ok (.list L) := by rw [hL]; exact rep41 _
  have l41 : 40 < L.length := by rw [hL]; simp
  have q1 : d_is_way [.list L, enc 0, encP p0, encP q, encPs (p0 :: pt)] = .exn 0 := d_is_way_bad sz0 (by decide) (by decide +kernel)
  have q2 : d_is_way [.list L, enc r, encP p0, encP q, encPs (p0 :: pt)] = .exn 3 := d_is_way_many hr (by decide) r0 l41
  have b1 : binD .Add (.list [encPs (p0 :: pt), encPs l1, encPs l2, encPs l3]) (.list [encPs [], encPs [p0]]) = .ok (.list [encPs (p0 :: pt), encPs l1, encPs l2, encPs l3, encPs [], encPs [p0]]) := rfl
  have b2 : binD .Add (.list [encPs (p0 :: pt), encPs l1, encPs l2, encPs l3, encPs [], encPs [p0]]) (.list [encPs [p0, q], encPs [p0, o, q]]) = .ok (.list ((rows.take 8).map encPs)) := rfl
  have b3 : binD .Add (.list ((rows.take 8).map encPs)) (.list [encPs [p0, p0], encPs l4]) = .ok (.list (rows.map encPs)) := rfl
  have i3 : iseqR (.ok (.list (rows.map encPs))) = .ok (rows.map encPs) := rfl
  have key : ∃ ρ2, ex Γl lB [.dt (.dict (ns.map fun n => (.int n, .none))), .dt (.int k), s2, s3, s4, s5, s6, s7, s8, s9, s10, s11, s12, s13, .un] = .next ρ2 ∧ ρ2.length = 15 ∧ ρ2[14]? = some .un ∧ ρ2[0]? = some (.dt (.dict (ns.map fun n => (.int n, .none)))) := by
    rw [e]
    generalize hrB : rB = bd at *
    generalize hR : (rows.take 8).map encPs = RR at *
    generalize hR2 : rows.map encPs = RR2 at *
    simp only [Γl] at h1 hcp
    have ev1 : ev Γl (.lst E.nil) [] = .ok (.list []) := rfl
    simp -implicitDefEqProofs only [Γl, lB, bodyOf, nthS, b_law, x_var, x_int, x_str, x_bl, x_non, x_glob, x_tup, x_lst, x_bin, x_neg, x_cmp, x_chain, x_isN, x_notN, x_and, x_or, x_not, x_ite, x_ix, x_call, x_bi, x_isi, x_comp, x_enil, x_econs, x_cnil, x_ccons, x_iseq, x_irange, x_ienum, x_izip, x_irev, x_lzip, x_slc, x_onil, x_ocons, x_rev, y_sl, y_bin, y_cmp, y_cons, y_neg, y_isN, y_notN, y_and, y_or, y_andB, y_orB, y_not, y_iteT, y_iteF, y_ix, y_call0, y_call1, y_call2, y_call3, y_call4, y_call5, y_bi, y_isi, y_chain, y_chainT, y_chainF, y_tup0, y_tup1, y_tup2, y_tup3, y_tup4, y_lst0, y_lst1, y_lst2, y_lst3, y_lst4, y_lst5, y_lst6, y_lst7, y_seqT, y_seqL, y_enum, y_zip, y_zipT, y_lzip, y_rev, y_opt, y_slc, y_revL, z_comp0, z_comp1, z_comp2, z_comp3, z_lstC, z_compN, z_compC, z_stepA, z_stepCT, z_stepCF, z_stepE, x_snil, x_scons, x_asg, x_par, x_if, x_for, x_ret, x_raise, x_exp, x_brk, x_cont, x_pass, x_while, x_def, y_seqN, y_seqR, y_seqX, y_seqB, y_seqC, y_asg, y_asgX, y_asgO, y_ifT, y_ifF, y_for, y_ret, y_retX, y_exp, y_endR, y_endN, y_endX, binD_add, binD_sub, cmpD_lt, cmpD_le, cmpD_gt, cmpD_ge, ix_t0, ix_t1, ix_t2, ix_l0, ix_l1, Rs.ofO_some, List.map, List.length_cons, List.length_nil, List.replicate, List.cons_append, List.nil_append, List.getElem?_cons_zero, List.getElem?_cons_succ, List.set_cons_zero, List.set_cons_succ, Nat.reduceAdd, Nat.reduceSub, Nat.reduceLT, t_name, t_tup, t_nil, t_cons, t_asgC, t_Lname, t_LtupT, t_LtupL, if_true, Nat.zero_lt_succ, Nat.lt_add_left_iff_pos, wipeE, Bool.true_or, Bool.false_or, Bool.or_true, Bool.or_false, Bool.true_and, Bool.false_and, Bool.and_true, Bool.and_false, Bool.not_true, Bool.not_false, decide_true, decide_false, orB_t, orB_f, andB_t, andB_f, hc, f1, ef, d1, er, d2, r2, hn, hrg, hcp, ps_first, ps_last, lst, ← hq, neg1, g4, eo, rv, k1, c1, c2, k2, k3, k4, k5, k6, b1, b2, rp, b3, i3]
    rw [h1]
    simp -implicitDefEqProofs only [x_var, x_int, x_str, x_bl, x_non, x_glob, x_tup, x_lst, x_bin, x_neg, x_cmp, x_chain, x_isN, x_notN, x_and, x_or, x_not, x_ite, x_ix, x_call, x_bi, x_isi, x_comp, x_enil, x_econs, x_cnil, x_ccons, x_iseq, x_irange, x_ienum, x_izip, x_irev, x_lzip, x_slc, x_onil, x_ocons, x_rev, y_sl, y_bin, y_cmp, y_cons, y_neg, y_isN, y_notN, y_and, y_or, y_andB, y_orB, y_not, y_iteT, y_iteF, y_ix, y_call0, y_call1, y_call2, y_call3, y_call4, y_call5, y_bi, y_isi, y_chain, y_chainT, y_chainF, y_tup0, y_tup1, y_tup2, y_tup3, y_tup4, y_lst0, y_lst1, y_lst2, y_lst3, y_lst4, y_lst5, y_lst6, y_lst7, y_seqT, y_seqL, y_enum, y_zip, y_zipT, y_lzip, y_rev, y_opt, y_slc, y_revL, z_comp0, z_comp1, z_comp2, z_comp3, z_lstC, z_compN, z_compC, z_stepA, z_stepCT, z_stepCF, z_stepE, x_snil, x_scons, x_asg, x_par, x_if, x_for, x_ret, x_raise, x_exp, x_brk, x_cont, x_pass, x_while, x_def, y_seqN, y_seqR, y_seqX, y_seqB, y_seqC, y_asg, y_asgX, y_asgO, y_ifT, y_ifF, y_for, y_ret, y_retX, y_exp, y_endR, y_endN, y_endX, binD_add, binD_sub, cmpD_lt, cmpD_le, cmpD_gt, cmpD_ge, ix_t0, ix_t1, ix_t2, ix_l0, ix_l1, Rs.ofO_some, List.map, List.length_cons, List.length_nil, List.replicate, List.cons_append, List.nil_append, List.getElem?_cons_zero, List.getElem?_cons_succ, List.set_cons_zero, List.set_cons_succ, Nat.reduceAdd, Nat.reduceSub, Nat.reduceLT, t_name, t_tup, t_nil, t_cons, t_asgC, t_Lname, t_LtupT, t_LtupL, if_true, Nat.zero_lt_succ, Nat.lt_add_left_iff_pos, wipeE, Bool.true_or, Bool.false_or, Bool.or_true, Bool.or_false, Bool.true_and, Bool.false_and, Bool.and_true, Bool.and_false, Bool.not_true, Bool.not_false, decide_true, decide_false, orB_t, orB_f, andB_t, andB_f, x_told, tw, rp41, enc0, q1, q2, told0, told3, ne_bad, ne_many]
    exact ⟨_, rfl, rfl, rfl, rfl⟩
  obtain ⟨ρ2, k1, k2, k3, k4⟩ := key
  exact ⟨_, ρ2, t_name (by simp only [List.length_cons, List.length_nil]; omega), k1, k2, k3, k4⟩
theorem law_true (ns : List Int) (hl : ns.length ≤ 63) : d_law [.dict (ns.map fun n => (.int n, .none))] = .ok (.bool true) := by
  obtain ⟨n, hn⟩ : ∃ n : Nat, irangeR (consR (biR .max (consR (.ok (.int 1)) (consR (biR .min (consR (.ok (.int 4)) (consR (.ok (.int (ns.length : Int))) (.ok [])))) (.ok [])))) (.ok [])) = .ok (rangeD 0 n) := by
    simp only [y_cons, y_bi, biD]
    exact ⟨_, y_range1 (by split <;> (try split) <;> omega) (by split <;> (try split) <;> omega)⟩
  obtain ⟨ρ', h1, h2, h3⟩ := forRun_inv (as := asgT (.name 1)) (b := ex Γl lB) (fun ρ => ρ.length = 15 ∧ ρ[14]? = some .un ∧ ρ[0]? = some (.dt (.dict (ns.map fun n => (.int n, .none))))) (rangeD 0 n) (.dt (.dict (ns.map fun n => (.int n, .none))) :: List.replicate 14 .un) (fun d hd ρ hI => by
    rw [rangeD_eq] at hd
    obtain ⟨k, _, rfl⟩ := List.mem_map.mp hd
    obtain ⟨ρ1, ρ2, e1, e2, e3, e4, e5⟩ := turn hl k ρ hI.1 hI.2.1 hI.2.2
    rw [Int.zero_add]
    exact ⟨ρ1, ρ2, e1, Or.inl e2, e3, e4, e5⟩) ⟨rfl, rfl, rfl⟩
  have e : b_law = .cons (.for_ (.name 1) (.irange (.cons (.bi .max (.cons (.int 1) (.cons (.bi .min (.cons (.int 4) (.cons (.bi .len (.cons (.var 0) .nil)) .nil))) .nil))) .nil)) lB) (.cons (.ret (.bl true)) .nil) := rfl
  show runDef Γl 15 b_law _ = _
  rw [x_def, e]
  generalize lB = bd at *
  have hr : (List.map Sl.dt [PyData.dict (ns.map fun n => (.int n, .none))] ++ List.replicate (15 - [PyData.dict (ns.map fun n => (PyData.int n, PyData.none))].length) Sl.un) = (.dt (.dict (ns.map fun n => (.int n, .none))) :: List.replicate 14 .un) := rfl
  rw [hr]
  simp -implicitDefEqProofs only [x_scons, x_for, x_irange, x_econs, x_enil, x_bi, x_int, x_var, List.getElem?_cons_zero, y_sl, y_cons, y_bi, len_dict]
  simp only [y_cons, y_bi] at hn
  rw [hn, y_for, h1]
  simp -implicitDefEqProofs only [y_seqN, x_scons, x_ret, x_bl, y_ret, y_seqR, y_endR]
end Mn
/-! ## the row rimway_k30_ways_looked_at -/
namespace Row
open PySem PySem.Spec PyProof.Rows L2 LamX Mn
def top (i : Nat) : Stmt := PySem.Challenge.pw_rimway_k30_ways_looked_at.main.body.getD i (.Pass ⟨0, 0, 0, 0⟩)
def XS : List Str := ["BadReach", "NoRoom", "NoWall", "TooMany"]
abbrev s_fraction : Stmt := top 9
def dd_fraction : He.DefD := ⟨("fraction", none), "fraction", "fraction", defArgs s_fraction, defBody s_fraction, defScope s_fraction, [], []⟩
abbrev s_plus : Stmt := top 10
def dd_plus : He.DefD := ⟨("plus", none), "plus", "plus", defArgs s_plus, defBody s_plus, defScope s_plus, [], []⟩
abbrev s_minus : Stmt := top 11
def dd_minus : He.DefD := ⟨("minus", none), "minus", "minus", defArgs s_minus, defBody s_minus, defScope s_minus, [], []⟩
abbrev s_times : Stmt := top 12
def dd_times : He.DefD := ⟨("times", none), "times", "times", defArgs s_times, defBody s_times, defScope s_times, [], []⟩
abbrev s_over : Stmt := top 13
def dd_over : He.DefD := ⟨("over", none), "over", "over", defArgs s_over, defBody s_over, defScope s_over, [], []⟩
abbrev s_is_less : Stmt := top 14
def dd_is_less : He.DefD := ⟨("is_less", none), "is_less", "is_less", defArgs s_is_less, defBody s_is_less, defScope s_is_less, [], []⟩
abbrev s_step_from : Stmt := top 16
def dd_step_from : He.DefD := ⟨("step_from", none), "step_from", "step_from", defArgs s_step_from, defBody s_step_from, defScope s_step_from, [], []⟩
abbrev s_inner : Stmt := top 17
def dd_inner : He.DefD := ⟨("inner", none), "inner", "inner", defArgs s_inner, defBody s_inner, defScope s_inner, [], []⟩
abbrev s_across : Stmt := top 18
def dd_across : He.DefD := ⟨("across", none), "across", "across", defArgs s_across, defBody s_across, defScope s_across, [], []⟩
abbrev s_square_far : Stmt := top 19
def dd_square_far : He.DefD := ⟨("square_far", none), "square_far", "square_far", defArgs s_square_far, defBody s_square_far, defScope s_square_far, [], []⟩
abbrev s_point_at : Stmt := top 20
def dd_point_at : He.DefD := ⟨("point_at", none), "point_at", "point_at", defArgs s_point_at, defBody s_point_at, defScope s_point_at, [], []⟩
abbrev s_nearest : Stmt := top 21
def dd_nearest : He.DefD := ⟨("nearest", none), "nearest", "nearest", defArgs s_nearest, defBody s_nearest, defScope s_nearest, [], []⟩
abbrev s_crossing : Stmt := top 22
def dd_crossing : He.DefD := ⟨("crossing", none), "crossing", "crossing", defArgs s_crossing, defBody s_crossing, defScope s_crossing, [], []⟩
abbrev s_nearest_two : Stmt := top 23
def dd_nearest_two : He.DefD := ⟨("nearest_two", none), "nearest_two", "nearest_two", defArgs s_nearest_two, defBody s_nearest_two, defScope s_nearest_two, [], []⟩
abbrev s_apart : Stmt := top 24
def dd_apart : He.DefD := ⟨("apart", none), "apart", "apart", defArgs s_apart, defBody s_apart, defScope s_apart, [], []⟩
abbrev s_need_reach : Stmt := top 27
def dd_need_reach : He.DefD := ⟨("need_reach", none), "need_reach", "need_reach", defArgs s_need_reach, defBody s_need_reach, defScope s_need_reach, [], []⟩
abbrev s_need_walls : Stmt := top 28
def dd_need_walls : He.DefD := ⟨("need_walls", none), "need_walls", "need_walls", defArgs s_need_walls, defBody s_need_walls, defScope s_need_walls, [], []⟩
abbrev s_in_way : Stmt := top 29
def dd_in_way : He.DefD := ⟨("in_way", none), "in_way", "in_way", defArgs s_in_way, defBody s_in_way, defScope s_in_way, [], []⟩
abbrev s_is_way : Stmt := top 31
def dd_is_way : He.DefD := ⟨("is_way", none), "is_way", "is_way", defArgs s_is_way, defBody s_is_way, defScope s_is_way, [], []⟩
abbrev s__law_cell : Stmt := top 33
def dd__law_cell : He.DefD := ⟨("_law_cell", none), "_law_cell", "_law_cell", defArgs s__law_cell, defBody s__law_cell, defScope s__law_cell, [], []⟩
abbrev s__law_drawn : Stmt := top 34
def dd__law_drawn : He.DefD := ⟨("_law_drawn", none), "_law_drawn", "_law_drawn", defArgs s__law_drawn, defBody s__law_drawn, defScope s__law_drawn, [], []⟩
abbrev s__law_made : Stmt := top 37
def dd__law_made : He.DefD := ⟨("_law_made", none), "_law_made", "_law_made", defArgs s__law_made, defBody s__law_made, defScope s__law_made, [], []⟩
abbrev s__law_less : Stmt := top 38
def dd__law_less : He.DefD := ⟨("_law_less", none), "_law_less", "_law_less", defArgs s__law_less, defBody s__law_less, defScope s__law_less, [], []⟩
abbrev s__law_minus : Stmt := top 39
def dd__law_minus : He.DefD := ⟨("_law_minus", none), "_law_minus", "_law_minus", defArgs s__law_minus, defBody s__law_minus, defScope s__law_minus, [], []⟩
abbrev s__law_times : Stmt := top 40
def dd__law_times : He.DefD := ⟨("_law_times", none), "_law_times", "_law_times", defArgs s__law_times, defBody s__law_times, defScope s__law_times, [], []⟩
abbrev s__law_plus : Stmt := top 41
def dd__law_plus : He.DefD := ⟨("_law_plus", none), "_law_plus", "_law_plus", defArgs s__law_plus, defBody s__law_plus, defScope s__law_plus, [], []⟩
abbrev s__law_gone : Stmt := top 42
def dd__law_gone : He.DefD := ⟨("_law_gone", none), "_law_gone", "_law_gone", defArgs s__law_gone, defBody s__law_gone, defScope s__law_gone, [], []⟩
abbrev s__law_inner : Stmt := top 43
def dd__law_inner : He.DefD := ⟨("_law_inner", none), "_law_inner", "_law_inner", defArgs s__law_inner, defBody s__law_inner, defScope s__law_inner, [], []⟩
abbrev s__law_across : Stmt := top 44
def dd__law_across : He.DefD := ⟨("_law_across", none), "_law_across", "_law_across", defArgs s__law_across, defBody s__law_across, defScope s__law_across, [], []⟩
abbrev s__law_square : Stmt := top 45
def dd__law_square : He.DefD := ⟨("_law_square", none), "_law_square", "_law_square", defArgs s__law_square, defBody s__law_square, defScope s__law_square, [], []⟩
abbrev s__law_to_fence : Stmt := top 46
def dd__law_to_fence : He.DefD := ⟨("_law_to_fence", none), "_law_to_fence", "_law_to_fence", defArgs s__law_to_fence, defBody s__law_to_fence, defScope s__law_to_fence, [], []⟩
abbrev s__law_sense : Stmt := top 47
def dd__law_sense : He.DefD := ⟨("_law_sense", none), "_law_sense", "_law_sense", defArgs s__law_sense, defBody s__law_sense, defScope s__law_sense, [], []⟩
abbrev s__law_touch : Stmt := top 48
def dd__law_touch : He.DefD := ⟨("_law_touch", none), "_law_touch", "_law_touch", defArgs s__law_touch, defBody s__law_touch, defScope s__law_touch, [], []⟩
abbrev s__law_apart : Stmt := top 49
def dd__law_apart : He.DefD := ⟨("_law_apart", none), "_law_apart", "_law_apart", defArgs s__law_apart, defBody s__law_apart, defScope s__law_apart, [], []⟩
abbrev s__law_point : Stmt := top 50
def dd__law_point : He.DefD := ⟨("_law_point", none), "_law_point", "_law_point", defArgs s__law_point, defBody s__law_point, defScope s__law_point, [], []⟩
abbrev s__law_one_fence : Stmt := top 51
def dd__law_one_fence : He.DefD := ⟨("_law_one_fence", none), "_law_one_fence", "_law_one_fence", defArgs s__law_one_fence, defBody s__law_one_fence, defScope s__law_one_fence, [], []⟩
abbrev s__law_fences : Stmt := top 52
def dd__law_fences : He.DefD := ⟨("_law_fences", none), "_law_fences", "_law_fences", defArgs s__law_fences, defBody s__law_fences, defScope s__law_fences, [], []⟩
abbrev s__law_reach : Stmt := top 53
def dd__law_reach : He.DefD := ⟨("_law_reach", none), "_law_reach", "_law_reach", defArgs s__law_reach, defBody s__law_reach, defScope s__law_reach, [], []⟩
abbrev s__law_is_way : Stmt := top 54
def dd__law_is_way : He.DefD := ⟨("_law_is_way", none), "_law_is_way", "_law_is_way", defArgs s__law_is_way, defBody s__law_is_way, defScope s__law_is_way, [], []⟩
abbrev s_law : Stmt := top 55
def dd_law : He.DefD := ⟨("law", none), "law", "law", defArgs s_law, defBody s_law, defScope s_law, [], []⟩
abbrev s__law_word : Stmt := top 35
def dd__law_word : He.DefD := ⟨("_law_word", none), "_law_word", "_law_word", defArgs s__law_word, defBody s__law_word, defScope s__law_word, [], []⟩
abbrev s__law_told : Stmt := top 36
def dd__law_told : He.DefD := ⟨("_law_told", none), "_law_told", "_law_told", defArgs s__law_told, defBody s__law_told, defScope s__law_told, [], []⟩
theorem sc_fraction : FnScope (c_fraction XS).N ["top", "under"] (defScope s_fraction) := ⟨rfl, rfl, rfl, by decide +kernel, rfl, by decide +kernel, by decide +kernel⟩
theorem ck_fraction : chkSs (c_fraction XS) (defScope s_fraction) b_fraction (defBody s_fraction) = true := by decide +kernel
theorem sc_plus : FnScope (c_plus XS).N ["one", "other"] (defScope s_plus) := ⟨rfl, rfl, rfl, by decide +kernel, rfl, by decide +kernel, by decide +kernel⟩
theorem ck_plus : chkSs (c_plus XS) (defScope s_plus) b_plus (defBody s_plus) = true := by decide +kernel
theorem sc_minus : FnScope (c_minus XS).N ["one", "other"] (defScope s_minus) := ⟨rfl, rfl, rfl, by decide +kernel, rfl, by decide +kernel, by decide +kernel⟩
theorem ck_minus : chkSs (c_minus XS) (defScope s_minus) b_minus (defBody s_minus) = true := by decide +kernel
theorem sc_times : FnScope (c_times XS).N ["one", "other"] (defScope s_times) := ⟨rfl, rfl, rfl, by decide +kernel, rfl, by decide +kernel, by decide +kernel⟩
theorem ck_times : chkSs (c_times XS) (defScope s_times) b_times (defBody s_times) = true := by decide +kernel
theorem sc_over : FnScope (c_over XS).N ["one", "other"] (defScope s_over) := ⟨rfl, rfl, rfl, by decide +kernel, rfl, by decide +kernel, by decide +kernel⟩
theorem ck_over : chkSs (c_over XS) (defScope s_over) b_over (defBody s_over) = true := by decide +kernel
theorem sc_is_less : FnScope (c_is_less XS).N ["one", "other"] (defScope s_is_less) := ⟨rfl, rfl, rfl, by decide +kernel, rfl, by decide +kernel, by decide +kernel⟩
theorem ck_is_less : chkSs (c_is_less XS) (defScope s_is_less) b_is_less (defBody s_is_less) = true := by decide +kernel
theorem sc_step_from : FnScope (c_step_from XS).N ["one", "other"] (defScope s_step_from) := ⟨rfl, rfl, rfl, by decide +kernel, rfl, by decide +kernel, by decide +kernel⟩
theorem ck_step_from : chkSs (c_step_from XS) (defScope s_step_from) b_step_from (defBody s_step_from) = true := by decide +kernel
theorem sc_inner : FnScope (c_inner XS).N ["one", "other"] (defScope s_inner) := ⟨rfl, rfl, rfl, by decide +kernel, rfl, by decide +kernel, by decide +kernel⟩
theorem ck_inner : chkSs (c_inner XS) (defScope s_inner) b_inner (defBody s_inner) = true := by decide +kernel
theorem sc_across : FnScope (c_across XS).N ["one", "other"] (defScope s_across) := ⟨rfl, rfl, rfl, by decide +kernel, rfl, by decide +kernel, by decide +kernel⟩
theorem ck_across : chkSs (c_across XS) (defScope s_across) b_across (defBody s_across) = true := by decide +kernel
theorem sc_square_far : FnScope (c_square_far XS).N ["one", "other"] (defScope s_square_far) := ⟨rfl, rfl, rfl, by decide +kernel, rfl, by decide +kernel, by decide +kernel⟩
theorem ck_square_far : chkSs (c_square_far XS) (defScope s_square_far) b_square_far (defBody s_square_far) = true := by decide +kernel
theorem sc_point_at : FnScope (c_point_at XS).N ["wall", "share"] (defScope s_point_at) := ⟨rfl, rfl, rfl, by decide +kernel, rfl, by decide +kernel, by decide +kernel⟩
theorem ck_point_at : chkSs (c_point_at XS) (defScope s_point_at) b_point_at (defBody s_point_at) = true := by decide +kernel
theorem sc_nearest : FnScope (c_nearest XS).N ["wall", "point"] (defScope s_nearest) := ⟨rfl, rfl, rfl, by decide +kernel, rfl, by decide +kernel, by decide +kernel⟩
theorem ck_nearest : chkSs (c_nearest XS) (defScope s_nearest) b_nearest (defBody s_nearest) = true := by decide +kernel
theorem sc_crossing : FnScope (c_crossing XS).N ["one", "other"] (defScope s_crossing) := ⟨rfl, rfl, rfl, by decide +kernel, rfl, by decide +kernel, by decide +kernel⟩
theorem ck_crossing : chkSs (c_crossing XS) (defScope s_crossing) b_crossing (defBody s_crossing) = true := by decide +kernel
theorem sc_nearest_two : FnScope (c_nearest_two XS).N ["one", "other"] (defScope s_nearest_two) := ⟨rfl, rfl, rfl, by decide +kernel, rfl, by decide +kernel, by decide +kernel⟩
theorem ck_nearest_two : chkSs (c_nearest_two XS) (defScope s_nearest_two) b_nearest_two (defBody s_nearest_two) = true := by decide +kernel
theorem sc_apart : FnScope (c_apart XS).N ["one", "other"] (defScope s_apart) := ⟨rfl, rfl, rfl, by decide +kernel, rfl, by decide +kernel, by decide +kernel⟩
theorem ck_apart : chkSs (c_apart XS) (defScope s_apart) b_apart (defBody s_apart) = true := by decide +kernel
theorem sc_need_reach : FnScope (c_need_reach XS).N ["reach"] (defScope s_need_reach) := ⟨rfl, rfl, rfl, by decide +kernel, rfl, by decide +kernel, by decide +kernel⟩
theorem ck_need_reach : chkSs (c_need_reach XS) (defScope s_need_reach) b_need_reach (defBody s_need_reach) = true := by decide +kernel
theorem sc_need_walls : FnScope (c_need_walls XS).N ["walls", "reach"] (defScope s_need_walls) := ⟨rfl, rfl, rfl, by decide +kernel, rfl, by decide +kernel, by decide +kernel⟩
theorem ck_need_walls : chkSs (c_need_walls XS) (defScope s_need_walls) b_need_walls (defBody s_need_walls) = true := by decide +kernel
theorem sc_in_way : FnScope (c_in_way XS).N ["walls", "reach", "piece"] (defScope s_in_way) := ⟨rfl, rfl, rfl, by decide +kernel, rfl, by decide +kernel, by decide +kernel⟩
theorem ck_in_way : chkSs (c_in_way XS) (defScope s_in_way) b_in_way (defBody s_in_way) = true := by decide +kernel
theorem sc_is_way : FnScope (c_is_way XS).N ["walls", "reach", "start", "goal", "points"] (defScope s_is_way) := ⟨rfl, rfl, rfl, by decide +kernel, rfl, by decide +kernel, by decide +kernel⟩
theorem ck_is_way : chkSs (c_is_way XS) (defScope s_is_way) b_is_way (defBody s_is_way) = true := by decide +kernel
theorem sc__law_cell : FnScope (c__law_cell XS).N ["script", "k"] (defScope s__law_cell) := ⟨rfl, rfl, rfl, by decide +kernel, rfl, by decide +kernel, by decide +kernel⟩
theorem ck__law_cell : chkSs (c__law_cell XS) (defScope s__law_cell) b__law_cell (defBody s__law_cell) = true := by decide +kernel
theorem sc__law_drawn : FnScope (c__law_drawn XS).N ["cell", "k"] (defScope s__law_drawn) := ⟨rfl, rfl, rfl, by decide +kernel, rfl, by decide +kernel, by decide +kernel⟩
theorem ck__law_drawn : chkSs (c__law_drawn XS) (defScope s__law_drawn) b__law_drawn (defBody s__law_drawn) = true := by decide +kernel
theorem sc__law_made : FnScope (c__law_made XS).N ["top", "under"] (defScope s__law_made) := ⟨rfl, rfl, rfl, by decide +kernel, rfl, by decide +kernel, by decide +kernel⟩
theorem ck__law_made : chkSs (c__law_made XS) (defScope s__law_made) b__law_made (defBody s__law_made) = true := by decide +kernel
theorem sc__law_less : FnScope (c__law_less XS).N ["one", "other"] (defScope s__law_less) := ⟨rfl, rfl, rfl, by decide +kernel, rfl, by decide +kernel, by decide +kernel⟩
theorem ck__law_less : chkSs (c__law_less XS) (defScope s__law_less) b__law_less (defBody s__law_less) = true := by decide +kernel
theorem sc__law_minus : FnScope (c__law_minus XS).N ["one", "other"] (defScope s__law_minus) := ⟨rfl, rfl, rfl, by decide +kernel, rfl, by decide +kernel, by decide +kernel⟩
theorem ck__law_minus : chkSs (c__law_minus XS) (defScope s__law_minus) b__law_minus (defBody s__law_minus) = true := by decide +kernel
theorem sc__law_times : FnScope (c__law_times XS).N ["one", "other"] (defScope s__law_times) := ⟨rfl, rfl, rfl, by decide +kernel, rfl, by decide +kernel, by decide +kernel⟩
theorem ck__law_times : chkSs (c__law_times XS) (defScope s__law_times) b__law_times (defBody s__law_times) = true := by decide +kernel
theorem sc__law_plus : FnScope (c__law_plus XS).N ["one", "other"] (defScope s__law_plus) := ⟨rfl, rfl, rfl, by decide +kernel, rfl, by decide +kernel, by decide +kernel⟩
theorem ck__law_plus : chkSs (c__law_plus XS) (defScope s__law_plus) b__law_plus (defBody s__law_plus) = true := by decide +kernel
theorem sc__law_gone : FnScope (c__law_gone XS).N ["one", "other"] (defScope s__law_gone) := ⟨rfl, rfl, rfl, by decide +kernel, rfl, by decide +kernel, by decide +kernel⟩
theorem ck__law_gone : chkSs (c__law_gone XS) (defScope s__law_gone) b__law_gone (defBody s__law_gone) = true := by decide +kernel
theorem sc__law_inner : FnScope (c__law_inner XS).N ["one", "other"] (defScope s__law_inner) := ⟨rfl, rfl, rfl, by decide +kernel, rfl, by decide +kernel, by decide +kernel⟩
theorem ck__law_inner : chkSs (c__law_inner XS) (defScope s__law_inner) b__law_inner (defBody s__law_inner) = true := by decide +kernel
theorem sc__law_across : FnScope (c__law_across XS).N ["one", "other"] (defScope s__law_across) := ⟨rfl, rfl, rfl, by decide +kernel, rfl, by decide +kernel, by decide +kernel⟩
theorem ck__law_across : chkSs (c__law_across XS) (defScope s__law_across) b__law_across (defBody s__law_across) = true := by decide +kernel
theorem sc__law_square : FnScope (c__law_square XS).N ["one", "other"] (defScope s__law_square) := ⟨rfl, rfl, rfl, by decide +kernel, rfl, by decide +kernel, by decide +kernel⟩
theorem ck__law_square : chkSs (c__law_square XS) (defScope s__law_square) b__law_square (defBody s__law_square) = true := by decide +kernel
theorem sc__law_to_fence : FnScope (c__law_to_fence XS).N ["fence", "point"] (defScope s__law_to_fence) := ⟨rfl, rfl, rfl, by decide +kernel, rfl, by decide +kernel, by decide +kernel⟩
theorem ck__law_to_fence : chkSs (c__law_to_fence XS) (defScope s__law_to_fence) b__law_to_fence (defBody s__law_to_fence) = true := by decide +kernel
theorem sc__law_sense : FnScope (c__law_sense XS).N ["one", "other", "third"] (defScope s__law_sense) := ⟨rfl, rfl, rfl, by decide +kernel, rfl, by decide +kernel, by decide +kernel⟩
theorem ck__law_sense : chkSs (c__law_sense XS) (defScope s__law_sense) b__law_sense (defBody s__law_sense) = true := by decide +kernel
theorem sc__law_touch : FnScope (c__law_touch XS).N ["one", "other"] (defScope s__law_touch) := ⟨rfl, rfl, rfl, by decide +kernel, rfl, by decide +kernel, by decide +kernel⟩
theorem ck__law_touch : chkSs (c__law_touch XS) (defScope s__law_touch) b__law_touch (defBody s__law_touch) = true := by decide +kernel
theorem sc__law_apart : FnScope (c__law_apart XS).N ["one", "other"] (defScope s__law_apart) := ⟨rfl, rfl, rfl, by decide +kernel, rfl, by decide +kernel, by decide +kernel⟩
theorem ck__law_apart : chkSs (c__law_apart XS) (defScope s__law_apart) b__law_apart (defBody s__law_apart) = true := by decide +kernel
theorem sc__law_point : FnScope (c__law_point XS).N ["more"] (defScope s__law_point) := ⟨rfl, rfl, rfl, by decide +kernel, rfl, by decide +kernel, by decide +kernel⟩
theorem ck__law_point : chkSs (c__law_point XS) (defScope s__law_point) b__law_point (defBody s__law_point) = true := by decide +kernel
theorem sc__law_one_fence : FnScope (c__law_one_fence XS).N ["more"] (defScope s__law_one_fence) := ⟨rfl, rfl, rfl, by decide +kernel, rfl, by decide +kernel, by decide +kernel⟩
theorem ck__law_one_fence : chkSs (c__law_one_fence XS) (defScope s__law_one_fence) b__law_one_fence (defBody s__law_one_fence) = true := by decide +kernel
theorem sc__law_fences : FnScope (c__law_fences XS).N ["more", "most"] (defScope s__law_fences) := ⟨rfl, rfl, rfl, by decide +kernel, rfl, by decide +kernel, by decide +kernel⟩
theorem ck__law_fences : chkSs (c__law_fences XS) (defScope s__law_fences) b__law_fences (defBody s__law_fences) = true := by decide +kernel
theorem sc__law_reach : FnScope (c__law_reach XS).N ["more"] (defScope s__law_reach) := ⟨rfl, rfl, rfl, by decide +kernel, rfl, by decide +kernel, by decide +kernel⟩
theorem ck__law_reach : chkSs (c__law_reach XS) (defScope s__law_reach) b__law_reach (defBody s__law_reach) = true := by decide +kernel
theorem sc__law_is_way : FnScope (c__law_is_way XS).N ["fences", "reach", "start", "goal", "points"] (defScope s__law_is_way) := ⟨rfl, rfl, rfl, by decide +kernel, rfl, by decide +kernel, by decide +kernel⟩
theorem ck__law_is_way : chkSs (c__law_is_way XS) (defScope s__law_is_way) b__law_is_way (defBody s__law_is_way) = true := by decide +kernel
theorem sc_law : FnScope (c_law XS).N ["script"] (defScope s_law) := ⟨rfl, rfl, rfl, by decide +kernel, rfl, by decide +kernel, by decide +kernel⟩
theorem ck_law : chkSs (c_law XS) (defScope s_law) b_law (defBody s_law) = true := by decide +kernel
def fn : List He.DefD := [dd_fraction, dd_plus, dd_minus, dd_times, dd_over, dd_is_less, dd_step_from, dd_inner, dd_across, dd_square_far, dd_point_at, dd_nearest, dd_crossing, dd_nearest_two, dd_apart, dd_need_reach, dd_need_walls, dd_in_way, dd_is_way, dd__law_cell, dd__law_drawn, dd__law_made, dd__law_less, dd__law_minus, dd__law_times, dd__law_plus, dd__law_gone, dd__law_inner, dd__law_across, dd__law_square, dd__law_to_fence, dd__law_sense, dd__law_touch, dd__law_apart, dd__law_point, dd__law_one_fence, dd__law_fences, dd__law_reach, dd__law_is_way, dd_law, dd__law_word, dd__law_told]
def fa : List He.Fa := [.glo "fraction", .glo "plus", .glo "minus", .glo "times", .glo "over", .glo "is_less", .glo "step_from", .glo "inner", .glo "across", .glo "square_far", .glo "point_at", .glo "nearest", .glo "crossing", .glo "nearest_two", .glo "apart", .glo "need_reach", .glo "need_walls", .glo "in_way", .glo "is_way", .glo "_law_cell", .glo "_law_drawn", .glo "_law_made", .glo "_law_less", .glo "_law_minus", .glo "_law_times", .glo "_law_plus", .glo "_law_gone", .glo "_law_inner", .glo "_law_across", .glo "_law_square", .glo "_law_to_fence", .glo "_law_sense", .glo "_law_touch", .glo "_law_apart", .glo "_law_point", .glo "_law_one_fence", .glo "_law_fences", .glo "_law_reach", .glo "_law_is_way", .glo "law", .glo "NOUGHT", .glo "ONE", .int "MOST_WALLS" 40, .glo "_law_word", .glo "_law_told", .glo "RimError", .free "len", .free "abs", .free "int", .free "max", .free "min", .free "any", .free "all", .free "sum", .free "tuple", .free "list", .free "range", .free "enumerate", .free "zip", .free "reversed", .free "isinstance", .free "bool", .free "str", .free "ValueError", .glo "BadReach", .exc "BadReach", .glo "NoRoom", .exc "NoRoom", .glo "NoWall", .exc "NoWall", .glo "TooMany", .exc "TooMany"]
def cl (K : PySem.W.Frag) : Nat → Addr := fun k => He.ga K (XS.getD k "")
def exT (K : PySem.W.Frag) : Bool := He.tupB K "NOUGHT" [.int 0, .int 1] && He.tupB K "ONE" [.int 1, .int 1]
def exB (K : PySem.W.Frag) : Bool := exT K && wdB K (cl K) 4 (He.ga K "RimError")
def tf : List He.Defn := [("law", none)]
def TT (K : PySem.W.Frag) : List (Addr × Str) := [((He.cT K ("law", none)).2, (envOfC "law" (defScope s_law) 0 0 .none).qual ++ "<lambda>")]
def TBs (K : PySem.W.Frag) (mg : Str → Option Value) (base : Heap) : Prop := ∀ p ∈ tf, TabB base mg (He.cT K p).1 (He.cT K p).2
section
variable {P : Program} {w : World} {K : PySem.W.Frag} {mg : Str → Option Value} {base : Heap} {h : Heap}
theorem md (X : K.In h) (G : h.Ns mainGlobals mg) (c : He.SaysD fa fn K) : Md K mg (cl K) XS := by
  refine ⟨fun b => ?_, He.free_ok X G (c.fact 56), He.free_ok X G (c.fact 57), He.free_ok X G (c.fact 58), He.free_ok X G (c.fact 59), He.free_ok X G (c.fact 60), fun t => ?_, fun k x hx => ?_⟩
  · cases b
    · exact He.free_ok X G (c.fact 46)
    · exact He.free_ok X G (c.fact 47)
    · exact He.free_ok X G (c.fact 48)
    · exact He.free_ok X G (c.fact 49)
    · exact He.free_ok X G (c.fact 50)
    · exact He.free_ok X G (c.fact 51)
    · exact He.free_ok X G (c.fact 52)
    · exact He.free_ok X G (c.fact 53)
    · exact He.free_ok X G (c.fact 54)
    · exact He.free_ok X G (c.fact 55)
  · match t with
    | 0 => exact He.free_ok X G (c.fact 61)
    | 1 => exact He.free_ok X G (c.fact 55)
    | 2 => exact He.free_ok X G (c.fact 54)
    | n + 3 => exact He.free_ok X G (c.fact 62)
  · match k, hx with
    | 0, hx =>
      have e : x = "BadReach" := (Option.some.inj hx).symm
      subst e
      obtain ⟨e1, e2⟩ := He.ba (show _ = true from c.fact 65 (f := .exc "BadReach"))
      obtain ⟨e3, e4⟩ := He.ba e2
      obtain ⟨e5, e6⟩ := He.ba e4
      exact ⟨He.glo_ok X G (c.fact 64), e1, e3, of_decide_eq_true e5, of_decide_eq_true e6, by decide⟩
    | 1, hx =>
      have e : x = "NoRoom" := (Option.some.inj hx).symm
      subst e
      obtain ⟨e1, e2⟩ := He.ba (show _ = true from c.fact 67 (f := .exc "NoRoom"))
      obtain ⟨e3, e4⟩ := He.ba e2
      obtain ⟨e5, e6⟩ := He.ba e4
      exact ⟨He.glo_ok X G (c.fact 66), e1, e3, of_decide_eq_true e5, of_decide_eq_true e6, by decide⟩
    | 2, hx =>
      have e : x = "NoWall" := (Option.some.inj hx).symm
      subst e
      obtain ⟨e1, e2⟩ := He.ba (show _ = true from c.fact 69 (f := .exc "NoWall"))
      obtain ⟨e3, e4⟩ := He.ba e2
      obtain ⟨e5, e6⟩ := He.ba e4
      exact ⟨He.glo_ok X G (c.fact 68), e1, e3, of_decide_eq_true e5, of_decide_eq_true e6, by decide⟩
    | 3, hx =>
      have e : x = "TooMany" := (Option.some.inj hx).symm
      subst e
      obtain ⟨e1, e2⟩ := He.ba (show _ = true from c.fact 71 (f := .exc "TooMany"))
      obtain ⟨e3, e4⟩ := He.ba e2
      obtain ⟨e5, e6⟩ := He.ba e4
      exact ⟨He.glo_ok X G (c.fact 70), e1, e3, of_decide_eq_true e5, of_decide_eq_true e6, by decide⟩
    | n + 4, hx => simp [XS] at hx
theorem cs0 : Cs K mg [] [] := fun j x d h => by simp at h
theorem csC {x : Str} {d : D} {xs : List Str} {ds : List D} (h : ∃ v u, mg x = some u ∧ RelV v u ∧ ∀ H, Rp K H v d) (r : Cs K mg xs ds) : Cs K mg (x :: xs) (d :: ds) := fun j y e h1 h2 => by
  cases j with
  | zero => simp at h1 h2; subst h1 h2; exact h
  | succ j => exact r j y e (by simpa using h1) (by simpa using h2)
theorem k_NOUGHT (X : K.In h) (G : h.Ns mainGlobals mg) (c : He.SaysD fa fn K) (hx : exB K = true) : ∃ v u, mg "NOUGHT" = some u ∧ RelV v u ∧ ∀ H, Rp K H v (.tuple [.int 0, .int 1]) := by
  have hx' := (Bool.and_eq_true_iff.mp hx).1
  unfold exT at hx'
  simp only [Bool.and_eq_true] at hx'
  exact ⟨.ref (He.ga K "NOUGHT"), _, He.glo_ok X G (c.fact 40), rfl, fun H => .tup (He.tupB_ok hx'.1 H) (.cons (.int _) (.cons (.int _) (.nil)))⟩
theorem k_ONE (X : K.In h) (G : h.Ns mainGlobals mg) (c : He.SaysD fa fn K) (hx : exB K = true) : ∃ v u, mg "ONE" = some u ∧ RelV v u ∧ ∀ H, Rp K H v (.tuple [.int 1, .int 1]) := by
  have hx' := (Bool.and_eq_true_iff.mp hx).1
  unfold exT at hx'
  simp only [Bool.and_eq_true] at hx'
  exact ⟨.ref (He.ga K "ONE"), _, He.glo_ok X G (c.fact 41), rfl, fun H => .tup (He.tupB_ok hx'.2 H) (.cons (.int _) (.cons (.int _) (.nil)))⟩
theorem k_MOST_WALLS (X : K.In h) (G : h.Ns mainGlobals mg) (c : He.SaysD fa fn K) (hx : exB K = true) : ∃ v u, mg "MOST_WALLS" = some u ∧ RelV v u ∧ ∀ H, Rp K H v (.int 40) := by
  obtain ⟨t, e⟩ := He.int_ok X G (c.fact 42 (f := .int "MOST_WALLS" 40))
  exact ⟨.int 40, _, e, ⟨t, rfl⟩, fun H => .int _⟩
def wl1 : List (Str × P4) := [("BadReach", (⟨110, 13, 110, 23⟩, ⟨110, 24, 110, 25⟩, ⟨110, 27, 110, 35⟩, ⟨110, 13, 110, 36⟩)), ("NoRoom", (⟨110, 38, 110, 48⟩, ⟨110, 49, 110, 50⟩, ⟨110, 52, 110, 58⟩, ⟨110, 38, 110, 59⟩)), ("NoWall", (⟨110, 61, 110, 71⟩, ⟨110, 72, 110, 73⟩, ⟨110, 75, 110, 81⟩, ⟨110, 61, 110, 82⟩))]
def wl2 : List (Str × P4) := [("TooMany", (⟨111, 21, 111, 31⟩, ⟨111, 32, 111, 33⟩, ⟨111, 35, 111, 42⟩, ⟨111, 21, 111, 43⟩))]
def wws : List (Str × Pos) := [("BadReach", ⟨114, 12, 114, 22⟩), ("NoRoom", ⟨114, 24, 114, 32⟩), ("NoWall", ⟨114, 34, 114, 42⟩), ("TooMany", ⟨114, 44, 114, 53⟩)]
def wq : Nat → Pos := fun n => match n with
  | 0 => ⟨112, 12, 112, 15⟩
  | 1 => ⟨112, 16, 112, 20⟩
  | 2 => ⟨112, 12, 112, 21⟩
  | 3 => ⟨112, 26, 112, 30⟩
  | 4 => ⟨112, 34, 112, 39⟩
  | 5 => ⟨112, 11, 112, 40⟩
  | 10 => ⟨110, 4, 110, 9⟩
  | 11 => ⟨110, 12, 110, 83⟩
  | 12 => ⟨110, 4, 110, 83⟩
  | 13 => ⟨111, 4, 111, 9⟩
  | 14 => ⟨111, 12, 111, 17⟩
  | 15 => ⟨111, 20, 111, 44⟩
  | 16 => ⟨111, 12, 111, 44⟩
  | 17 => ⟨111, 4, 111, 44⟩
  | 18 => ⟨112, 7, 112, 10⟩
  | 19 => ⟨112, 7, 112, 41⟩
  | 20 => ⟨112, 45, 112, 46⟩
  | 21 => ⟨112, 7, 112, 46⟩
  | 22 => ⟨112, 50, 112, 79⟩
  | 23 => ⟨112, 7, 112, 79⟩
  | 24 => ⟨113, 15, 113, 22⟩
  | 25 => ⟨113, 8, 113, 22⟩
  | 26 => ⟨112, 4, 113, 22⟩
  | 27 => ⟨114, 11, 114, 54⟩
  | 28 => ⟨114, 55, 114, 60⟩
  | 29 => ⟨114, 55, 114, 66⟩
  | 30 => ⟨114, 67, 114, 71⟩
  | 31 => ⟨114, 55, 114, 72⟩
  | 32 => ⟨114, 11, 114, 73⟩
  | 33 => ⟨114, 4, 114, 73⟩
  | _ => ⟨0, 0, 0, 0⟩
def wq5 : P4 := (⟨112, 54, 112, 64⟩, ⟨112, 65, 112, 66⟩, ⟨112, 68, 112, 78⟩, ⟨112, 54, 112, 79⟩)
def wsc : Scope := match defBody s__law_word with | [_, _, .If (.BoolOp _ [.Compare (.Call _ [.ListComp _ _ sc _] _ _) _ _ _, _] _) _ _ _, _] => sc | _ => defScope s__law_word
theorem wbody : defBody s__law_word = wordB wl1 wl2 wws wq wsc wq5 := by kernel_rfl
theorem wd (X : K.In h) (G : h.Ns mainGlobals mg) (c : He.SaysD fa fn K) (hx : exB K = true) : Wd K mg (cl K) (wordsAll.take 4) (He.fAd K dd__law_word.at_) (He.ga K "RimError") := by
  obtain ⟨fd, F⟩ := c.def_ 40 (d := dd__law_word) rfl
  have F1 : FunD K "_law_word" "_law_word" (defArgs s__law_word) (wordB wl1 wl2 wws wq wsc wq5) (defScope s__law_word) [] [] (He.fAd K dd__law_word.at_) fd := by rw [← wbody]; exact F
  obtain ⟨k1, k2, k3, k4⟩ := wdB_ok (Bool.and_eq_true_iff.mp hx).2
  refine ⟨⟨fd, defArgs s__law_word, wl1, wl2, wws, wq, wsc, defScope s__law_word, wq5, F1, (F.bindsN fun _ _ _ _ _ _ us hl => match us, hl with | [_], _ => rfl), ⟨rfl, rfl, rfl, by decide +kernel, rfl, by decide +kernel, by decide +kernel⟩, by decide +kernel, by decide +kernel, by decide +kernel, by decide +kernel, by decide +kernel, ?_, by decide +kernel, by decide +kernel, by decide +kernel, by decide +kernel, by decide +kernel, by decide +kernel, fun i cc qq e => ?_⟩, He.glo_ok X G (c.fact 43), F.kp, He.free_ok X G (c.fact 60), He.free_ok X G (c.fact 53), He.free_ok X G (c.fact 63), He.free_ok X G (c.fact 48), He.glo_ok X G (c.fact 45), fun j hj => k1 j hj, fun j hj => k2 j hj, fun j i hj hi => k3 j i hj hi, fun j hj => k4 j hj⟩
  · exact ⟨by decide +kernel, by decide +kernel, by decide +kernel, by decide +kernel, by decide +kernel⟩
  · match i, e with
    | 0, e =>
      have e1 : "BadReach" = cc := congrArg Prod.fst (Option.some.inj e)
      subst e1
      exact ⟨by decide +kernel, by decide, He.glo_ok X G (c.fact 64)⟩
    | 1, e =>
      have e1 : "NoRoom" = cc := congrArg Prod.fst (Option.some.inj e)
      subst e1
      exact ⟨by decide +kernel, by decide, He.glo_ok X G (c.fact 66)⟩
    | 2, e =>
      have e1 : "NoWall" = cc := congrArg Prod.fst (Option.some.inj e)
      subst e1
      exact ⟨by decide +kernel, by decide, He.glo_ok X G (c.fact 68)⟩
    | 3, e =>
      have e1 : "TooMany" = cc := congrArg Prod.fst (Option.some.inj e)
      subst e1
      exact ⟨by decide +kernel, by decide, He.glo_ok X G (c.fact 70)⟩
    | n + 4, e => simp [wl1, wl2] at e
def tq : Nat → Pos := fun n => match n with
  | 0 => ⟨117, 15, 117, 19⟩
  | 1 => ⟨117, 15, 117, 21⟩
  | 2 => ⟨117, 8, 117, 21⟩
  | 3 => ⟨118, 11, 118, 19⟩
  | 4 => ⟨119, 15, 119, 24⟩
  | 5 => ⟨119, 25, 119, 26⟩
  | 6 => ⟨119, 15, 119, 27⟩
  | 7 => ⟨119, 8, 119, 27⟩
  | 8 => ⟨118, 4, 119, 27⟩
  | 9 => ⟨116, 4, 119, 27⟩
  | _ => ⟨0, 0, 0, 0⟩
theorem td (X : K.In h) (G : h.Ns mainGlobals mg) (c : He.SaysD fa fn K) : Td K mg (He.fAd K dd__law_told.at_) := by
  obtain ⟨fd, F⟩ := c.def_ 41 (d := dd__law_told) rfl
  exact ⟨⟨fd, defArgs s__law_told, defScope s__law_told, tq, F, (F.bindsN fun _ _ _ _ _ _ us hl => match us, hl with | [_], _ => rfl), ⟨rfl, rfl, rfl, by decide +kernel, rfl, by decide +kernel, by decide +kernel⟩, by decide +kernel, by decide +kernel, by decide +kernel, by decide +kernel⟩, He.glo_ok X G (c.fact 44), F.kp⟩
theorem r_fraction (X : K.In h) (G : h.Ns mainGlobals mg) (c : He.SaysD fa fn K) (hx : exB K = true) (hT : TBs K mg base) : Real P w K mg base (TT K) (cl K) 1 "fraction" 2 d_fraction := by
  obtain ⟨fd, F⟩ := c.def_ 0 (d := dd_fraction)
  exact real_def (k := 0) (c := c_fraction XS) (Γ := ⟨[], []⟩) (m := b_fraction) F (He.glo_ok X G (c.fact 0)) (F.bindsN fun _ _ _ _ _ _ us hl => match us, hl with | [_, _], _ => rfl) sc_fraction (md X G c) cs0 (True.intro) ck_fraction rfl
theorem r_plus (X : K.In h) (G : h.Ns mainGlobals mg) (c : He.SaysD fa fn K) (hx : exB K = true) (hT : TBs K mg base) : Real P w K mg base (TT K) (cl K) 2 "plus" 2 d_plus := by
  obtain ⟨fd, F⟩ := c.def_ 1 (d := dd_plus)
  exact real_def (k := 1) (c := c_plus XS) (Γ := ⟨[(2, d_fraction)], []⟩) (m := b_plus) F (He.glo_ok X G (c.fact 1)) (F.bindsN fun _ _ _ _ _ _ us hl => match us, hl with | [_, _], _ => rfl) sc_plus (md X G c) cs0 (⟨(r_fraction X G c hx hT).mono (by decide), True.intro⟩) ck_plus rfl
theorem r_minus (X : K.In h) (G : h.Ns mainGlobals mg) (c : He.SaysD fa fn K) (hx : exB K = true) (hT : TBs K mg base) : Real P w K mg base (TT K) (cl K) 2 "minus" 2 d_minus := by
  obtain ⟨fd, F⟩ := c.def_ 2 (d := dd_minus)
  exact real_def (k := 1) (c := c_minus XS) (Γ := ⟨[(2, d_fraction)], []⟩) (m := b_minus) F (He.glo_ok X G (c.fact 2)) (F.bindsN fun _ _ _ _ _ _ us hl => match us, hl with | [_, _], _ => rfl) sc_minus (md X G c) cs0 (⟨(r_fraction X G c hx hT).mono (by decide), True.intro⟩) ck_minus rfl
theorem r_times (X : K.In h) (G : h.Ns mainGlobals mg) (c : He.SaysD fa fn K) (hx : exB K = true) (hT : TBs K mg base) : Real P w K mg base (TT K) (cl K) 2 "times" 2 d_times := by
  obtain ⟨fd, F⟩ := c.def_ 3 (d := dd_times)
  exact real_def (k := 1) (c := c_times XS) (Γ := ⟨[(2, d_fraction)], []⟩) (m := b_times) F (He.glo_ok X G (c.fact 3)) (F.bindsN fun _ _ _ _ _ _ us hl => match us, hl with | [_, _], _ => rfl) sc_times (md X G c) cs0 (⟨(r_fraction X G c hx hT).mono (by decide), True.intro⟩) ck_times rfl
theorem r_over (X : K.In h) (G : h.Ns mainGlobals mg) (c : He.SaysD fa fn K) (hx : exB K = true) (hT : TBs K mg base) : Real P w K mg base (TT K) (cl K) 2 "over" 2 d_over := by
  obtain ⟨fd, F⟩ := c.def_ 4 (d := dd_over)
  exact real_def (k := 1) (c := c_over XS) (Γ := ⟨[(2, d_fraction)], []⟩) (m := b_over) F (He.glo_ok X G (c.fact 4)) (F.bindsN fun _ _ _ _ _ _ us hl => match us, hl with | [_, _], _ => rfl) sc_over (md X G c) cs0 (⟨(r_fraction X G c hx hT).mono (by decide), True.intro⟩) ck_over rfl
theorem r_is_less (X : K.In h) (G : h.Ns mainGlobals mg) (c : He.SaysD fa fn K) (hx : exB K = true) (hT : TBs K mg base) : Real P w K mg base (TT K) (cl K) 1 "is_less" 2 d_is_less := by
  obtain ⟨fd, F⟩ := c.def_ 5 (d := dd_is_less)
  exact real_def (k := 0) (c := c_is_less XS) (Γ := ⟨[], []⟩) (m := b_is_less) F (He.glo_ok X G (c.fact 5)) (F.bindsN fun _ _ _ _ _ _ us hl => match us, hl with | [_, _], _ => rfl) sc_is_less (md X G c) cs0 (True.intro) ck_is_less rfl
theorem r_step_from (X : K.In h) (G : h.Ns mainGlobals mg) (c : He.SaysD fa fn K) (hx : exB K = true) (hT : TBs K mg base) : Real P w K mg base (TT K) (cl K) 3 "step_from" 2 d_step_from := by
  obtain ⟨fd, F⟩ := c.def_ 6 (d := dd_step_from)
  exact real_def (k := 2) (c := c_step_from XS) (Γ := ⟨[(2, d_minus)], []⟩) (m := b_step_from) F (He.glo_ok X G (c.fact 6)) (F.bindsN fun _ _ _ _ _ _ us hl => match us, hl with | [_, _], _ => rfl) sc_step_from (md X G c) cs0 (⟨(r_minus X G c hx hT).mono (by decide), True.intro⟩) ck_step_from rfl
theorem r_inner (X : K.In h) (G : h.Ns mainGlobals mg) (c : He.SaysD fa fn K) (hx : exB K = true) (hT : TBs K mg base) : Real P w K mg base (TT K) (cl K) 3 "inner" 2 d_inner := by
  obtain ⟨fd, F⟩ := c.def_ 7 (d := dd_inner)
  exact real_def (k := 2) (c := c_inner XS) (Γ := ⟨[(2, d_plus), (2, d_times)], []⟩) (m := b_inner) F (He.glo_ok X G (c.fact 7)) (F.bindsN fun _ _ _ _ _ _ us hl => match us, hl with | [_, _], _ => rfl) sc_inner (md X G c) cs0 (⟨(r_plus X G c hx hT).mono (by decide), ⟨(r_times X G c hx hT).mono (by decide), True.intro⟩⟩) ck_inner rfl
theorem r_across (X : K.In h) (G : h.Ns mainGlobals mg) (c : He.SaysD fa fn K) (hx : exB K = true) (hT : TBs K mg base) : Real P w K mg base (TT K) (cl K) 3 "across" 2 d_across := by
  obtain ⟨fd, F⟩ := c.def_ 8 (d := dd_across)
  exact real_def (k := 2) (c := c_across XS) (Γ := ⟨[(2, d_minus), (2, d_times)], []⟩) (m := b_across) F (He.glo_ok X G (c.fact 8)) (F.bindsN fun _ _ _ _ _ _ us hl => match us, hl with | [_, _], _ => rfl) sc_across (md X G c) cs0 (⟨(r_minus X G c hx hT).mono (by decide), ⟨(r_times X G c hx hT).mono (by decide), True.intro⟩⟩) ck_across rfl
theorem r_square_far (X : K.In h) (G : h.Ns mainGlobals mg) (c : He.SaysD fa fn K) (hx : exB K = true) (hT : TBs K mg base) : Real P w K mg base (TT K) (cl K) 4 "square_far" 2 d_square_far := by
  obtain ⟨fd, F⟩ := c.def_ 9 (d := dd_square_far)
  exact real_def (k := 3) (c := c_square_far XS) (Γ := ⟨[(2, d_step_from), (2, d_inner)], []⟩) (m := b_square_far) F (He.glo_ok X G (c.fact 9)) (F.bindsN fun _ _ _ _ _ _ us hl => match us, hl with | [_, _], _ => rfl) sc_square_far (md X G c) cs0 (⟨(r_step_from X G c hx hT).mono (by decide), ⟨(r_inner X G c hx hT).mono (by decide), True.intro⟩⟩) ck_square_far rfl
theorem r_point_at (X : K.In h) (G : h.Ns mainGlobals mg) (c : He.SaysD fa fn K) (hx : exB K = true) (hT : TBs K mg base) : Real P w K mg base (TT K) (cl K) 4 "point_at" 2 d_point_at := by
  obtain ⟨fd, F⟩ := c.def_ 10 (d := dd_point_at)
  exact real_def (k := 3) (c := c_point_at XS) (Γ := ⟨[(2, d_step_from), (2, d_plus), (2, d_times)], []⟩) (m := b_point_at) F (He.glo_ok X G (c.fact 10)) (F.bindsN fun _ _ _ _ _ _ us hl => match us, hl with | [_, _], _ => rfl) sc_point_at (md X G c) cs0 (⟨(r_step_from X G c hx hT).mono (by decide), ⟨(r_plus X G c hx hT).mono (by decide), ⟨(r_times X G c hx hT).mono (by decide), True.intro⟩⟩⟩) ck_point_at rfl
theorem r_nearest (X : K.In h) (G : h.Ns mainGlobals mg) (c : He.SaysD fa fn K) (hx : exB K = true) (hT : TBs K mg base) : Real P w K mg base (TT K) (cl K) 5 "nearest" 2 d_nearest := by
  obtain ⟨fd, F⟩ := c.def_ 11 (d := dd_nearest)
  exact real_def (k := 4) (c := c_nearest XS) (Γ := ⟨[(2, d_step_from), (2, d_inner), (2, d_over), (2, d_is_less), (2, d_point_at)], [.tuple [.int 0, .int 1], .tuple [.int 1, .int 1]]⟩) (m := b_nearest) F (He.glo_ok X G (c.fact 11)) (F.bindsN fun _ _ _ _ _ _ us hl => match us, hl with | [_, _], _ => rfl) sc_nearest (md X G c) (csC (k_NOUGHT X G c hx) (csC (k_ONE X G c hx) cs0)) (⟨(r_step_from X G c hx hT).mono (by decide), ⟨(r_inner X G c hx hT).mono (by decide), ⟨(r_over X G c hx hT).mono (by decide), ⟨(r_is_less X G c hx hT).mono (by decide), ⟨(r_point_at X G c hx hT).mono (by decide), True.intro⟩⟩⟩⟩⟩) ck_nearest rfl
theorem r_crossing (X : K.In h) (G : h.Ns mainGlobals mg) (c : He.SaysD fa fn K) (hx : exB K = true) (hT : TBs K mg base) : Real P w K mg base (TT K) (cl K) 5 "crossing" 2 d_crossing := by
  obtain ⟨fd, F⟩ := c.def_ 12 (d := dd_crossing)
  exact real_def (k := 4) (c := c_crossing XS) (Γ := ⟨[(2, d_step_from), (2, d_across), (2, d_over), (2, d_is_less), (2, d_point_at)], [.tuple [.int 0, .int 1], .tuple [.int 1, .int 1]]⟩) (m := b_crossing) F (He.glo_ok X G (c.fact 12)) (F.bindsN fun _ _ _ _ _ _ us hl => match us, hl with | [_, _], _ => rfl) sc_crossing (md X G c) (csC (k_NOUGHT X G c hx) (csC (k_ONE X G c hx) cs0)) (⟨(r_step_from X G c hx hT).mono (by decide), ⟨(r_across X G c hx hT).mono (by decide), ⟨(r_over X G c hx hT).mono (by decide), ⟨(r_is_less X G c hx hT).mono (by decide), ⟨(r_point_at X G c hx hT).mono (by decide), True.intro⟩⟩⟩⟩⟩) ck_crossing rfl
theorem r_nearest_two (X : K.In h) (G : h.Ns mainGlobals mg) (c : He.SaysD fa fn K) (hx : exB K = true) (hT : TBs K mg base) : Real P w K mg base (TT K) (cl K) 6 "nearest_two" 2 d_nearest_two := by
  obtain ⟨fd, F⟩ := c.def_ 13 (d := dd_nearest_two)
  exact real_def (k := 5) (c := c_nearest_two XS) (Γ := ⟨[(2, d_crossing), (2, d_nearest), (2, d_is_less), (2, d_square_far)], []⟩) (m := b_nearest_two) F (He.glo_ok X G (c.fact 13)) (F.bindsN fun _ _ _ _ _ _ us hl => match us, hl with | [_, _], _ => rfl) sc_nearest_two (md X G c) cs0 (⟨(r_crossing X G c hx hT).mono (by decide), ⟨(r_nearest X G c hx hT).mono (by decide), ⟨(r_is_less X G c hx hT).mono (by decide), ⟨(r_square_far X G c hx hT).mono (by decide), True.intro⟩⟩⟩⟩) ck_nearest_two rfl
theorem r_apart (X : K.In h) (G : h.Ns mainGlobals mg) (c : He.SaysD fa fn K) (hx : exB K = true) (hT : TBs K mg base) : Real P w K mg base (TT K) (cl K) 7 "apart" 2 d_apart := by
  obtain ⟨fd, F⟩ := c.def_ 14 (d := dd_apart)
  exact real_def (k := 6) (c := c_apart XS) (Γ := ⟨[(2, d_nearest_two), (2, d_square_far)], []⟩) (m := b_apart) F (He.glo_ok X G (c.fact 14)) (F.bindsN fun _ _ _ _ _ _ us hl => match us, hl with | [_, _], _ => rfl) sc_apart (md X G c) cs0 (⟨(r_nearest_two X G c hx hT).mono (by decide), ⟨(r_square_far X G c hx hT).mono (by decide), True.intro⟩⟩) ck_apart rfl
theorem r_need_reach (X : K.In h) (G : h.Ns mainGlobals mg) (c : He.SaysD fa fn K) (hx : exB K = true) (hT : TBs K mg base) : Real P w K mg base (TT K) (cl K) 2 "need_reach" 1 d_need_reach := by
  obtain ⟨fd, F⟩ := c.def_ 15 (d := dd_need_reach)
  exact real_def (k := 1) (c := c_need_reach XS) (Γ := ⟨[(2, d_is_less)], [.tuple [.int 0, .int 1]]⟩) (m := b_need_reach) F (He.glo_ok X G (c.fact 15)) (F.bindsN fun _ _ _ _ _ _ us hl => match us, hl with | [_], _ => rfl) sc_need_reach (md X G c) (csC (k_NOUGHT X G c hx) cs0) (⟨(r_is_less X G c hx hT).mono (by decide), True.intro⟩) ck_need_reach rfl
theorem r_need_walls (X : K.In h) (G : h.Ns mainGlobals mg) (c : He.SaysD fa fn K) (hx : exB K = true) (hT : TBs K mg base) : Real P w K mg base (TT K) (cl K) 3 "need_walls" 2 d_need_walls := by
  obtain ⟨fd, F⟩ := c.def_ 16 (d := dd_need_walls)
  exact real_def (k := 2) (c := c_need_walls XS) (Γ := ⟨[(1, d_need_reach)], [.int 40]⟩) (m := b_need_walls) F (He.glo_ok X G (c.fact 16)) (F.bindsN fun _ _ _ _ _ _ us hl => match us, hl with | [_, _], _ => rfl) sc_need_walls (md X G c) (csC (k_MOST_WALLS X G c hx) cs0) (⟨(r_need_reach X G c hx hT).mono (by decide), True.intro⟩) ck_need_walls rfl
theorem r_in_way (X : K.In h) (G : h.Ns mainGlobals mg) (c : He.SaysD fa fn K) (hx : exB K = true) (hT : TBs K mg base) : Real P w K mg base (TT K) (cl K) 8 "in_way" 3 d_in_way := by
  obtain ⟨fd, F⟩ := c.def_ 17 (d := dd_in_way)
  exact real_def (k := 7) (c := c_in_way XS) (Γ := ⟨[(2, d_is_less), (2, d_apart)], []⟩) (m := b_in_way) F (He.glo_ok X G (c.fact 17)) (F.bindsN fun _ _ _ _ _ _ us hl => match us, hl with | [_, _, _], _ => rfl) sc_in_way (md X G c) cs0 (⟨(r_is_less X G c hx hT).mono (by decide), ⟨(r_apart X G c hx hT).mono (by decide), True.intro⟩⟩) ck_in_way rfl
theorem r_is_way (X : K.In h) (G : h.Ns mainGlobals mg) (c : He.SaysD fa fn K) (hx : exB K = true) (hT : TBs K mg base) : Real P w K mg base (TT K) (cl K) 9 "is_way" 5 d_is_way := by
  obtain ⟨fd, F⟩ := c.def_ 18 (d := dd_is_way)
  exact real_def (k := 8) (c := c_is_way XS) (Γ := ⟨[(2, d_need_walls), (3, d_in_way)], []⟩) (m := b_is_way) F (He.glo_ok X G (c.fact 18)) (F.bindsN fun _ _ _ _ _ _ us hl => match us, hl with | [_, _, _, _, _], _ => rfl) sc_is_way (md X G c) cs0 (⟨(r_need_walls X G c hx hT).mono (by decide), ⟨(r_in_way X G c hx hT).mono (by decide), True.intro⟩⟩) ck_is_way rfl
theorem r__law_cell (X : K.In h) (G : h.Ns mainGlobals mg) (c : He.SaysD fa fn K) (hx : exB K = true) (hT : TBs K mg base) : Real P w K mg base (TT K) (cl K) 1 "_law_cell" 2 d__law_cell := by
  obtain ⟨fd, F⟩ := c.def_ 19 (d := dd__law_cell)
  exact real_def (k := 0) (c := c__law_cell XS) (Γ := ⟨[], []⟩) (m := b__law_cell) F (He.glo_ok X G (c.fact 19)) (F.bindsN fun _ _ _ _ _ _ us hl => match us, hl with | [_, _], _ => rfl) sc__law_cell (md X G c) cs0 (True.intro) ck__law_cell rfl
theorem r__law_drawn (X : K.In h) (G : h.Ns mainGlobals mg) (c : He.SaysD fa fn K) (hx : exB K = true) (hT : TBs K mg base) : Real P w K mg base (TT K) (cl K) 1 "_law_drawn" 2 d__law_drawn := by
  obtain ⟨fd, F⟩ := c.def_ 20 (d := dd__law_drawn)
  exact real_def (k := 0) (c := c__law_drawn XS) (Γ := ⟨[], []⟩) (m := b__law_drawn) F (He.glo_ok X G (c.fact 20)) (F.bindsN fun _ _ _ _ _ _ us hl => match us, hl with | [_, _], _ => rfl) sc__law_drawn (md X G c) cs0 (True.intro) ck__law_drawn rfl
theorem r__law_made (X : K.In h) (G : h.Ns mainGlobals mg) (c : He.SaysD fa fn K) (hx : exB K = true) (hT : TBs K mg base) : Real P w K mg base (TT K) (cl K) 1 "_law_made" 2 d__law_made := by
  obtain ⟨fd, F⟩ := c.def_ 21 (d := dd__law_made)
  exact real_def (k := 0) (c := c__law_made XS) (Γ := ⟨[], []⟩) (m := b__law_made) F (He.glo_ok X G (c.fact 21)) (F.bindsN fun _ _ _ _ _ _ us hl => match us, hl with | [_, _], _ => rfl) sc__law_made (md X G c) cs0 (True.intro) ck__law_made rfl
theorem r__law_less (X : K.In h) (G : h.Ns mainGlobals mg) (c : He.SaysD fa fn K) (hx : exB K = true) (hT : TBs K mg base) : Real P w K mg base (TT K) (cl K) 1 "_law_less" 2 d__law_less := by
  obtain ⟨fd, F⟩ := c.def_ 22 (d := dd__law_less)
  exact real_def (k := 0) (c := c__law_less XS) (Γ := ⟨[], []⟩) (m := b__law_less) F (He.glo_ok X G (c.fact 22)) (F.bindsN fun _ _ _ _ _ _ us hl => match us, hl with | [_, _], _ => rfl) sc__law_less (md X G c) cs0 (True.intro) ck__law_less rfl
theorem r__law_minus (X : K.In h) (G : h.Ns mainGlobals mg) (c : He.SaysD fa fn K) (hx : exB K = true) (hT : TBs K mg base) : Real P w K mg base (TT K) (cl K) 2 "_law_minus" 2 d__law_minus := by
  obtain ⟨fd, F⟩ := c.def_ 23 (d := dd__law_minus)
  exact real_def (k := 1) (c := c__law_minus XS) (Γ := ⟨[(2, d__law_made)], []⟩) (m := b__law_minus) F (He.glo_ok X G (c.fact 23)) (F.bindsN fun _ _ _ _ _ _ us hl => match us, hl with | [_, _], _ => rfl) sc__law_minus (md X G c) cs0 (⟨(r__law_made X G c hx hT).mono (by decide), True.intro⟩) ck__law_minus rfl
theorem r__law_times (X : K.In h) (G : h.Ns mainGlobals mg) (c : He.SaysD fa fn K) (hx : exB K = true) (hT : TBs K mg base) : Real P w K mg base (TT K) (cl K) 2 "_law_times" 2 d__law_times := by
  obtain ⟨fd, F⟩ := c.def_ 24 (d := dd__law_times)
  exact real_def (k := 1) (c := c__law_times XS) (Γ := ⟨[(2, d__law_made)], []⟩) (m := b__law_times) F (He.glo_ok X G (c.fact 24)) (F.bindsN fun _ _ _ _ _ _ us hl => match us, hl with | [_, _], _ => rfl) sc__law_times (md X G c) cs0 (⟨(r__law_made X G c hx hT).mono (by decide), True.intro⟩) ck__law_times rfl
theorem r__law_plus (X : K.In h) (G : h.Ns mainGlobals mg) (c : He.SaysD fa fn K) (hx : exB K = true) (hT : TBs K mg base) : Real P w K mg base (TT K) (cl K) 2 "_law_plus" 2 d__law_plus := by
  obtain ⟨fd, F⟩ := c.def_ 25 (d := dd__law_plus)
  exact real_def (k := 1) (c := c__law_plus XS) (Γ := ⟨[(2, d__law_made)], []⟩) (m := b__law_plus) F (He.glo_ok X G (c.fact 25)) (F.bindsN fun _ _ _ _ _ _ us hl => match us, hl with | [_, _], _ => rfl) sc__law_plus (md X G c) cs0 (⟨(r__law_made X G c hx hT).mono (by decide), True.intro⟩) ck__law_plus rfl
theorem r__law_gone (X : K.In h) (G : h.Ns mainGlobals mg) (c : He.SaysD fa fn K) (hx : exB K = true) (hT : TBs K mg base) : Real P w K mg base (TT K) (cl K) 3 "_law_gone" 2 d__law_gone := by
  obtain ⟨fd, F⟩ := c.def_ 26 (d := dd__law_gone)
  exact real_def (k := 2) (c := c__law_gone XS) (Γ := ⟨[(2, d__law_minus)], []⟩) (m := b__law_gone) F (He.glo_ok X G (c.fact 26)) (F.bindsN fun _ _ _ _ _ _ us hl => match us, hl with | [_, _], _ => rfl) sc__law_gone (md X G c) cs0 (⟨(r__law_minus X G c hx hT).mono (by decide), True.intro⟩) ck__law_gone rfl
theorem r__law_inner (X : K.In h) (G : h.Ns mainGlobals mg) (c : He.SaysD fa fn K) (hx : exB K = true) (hT : TBs K mg base) : Real P w K mg base (TT K) (cl K) 3 "_law_inner" 2 d__law_inner := by
  obtain ⟨fd, F⟩ := c.def_ 27 (d := dd__law_inner)
  exact real_def (k := 2) (c := c__law_inner XS) (Γ := ⟨[(2, d__law_plus), (2, d__law_times)], []⟩) (m := b__law_inner) F (He.glo_ok X G (c.fact 27)) (F.bindsN fun _ _ _ _ _ _ us hl => match us, hl with | [_, _], _ => rfl) sc__law_inner (md X G c) cs0 (⟨(r__law_plus X G c hx hT).mono (by decide), ⟨(r__law_times X G c hx hT).mono (by decide), True.intro⟩⟩) ck__law_inner rfl
theorem r__law_across (X : K.In h) (G : h.Ns mainGlobals mg) (c : He.SaysD fa fn K) (hx : exB K = true) (hT : TBs K mg base) : Real P w K mg base (TT K) (cl K) 3 "_law_across" 2 d__law_across := by
  obtain ⟨fd, F⟩ := c.def_ 28 (d := dd__law_across)
  exact real_def (k := 2) (c := c__law_across XS) (Γ := ⟨[(2, d__law_minus), (2, d__law_times)], []⟩) (m := b__law_across) F (He.glo_ok X G (c.fact 28)) (F.bindsN fun _ _ _ _ _ _ us hl => match us, hl with | [_, _], _ => rfl) sc__law_across (md X G c) cs0 (⟨(r__law_minus X G c hx hT).mono (by decide), ⟨(r__law_times X G c hx hT).mono (by decide), True.intro⟩⟩) ck__law_across rfl
theorem r__law_square (X : K.In h) (G : h.Ns mainGlobals mg) (c : He.SaysD fa fn K) (hx : exB K = true) (hT : TBs K mg base) : Real P w K mg base (TT K) (cl K) 4 "_law_square" 2 d__law_square := by
  obtain ⟨fd, F⟩ := c.def_ 29 (d := dd__law_square)
  exact real_def (k := 3) (c := c__law_square XS) (Γ := ⟨[(2, d__law_inner), (2, d__law_gone)], []⟩) (m := b__law_square) F (He.glo_ok X G (c.fact 29)) (F.bindsN fun _ _ _ _ _ _ us hl => match us, hl with | [_, _], _ => rfl) sc__law_square (md X G c) cs0 (⟨(r__law_inner X G c hx hT).mono (by decide), ⟨(r__law_gone X G c hx hT).mono (by decide), True.intro⟩⟩) ck__law_square rfl
theorem r__law_to_fence (X : K.In h) (G : h.Ns mainGlobals mg) (c : He.SaysD fa fn K) (hx : exB K = true) (hT : TBs K mg base) : Real P w K mg base (TT K) (cl K) 5 "_law_to_fence" 2 d__law_to_fence := by
  obtain ⟨fd, F⟩ := c.def_ 30 (d := dd__law_to_fence)
  exact real_def (k := 4) (c := c__law_to_fence XS) (Γ := ⟨[(2, d__law_gone), (2, d__law_inner), (2, d__law_square), (2, d__law_less), (2, d__law_across), (2, d__law_times), (2, d__law_made)], []⟩) (m := b__law_to_fence) F (He.glo_ok X G (c.fact 30)) (F.bindsN fun _ _ _ _ _ _ us hl => match us, hl with | [_, _], _ => rfl) sc__law_to_fence (md X G c) cs0 (⟨(r__law_gone X G c hx hT).mono (by decide), ⟨(r__law_inner X G c hx hT).mono (by decide), ⟨(r__law_square X G c hx hT).mono (by decide), ⟨(r__law_less X G c hx hT).mono (by decide), ⟨(r__law_across X G c hx hT).mono (by decide), ⟨(r__law_times X G c hx hT).mono (by decide), ⟨(r__law_made X G c hx hT).mono (by decide), True.intro⟩⟩⟩⟩⟩⟩⟩) ck__law_to_fence rfl
theorem r__law_sense (X : K.In h) (G : h.Ns mainGlobals mg) (c : He.SaysD fa fn K) (hx : exB K = true) (hT : TBs K mg base) : Real P w K mg base (TT K) (cl K) 4 "_law_sense" 3 d__law_sense := by
  obtain ⟨fd, F⟩ := c.def_ 31 (d := dd__law_sense)
  exact real_def (k := 3) (c := c__law_sense XS) (Γ := ⟨[(2, d__law_across), (2, d__law_gone)], []⟩) (m := b__law_sense) F (He.glo_ok X G (c.fact 31)) (F.bindsN fun _ _ _ _ _ _ us hl => match us, hl with | [_, _, _], _ => rfl) sc__law_sense (md X G c) cs0 (⟨(r__law_across X G c hx hT).mono (by decide), ⟨(r__law_gone X G c hx hT).mono (by decide), True.intro⟩⟩) ck__law_sense rfl
theorem r__law_touch (X : K.In h) (G : h.Ns mainGlobals mg) (c : He.SaysD fa fn K) (hx : exB K = true) (hT : TBs K mg base) : Real P w K mg base (TT K) (cl K) 6 "_law_touch" 2 d__law_touch := by
  obtain ⟨fd, F⟩ := c.def_ 32 (d := dd__law_touch)
  exact real_def (k := 5) (c := c__law_touch XS) (Γ := ⟨[(2, d__law_to_fence), (3, d__law_sense)], []⟩) (m := b__law_touch) F (He.glo_ok X G (c.fact 32)) (F.bindsN fun _ _ _ _ _ _ us hl => match us, hl with | [_, _], _ => rfl) sc__law_touch (md X G c) cs0 (⟨(r__law_to_fence X G c hx hT).mono (by decide), ⟨(r__law_sense X G c hx hT).mono (by decide), True.intro⟩⟩) ck__law_touch rfl
theorem r__law_apart (X : K.In h) (G : h.Ns mainGlobals mg) (c : He.SaysD fa fn K) (hx : exB K = true) (hT : TBs K mg base) : Real P w K mg base (TT K) (cl K) 7 "_law_apart" 2 d__law_apart := by
  obtain ⟨fd, F⟩ := c.def_ 33 (d := dd__law_apart)
  exact real_def (k := 6) (c := c__law_apart XS) (Γ := ⟨[(2, d__law_touch), (2, d__law_to_fence), (2, d__law_less)], []⟩) (m := b__law_apart) F (He.glo_ok X G (c.fact 33)) (F.bindsN fun _ _ _ _ _ _ us hl => match us, hl with | [_, _], _ => rfl) sc__law_apart (md X G c) cs0 (⟨(r__law_touch X G c hx hT).mono (by decide), ⟨(r__law_to_fence X G c hx hT).mono (by decide), ⟨(r__law_less X G c hx hT).mono (by decide), True.intro⟩⟩⟩) ck__law_apart rfl
theorem r__law_point (X : K.In h) (G : h.Ns mainGlobals mg) (c : He.SaysD fa fn K) (hx : exB K = true) (hT : TBs K mg base) : Real P w K mg base (TT K) (cl K) 2 "_law_point" 1 d__law_point := by
  obtain ⟨fd, F⟩ := c.def_ 34 (d := dd__law_point)
  exact real_def (k := 1) (c := c__law_point XS) (Γ := ⟨[(2, d__law_made)], []⟩) (m := b__law_point) F (He.glo_ok X G (c.fact 34)) (F.bindsN fun _ _ _ _ _ _ us hl => match us, hl with | [_], _ => rfl) sc__law_point (md X G c) cs0 (⟨(r__law_made X G c hx hT).mono (by decide), True.intro⟩) ck__law_point rfl
theorem r__law_one_fence (X : K.In h) (G : h.Ns mainGlobals mg) (c : He.SaysD fa fn K) (hx : exB K = true) (hT : TBs K mg base) : Real P w K mg base (TT K) (cl K) 2 "_law_one_fence" 1 d__law_one_fence := by
  obtain ⟨fd, F⟩ := c.def_ 35 (d := dd__law_one_fence)
  exact real_def (k := 1) (c := c__law_one_fence XS) (Γ := ⟨[(2, d__law_made)], []⟩) (m := b__law_one_fence) F (He.glo_ok X G (c.fact 35)) (F.bindsN fun _ _ _ _ _ _ us hl => match us, hl with | [_], _ => rfl) sc__law_one_fence (md X G c) cs0 (⟨(r__law_made X G c hx hT).mono (by decide), True.intro⟩) ck__law_one_fence rfl
theorem r__law_fences (X : K.In h) (G : h.Ns mainGlobals mg) (c : He.SaysD fa fn K) (hx : exB K = true) (hT : TBs K mg base) : Real P w K mg base (TT K) (cl K) 3 "_law_fences" 2 d__law_fences := by
  obtain ⟨fd, F⟩ := c.def_ 36 (d := dd__law_fences)
  exact real_def (k := 2) (c := c__law_fences XS) (Γ := ⟨[(1, d__law_one_fence), (2, d__law_drawn)], []⟩) (m := b__law_fences) F (He.glo_ok X G (c.fact 36)) (F.bindsN fun _ _ _ _ _ _ us hl => match us, hl with | [_, _], _ => rfl) sc__law_fences (md X G c) cs0 (⟨(r__law_one_fence X G c hx hT).mono (by decide), ⟨(r__law_drawn X G c hx hT).mono (by decide), True.intro⟩⟩) ck__law_fences rfl
theorem r__law_reach (X : K.In h) (G : h.Ns mainGlobals mg) (c : He.SaysD fa fn K) (hx : exB K = true) (hT : TBs K mg base) : Real P w K mg base (TT K) (cl K) 2 "_law_reach" 1 d__law_reach := by
  obtain ⟨fd, F⟩ := c.def_ 37 (d := dd__law_reach)
  exact real_def (k := 1) (c := c__law_reach XS) (Γ := ⟨[(2, d__law_made)], []⟩) (m := b__law_reach) F (He.glo_ok X G (c.fact 37)) (F.bindsN fun _ _ _ _ _ _ us hl => match us, hl with | [_], _ => rfl) sc__law_reach (md X G c) cs0 (⟨(r__law_made X G c hx hT).mono (by decide), True.intro⟩) ck__law_reach rfl
theorem r__law_is_way (X : K.In h) (G : h.Ns mainGlobals mg) (c : He.SaysD fa fn K) (hx : exB K = true) (hT : TBs K mg base) : Real P w K mg base (TT K) (cl K) 8 "_law_is_way" 5 d__law_is_way := by
  obtain ⟨fd, F⟩ := c.def_ 38 (d := dd__law_is_way)
  exact real_def (k := 7) (c := c__law_is_way XS) (Γ := ⟨[(2, d__law_less), (2, d__law_to_fence), (2, d__law_apart)], []⟩) (m := b__law_is_way) F (He.glo_ok X G (c.fact 38)) (F.bindsN fun _ _ _ _ _ _ us hl => match us, hl with | [_, _, _, _, _], _ => rfl) sc__law_is_way (md X G c) cs0 (⟨(r__law_less X G c hx hT).mono (by decide), ⟨(r__law_to_fence X G c hx hT).mono (by decide), ⟨(r__law_apart X G c hx hT).mono (by decide), True.intro⟩⟩⟩) ck__law_is_way rfl
theorem r_law (X : K.In h) (G : h.Ns mainGlobals mg) (c : He.SaysD fa fn K) (hx : exB K = true) (hT : TBs K mg base) : Real P w K mg base (TT K) (cl K) 12 "law" 1 d_law := by
  obtain ⟨fd, F⟩ := c.def_ 39 (d := dd_law)
  exact ⟨_, _, _, He.glo_ok X G (c.fact 39), F.kp, (F.bindsN fun _ _ _ _ _ _ us hl => match us, hl with | [_], _ => rfl), real_fn (k := 9) (k2 := 11) (c := c_law XS) (Γ := ⟨[(2, d__law_drawn), (2, d__law_cell), (2, d__law_fences), (1, d__law_reach), (1, d__law_point), (5, d_is_way), (5, d__law_is_way)], []⟩) (m := b_law) F (He.glo_ok X G (c.fact 39)) (F.bindsN fun _ _ _ _ _ _ us hl => match us, hl with | [_], _ => rfl) sc_law (md X G c) cs0 (⟨(r__law_drawn X G c hx hT).mono (by decide), ⟨(r__law_cell X G c hx hT).mono (by decide), ⟨(r__law_fences X G c hx hT).mono (by decide), ⟨(r__law_reach X G c hx hT).mono (by decide), ⟨(r__law_point X G c hx hT).mono (by decide), ⟨(r_is_way X G c hx hT).mono (by decide), ⟨(r__law_is_way X G c hx hT).mono (by decide), True.intro⟩⟩⟩⟩⟩⟩⟩) ck_law (by decide) (fun _ => ⟨by decide, _, _, _, _, _, wd X G c hx, td X G c, hT ("law", none) (by decide), code_of F, (by unfold TT; exact List.mem_cons_self), (fun p hp _ => by unfold TT at hp; obtain rfl := List.mem_singleton.mp hp; rfl)⟩)⟩
theorem o_law (X : K.In h) (G : h.Ns mainGlobals mg) (c : He.SaysD fa fn K) (hx : exB K = true) (hT : TBs K mg base) {fd : FuncData} (F : FunD K dd_law.name dd_law.qual dd_law.params dd_law.body dd_law.scope (dd_law.dvs K) (dd_law.kws K) (He.fAd K dd_law.at_) fd) : FnOk P w K mg base (L2N.CX P w) 12 (He.fAd K dd_law.at_) fd ["script"] (spD K (TT K) (cl K) 1 d_law) := by
  exact real_fn (k := 9) (k2 := 11) (c := c_law XS) (Γ := ⟨[(2, d__law_drawn), (2, d__law_cell), (2, d__law_fences), (1, d__law_reach), (1, d__law_point), (5, d_is_way), (5, d__law_is_way)], []⟩) (m := b_law) F (He.glo_ok X G (c.fact 39)) (F.bindsN fun _ _ _ _ _ _ us hl => match us, hl with | [_], _ => rfl) sc_law (md X G c) cs0 (⟨(r__law_drawn X G c hx hT).mono (by decide), ⟨(r__law_cell X G c hx hT).mono (by decide), ⟨(r__law_fences X G c hx hT).mono (by decide), ⟨(r__law_reach X G c hx hT).mono (by decide), ⟨(r__law_point X G c hx hT).mono (by decide), ⟨(r_is_way X G c hx hT).mono (by decide), ⟨(r__law_is_way X G c hx hT).mono (by decide), True.intro⟩⟩⟩⟩⟩⟩⟩) ck_law (by decide) (fun _ => ⟨by decide, _, _, _, _, _, wd X G c hx, td X G c, hT ("law", none) (by decide), code_of F, (by unfold TT; exact List.mem_cons_self), (fun p hp _ => by unfold TT at hp; obtain rfl := List.mem_singleton.mp hp; rfl)⟩)
end
def names0 : List Str := ["__name__", "RimError", "BadReach", "NoRoom", "NoWall", "TooMany", "NOUGHT", "ONE", "fraction", "plus", "minus", "times", "over", "is_less", "step_from", "inner", "across", "square_far", "point_at", "nearest"]
def names1 : List Str := ["crossing", "nearest_two", "apart", "MOST_WALLS", "need_reach", "need_walls", "in_way", "is_way", "_law_cell", "_law_drawn", "_law_word", "_law_told", "_law_made", "_law_less", "_law_minus", "_law_times", "_law_plus", "_law_gone", "_law_inner", "_law_across"]
def names2 : List Str := ["_law_square", "_law_to_fence", "_law_sense", "_law_touch", "_law_apart", "_law_point", "_law_one_fence", "_law_fences", "_law_reach", "_law_is_way"]
def names : List Str := names0 ++ names1 ++ names2
abbrev R : PySem.W.OpenRow := PySem.W.OpenLaw.row PySem.Challenge.rw_rimway_k30_ways_looked_at
abbrev hk : PySem.W.Hook := He.hookX 5 fa fn [] tf exB
def ob (s : PySem.W.SharedT) : He.AlX := He.obsX 5 fa fn [] tf exB (HandSHeadRun.getT s)
theorem ob_eq (s : PySem.W.SharedT) : ob s = hk.obs s.abs := He.obsX_eq (HandSHeadRun.getT_eq s)
set_option maxHeartbeats 0
theorem run (w : World) : HandSHeadRun.RunEq R (PySem.W.view R.prog [55]) hk ob 8000 names w := by
  intro os
  kernel_rfl
/-- the law's own def -/
theorem facts {w : World} {K : PySem.W.Frag} {h : Heap} {mg : Str → Option Value} {f : Addr} (X : K.In h) (G : h.Ns mainGlobals mg) (hfa : mg ("law" : Str) = some (.ref f)) (c : He.SaysX fa fn [] tf exB w h K) (LT : ∀ ns : List Int, ns.length ≤ 63 → (∀ z ∈ ns, Builtin.Int.intBits z ≤ 1048576) → d_law [.dict (ns.map fun n => (.int n, .none))] = .ok (.bool true)) : LawAtS PySem.Challenge.rw_rimway_k30_ways_looked_at w K (L2N.CX (PySem.Challenge.rw_rimway_k30_ways_looked_at).prog w) 12 63 "script" mg f h := by
  obtain ⟨fd, F⟩ := c.t.d.def_ 39 (d := dd_law) rfl
  have e := hfa.symm.trans (He.glo_ok X G (c.t.d.fact 39 (f := .glo "law") rfl))
  cases e
  have b := FunD.bindsA (ps := ["script"]) F fun _ _ _ _ _ _ us hl => match us, hl with | [_], _ => rfl
  refine ⟨fd, tf.map (He.cT K), spD K (TT K) (cl K) 1 d_law, fun p hp => ?_, fun p hp => ?_, fun p hp => ?_, fun s v => b s [v] rfl, fun H a ns hl hz hE hS => ?_, fun base KB GB hT => ?_⟩
  · obtain ⟨q, hq, rfl⟩ := List.mem_map.mp hp
    exact c.empty q hq
  · obtain ⟨q, hq, rfl⟩ := List.mem_map.mp hp
    exact c.out q hq
  · obtain ⟨q, hq, rfl⟩ := List.mem_map.mp hp
    exact PySem.W.codeHd_of_K X (c.hd q hq)
  · refine ⟨rfl, [], [.dict (ns.map fun n => (.int n, .none))], by simp [OIn], (fun p hp => by
      simp only [TT, List.mem_cons, List.not_mem_nil, or_false] at hp
      rcases hp with rfl
      · exact TabS.nil (hE _ (List.mem_map.mpr ⟨("law", none), by decide, rfl⟩))), ?_, ?_⟩
    · have em : mask H [] = H := by funext z; simp [mask]
      rw [em]
      exact .cons (.scr ns hS) .nil
    · rw [LT ns hl hz]
      intro v H' _ _ r
      cases r
      rfl
  · exact o_law X G c.t.d c.more (fun p hp => hT (He.cT K p) (List.mem_map.mpr ⟨p, hp, rfl⟩)) F
end Row

open PySem PySem.W PySem.Calls PyProof.Rows in
theorem of_law (LT : ∀ ns : List Int, ns.length ≤ 63 → (∀ z ∈ ns, Builtin.Int.intBits z ≤ 1048576) → Mn.d_law [.dict (ns.map fun n => (.int n, .none))] = .ok (.bool true)) : PySem.Challenge.rw_rimway_k30_ways_looked_at.Holds := by
  w_on; o_law
  refine HandSHeadRun.head_any (r := OpenLaw.row PySem.Challenge.rw_rimway_k30_ways_looked_at) (q := view (OpenLaw.row PySem.Challenge.rw_rimway_k30_ways_looked_at).prog [55]) (H := Row.hk) (ob := Row.ob) (M := 8000) (loose := Row.names) (d := HandSHeadRun.topDef (OpenLaw.row PySem.Challenge.rw_rimway_k30_ways_looked_at).prog 55) (kwd := []) Row.ob_eq
    (by kernel_rfl) (fun s => by kernel_rfl) Row.run (by kernel_rfl) (by kernel_rfl) (by kernel_rfl) (by rfl) (by first | assumption | decide +kernel) (by decide +kernel) ⟨rfl, rfl, rfl, rfl, rfl, by decide +kernel⟩ ?hw ?hc
  case hw => w_witness2
  case hc =>
    refine LamX.walk_ofTsE (l := PySem.Challenge.rw_rimway_k30_ways_looked_at) (n := 63) (k := 12) (x := "script") (CX := fun w => L2N.CX (PySem.Challenge.rw_rimway_k30_ways_looked_at).prog w) rfl (by decide) (by kernel_rfl) ⟨rfl, by decide, by decide⟩ ?F ?hX
    · intro w mg fa h Y G hmg0
      obtain ⟨K, KX, c⟩ := Y
      have hmg : mg ("law" : PySem.Str) = some (.ref fa) := by
        have e : (HandSHeadRun.topDef (OpenLaw.row PySem.Challenge.rw_rimway_k30_ways_looked_at).prog 55).name = ("law" : PySem.Str) := by kernel_rfl
        rw [← e]
        exact hmg0
      exact ⟨K, KX, Row.facts KX G hmg c LT⟩
    · intro w H s e s' z
      obtain ⟨_, _, _, _, _, _, _, _, _, _, _, _, z⟩ := z
      exact z

theorem PySem.Challenge.cw_rimway_k30_ways_looked_at_holds : PySem.Challenge.rw_rimway_k30_ways_looked_at.Holds :=
  of_law fun ns hl _ => Mn.law_true ns hl
